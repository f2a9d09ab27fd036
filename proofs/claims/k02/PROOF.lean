import PyProof.Rows.All
import Wide.All
import OpenK.AllK
import Wide.FinOn
import HandS.Nested
import HandS.NestedK
import HandS.EndTab
import HandS.ForMost
import HandS.Exc
import HandS.ExcOwn
import HandS.TryOnly
import HandS.WordsExc
import HandS.Wide
import HandS.WideBits
import HandS.Defaults
import HandS.IsInst
import HandS.Deep
import HandS.Conv
import HandS.TupAny
import HandS.Zip
import HandS.Head0
import HandS.Head1
import HandS.Head2
import HandS.HeadEnd
import HandS.HeadHook1
import HandS.Style
import HandS.More
import HandS.NoneIn
import HandS.HeadHook2
import HandS.EndBits
import HandS.Text
import HandS.SortInts
import KE.KNestM
import HandS.ExcIs
import HandS.Dict
import PySem.Challenge.RW_hedgewright_k02_unfoldings
set_option Elab.async false
set_option linter.all false
set_option maxRecDepth 100000
set_option maxHeartbeats 8000000
set_option exponentiation.threshold 20000
/-! A def within a def, made: its code object and that one's own table are known from then on. -/
namespace NX
open PySem PySem.Spec PyProof.Rows L2 LamX NdefX
section
variable {M : Model} {A : Around} {E : Value → Shared → Prop} {s : Shared} {name qual : Str} {params : Arguments} {body : List Stmt} {scope : Scope} {env : Env} {c P : Addr} {ps : Array Value} {pos : Pos} {firstLine : Nat} {mg : Str → Option Value}
  {clos : List (Str × Addr)} {Q : Value → Shared → Prop}
abbrev Made (P : Addr) (ps : Array Value) (pos : Pos) (qual : Str) (h h' : Heap) (c' : Addr) : Prop :=
  Heap.ExtBut P h h' ∧ h.objs.size ≤ c' ∧ c' < h'.objs.size ∧ h'.CodeRec (.ref c') qual ∧ h'.get? P = some (PySem.W.tabObj (ps ++ #[rawInt pos.line, rawInt pos.col, .ref c'])) ∧
    ∃ P', h.objs.size ≤ P' ∧ h'.IsCode c' P' #[] ∧ h'.TableAt c' P' #[]
theorem makeTail2 (hcl : closureFor scope env = pure clos) (hge0 : env.globals = mainGlobals) (hg : s.heap.Ns mainGlobals mg) (hcode : env.code = .ref c) (C : PySem.W.CodeHd s.heap c P) (hP : s.heap.get? P = some (PySem.W.tabObj ps)) (ht : TriplesOk ps.toList)
    (hnf : codeAmong pos ps.toList = none) (hgP : mainGlobals ≠ P) (hb : s.heap.BuiltinsAt mg P)
    (h : ∀ c' ctv doc h' tk, Made P ps pos qual s.heap h' c' → Q (.ref h'.objs.size) { s with heap := h'.push (PySem.W.fnMade name qual params body scope clos doc ((mg "__name__").getD .none) c' ctv), toks := tk }) :
    wpAny M A (makeTail name qual params (.stmts body) scope env .none .none none pos firstLine) Q E s := by
  obtain ⟨bm, ob, hbm, hne0, _, hneP, hbo, hcls, hdict, hdata⟩ := hb
  unfold makeTail
  rw [hcl, hge0]
  refine wpAny_bind (wpAny_pure ?_)
  cases clos with
  | nil =>
    simp only [List.isEmpty_nil, if_true]
    refine wpAny_bind (wpAny_pure ?_)
    refine wpAny_bind (wpAny_functionCodeX hcode (C.code hP ht) (C.tab hP) hnf fun c' h' tk hx hge hlt _ hrec htb hn => ?_)
    have hg' := hg.extBut hx hgP
    refine wpAny_bind (wpAny_builtinsFor hg' hbm hne0 (hx _ _ hneP hbo) hcls hdict hdata ?_)
    refine wpAny_bind (wpAny_nsGet hg' ?_)
    cases hdoc : docOf body with
    | none => exact wpAny_bind (wpAny_pure (wpAny_newObj_type (h c' .none .none h' tk ⟨hx, hge, hlt, hrec, htb.2, hn⟩) (by size_fits)))
    | some t => exact wpAny_bind (wpAny_mkText (wpAny_newObj_type (h c' .none _ h' _ ⟨hx, hge, hlt, hrec, htb.2, hn⟩) (by size_fits)))
  | cons q r =>
    simp only [List.isEmpty_cons, Bool.false_eq_true, if_false]
    refine wpAny_bind (wpAny_newTextTuple ?_)
    refine wpAny_bind (wpAny_functionCodeX hcode ((C.keeps fun b o e => Heap.get?_push_of_some _ e).code (Heap.get?_push_of_some _ hP) ht) ((C.keeps fun b o e => Heap.get?_push_of_some _ e).tab (Heap.get?_push_of_some _ hP)) hnf fun c' h' tk hx hge hlt _ hrec htb hn => ?_)
    have hg' := (hg.push _).extBut hx hgP
    have hx' : Heap.ExtBut P s.heap h' := fun b o hb' e => hx b o hb' (Heap.get?_push_of_some _ e)
    have hge' : s.heap.objs.size ≤ c' := Nat.le_trans (by rw [Heap.size_push]; omega) hge
    have hn' : ∃ P', s.heap.objs.size ≤ P' ∧ h'.IsCode c' P' #[] ∧ h'.TableAt c' P' #[] := by
      obtain ⟨P', h1, h2⟩ := hn
      exact ⟨P', Nat.le_trans (by rw [Heap.size_push]; omega) h1, h2⟩
    refine wpAny_bind (wpAny_builtinsFor hg' hbm hne0 (hx' _ _ hneP hbo) hcls hdict hdata ?_)
    refine wpAny_bind (wpAny_nsGet hg' ?_)
    cases hdoc : docOf body with
    | none => exact wpAny_bind (wpAny_pure (wpAny_newObj_type (h c' _ .none h' tk ⟨hx', hge', hlt, hrec, htb.2, hn'⟩) (by size_fits)))
    | some t => exact wpAny_bind (wpAny_mkText (wpAny_newObj_type (h c' _ _ h' _ ⟨hx', hge', hlt, hrec, htb.2, hn'⟩) (by size_fits)))
theorem makeFunction2 (hcl : closureFor scope env = pure clos) (hge0 : env.globals = mainGlobals) (hg : s.heap.Ns mainGlobals mg) (hcode : env.code = .ref c) (C : PySem.W.CodeHd s.heap c P) (hP : s.heap.get? P = some (PySem.W.tabObj ps)) (ht : TriplesOk ps.toList)
    (hnf : codeAmong pos ps.toList = none) (hgP : mainGlobals ≠ P) (hb : s.heap.BuiltinsAt mg P)
    (h : ∀ c' ctv doc h' tk, Made P ps pos qual s.heap h' c' → Q (.ref h'.objs.size) { s with heap := h'.push (PySem.W.fnMade name qual params body scope clos doc ((mg "__name__").getD .none) c' ctv), toks := tk }) :
    wpAny M A (makeFunction name qual params (.stmts body) scope env [] [] [] pos firstLine) Q E s := by
  rw [makeFunction_eq]
  simp only [List.zip_nil_right, List.filterMap_nil, List.isEmpty_nil, if_true, pure_bind]
  exact makeTail2 hcl hge0 hg hcode C hP ht hnf hgP hb h
end
/-- what is known of a code object of the name q with the table at P' -/
def CodeAt (h : Heap) (c P' : Addr) (q : Str) : Prop := PySem.W.CodeHd h c P' ∧ h.CodeRec (.ref c) q
def CodeX (c P' : Addr) (q : Str) : HO := .ext fun h => CodeAt h c P' q
theorem CodeAt.stay {h h' : Heap} {c P' : Addr} {q : Str} (x : CodeAt h c P' q) (k : ∀ o, h.get? c = some o → h'.get? c = some o) : CodeAt h' c P' q := by
  obtain ⟨⟨o, vs, file, tf, flags, tg, inF, text, tt, e, r⟩, c2, oc, us, t, e2, h1, h2⟩ := x
  cases e2
  exact ⟨⟨o, vs, file, tf, flags, tg, inF, text, tt, k _ e, r⟩, _, oc, us, t, rfl, k _ h1, h2⟩
theorem codeX_at {P : Program} {w : World} {H : Hp} {h : Heap} {c P' : Addr} {q : Str} (hok : HOk P w H h) (e : H c = some (CodeX c P' q)) : CodeAt h c P' q := (hok c _ e).1
theorem codeX_ne {c P' : Addr} {q : Str} (ps : Array Value) : CodeX c P' q ≠ .tbl ps := fun z => by
  unfold CodeX at z
  cases z
theorem codeX_rec {P : Program} {w : World} {H : Hp} {h : Heap} {c P' : Addr} {q : Str} (hok : HOk P w H h) (e : H c = some (CodeX c P' q)) : h.CodeRec (.ref c) q := (codeX_at hok e).2
theorem codeAt_det {h : Heap} {c P P' : Addr} {q q' : Str} (x : CodeAt h c P q) (y : CodeAt h c P' q') : P = P' ∧ q = q' := by
  obtain ⟨⟨o, vs, _, _, _, _, _, _, _, e, _, d, v, _⟩, c2, oc, us, t, e2, h1, h2, h3⟩ := x
  obtain ⟨⟨o', vs', _, _, _, _, _, _, _, e', _, d', v', _⟩, c2', oc', us', t', e2', h1', h2', h3'⟩ := y
  cases e2
  cases e2'
  rw [e] at e' h1 h1'
  cases e'
  cases h1
  cases h1'
  rw [d] at d' h2 h2'
  cases d'
  cases h2
  cases h2'
  rw [v] at v'
  rw [h3] at h3'
  cases v'
  cases h3'
  exact ⟨rfl, rfl⟩
theorem codeAmong_keep {pos : Pos} {cv : Value} (l r : List Value) (h : codeAmong pos l = some cv) : codeAmong pos (l ++ r) = some cv := by
  fun_induction codeAmong pos l with
  | case1 line tl col tc c rest q => simp only [List.cons_append, codeAmong]; rw [if_pos q]; exact h
  | case2 line tl col tc c rest q ih => simp only [List.cons_append, codeAmong]; rw [if_neg q]; exact ih h
  | case3 => cases h
/-! ### tables -/
/-- which tables the program's own defs have (the addresses of theirs, their qualified names), what a def within a def is named -/
class TabsC where
  T : List (Addr × Str)
  nm : Str → Str
section
variable [TabsC]
/-- P is the table of a def of the name q that is known -/
inductive Owner (H : Hp) : Addr → Str → Prop
  | top {P : Addr} {q : Str} : (P, q) ∈ TabsC.T → Owner H P q
  | sub {P c P' : Addr} {q : Str} {ps : Array Value} {pos : Pos} : Owner H P q → H P = some (.tbl ps) → codeAmong pos ps.toList = some (.ref c) → H c = some (CodeX c P' (TabsC.nm q)) → Owner H P' (TabsC.nm q)
def TabN1 (H : Hp) (P : Addr) (q : Str) : Prop := ∃ ps : Array Value, H P = some (.tbl ps) ∧ TriplesOk ps.toList ∧ ∀ (pos : Pos) (cv : Value), codeAmong pos ps.toList = some cv → ∃ c P', cv = .ref c ∧ H c = some (CodeX c P' (TabsC.nm q))
structure Good (H : Hp) : Prop where
  tab : ∀ P q, Owner H P q → TabN1 H P q
  uni : ∀ P q q', Owner H P q → Owner H P q' → TabsC.nm q = TabsC.nm q'
/-- tables and things told by their object alone stay -/
def Calm (H H' : Hp) : Prop := ∀ b o, H b = some o → ((∃ ps, o = .tbl ps) ∨ (∃ φ, o = .ext φ)) → H' b = some o
theorem Calm.refl (H : Hp) : Calm H H := fun _ _ h _ => h
theorem Calm.trans {H H1 H2 : Hp} (a : Calm H H1) (b : Calm H1 H2) : Calm H H2 := fun x o h n => b x o (a x o h n) n
theorem Calm.of {H H' : Hp} (e : ∀ b o, H b = some o → H' b = some o) : Calm H H' := fun b o h _ => e b o h
theorem Calm.fresh {H : Hp} {p : Addr} {o : HO} (n : H p = none) : Calm H (upd H p o) := .of fun b u e => by rw [upd_ne (ne_of_none e n)]; exact e
theorem Calm.at {H : Hp} {p : Addr} {o u : HO} (e : H p = some o) (n1 : ∀ ps, o ≠ .tbl ps) (n2 : ∀ φ, o ≠ .ext φ) : Calm H (upd H p u) := fun b w h k => by
  have nb : b ≠ p := fun z => by
    rw [z, e] at h
    cases h
    rcases k with ⟨ps, k⟩ | ⟨φ, k⟩
    · exact n1 ps k
    · exact n2 φ k
  rw [upd_ne nb]; exact h
theorem Calm.owner {H H' : Hp} (k : Calm H H') {P : Addr} {q : Str} (o : Owner H P q) : Owner H' P q := by
  induction o with
  | top h => exact .top h
  | sub _ h1 h2 h3 ih => exact .sub ih (k _ _ h1 (.inl ⟨_, rfl⟩)) h2 (k _ _ h3 (.inr ⟨_, rfl⟩))
theorem Calm.back {H H' : Hp} (k : Calm H H') (g : Good H) {P : Addr} {q : Str} (o : Owner H' P q) : Owner H P q := by
  induction o with
  | top h => exact .top h
  | @sub P c P' q ps pos _ h1 h2 h3 ih =>
    obtain ⟨ps', e1, _, e3⟩ := g.tab _ _ ih
    have e4 := k _ _ e1 (.inl ⟨_, rfl⟩)
    rw [h1] at e4
    cases e4
    obtain ⟨c1, P1, z, e5⟩ := e3 _ _ h2
    cases z
    have e6 := k _ _ e5 (.inr ⟨_, rfl⟩)
    rw [h3] at e6
    exact .sub ih e1 h2 (by rw [e5]; exact e6.symm)
theorem Calm.good {H H' : Hp} (k : Calm H H') (g : Good H) : Good H' := by
  refine ⟨fun P q o => ?_, fun P q q' o o' => g.uni P q q' (k.back g o) (k.back g o')⟩
  obtain ⟨ps, e1, e2, e3⟩ := g.tab P q (k.back g o)
  refine ⟨ps, k _ _ e1 (.inl ⟨_, rfl⟩), e2, fun pos cv h => ?_⟩
  obtain ⟨c, P', z, e⟩ := e3 pos cv h
  exact ⟨c, P', z, k _ _ e (.inr ⟨_, rfl⟩)⟩
/-- what a step keeps: all but the tables -/
structure Keep (H H' : Hp) : Prop where
  non : ∀ b o, H b = some o → (∀ ps, o ≠ .tbl ps) → H' b = some o
  here : ∀ b, H b ≠ none → H' b ≠ none
/-- a new code object c with its own table P2 comes into the table P of a def of the name q -/
theorem good_new {H : Hp} {P c P2 : Addr} {q : Str} {ps : Array Value} {pos : Pos} (g : Good H) (o : Owner H P q) (hP : H P = some (.tbl ps)) (ht : TriplesOk ps.toList) (nc : H c = none) (n2 : H P2 = none) (nq : c ≠ P2)
    (wit : ∃ h, CodeAt h c P2 (TabsC.nm q)) :
    ∀ H', (∀ b, b ≠ P → b ≠ c → b ≠ P2 → H' b = H b) → H' P = some (.tbl (ps ++ #[rawInt pos.line, rawInt pos.col, .ref c])) → H' c = some (CodeX c P2 (TabsC.nm q)) → H' P2 = some (.tbl #[]) → codeAmong pos ps.toList = none →
      Good H' ∧ Owner H' P2 (TabsC.nm q) ∧ ∀ P q, Owner H P q → Owner H' P q := by
  intro H' k eP ec e2 hnone
  have el : (ps ++ #[rawInt pos.line, rawInt pos.col, .ref c]).toList = ps.toList ++ [rawInt pos.line, rawInt pos.col, .ref c] := by simp
  have nPc : P ≠ c := ne_of_none hP nc
  have nP2 : P ≠ P2 := ne_of_none hP n2
  have stay : ∀ b u, H b = some u → b ≠ P → H' b = some u := fun b u e n => by rw [k b n (ne_of_none e nc) (ne_of_none e n2)]; exact e
  have up : ∀ P1 q1, Owner H P1 q1 → Owner H' P1 q1 := by
    intro P1 q1 o1
    induction o1 with
    | top h => exact .top h
    | @sub P1 c1 P' q1 ps1 pos1 o1 h1 h2 h3 ih =>
      have nc1 : c1 ≠ P := fun z => by rw [z, hP] at h3; exact codeX_ne ps (Option.some.inj h3).symm
      by_cases z : P1 = P
      · subst z
        rw [hP] at h1
        cases h1
        refine .sub (pos := pos1) ih eP ?_ (stay _ _ h3 nc1)
        rw [el]
        have := codeAmong_keep ps.toList [rawInt pos.line, rawInt pos.col, .ref c] h2
        exact this
      · exact .sub ih (stay _ _ h1 z) h2 (stay _ _ h3 nc1)
  have among : ∀ (p1 : Pos) (cv : Value), codeAmong p1 (ps ++ #[rawInt pos.line, rawInt pos.col, .ref c]).toList = some cv → codeAmong p1 ps.toList = some cv ∨ cv = .ref c := fun p1 cv e => by
    rw [el] at e
    rcases among_app2 _ ht e with z | ⟨z, _⟩
    · exact .inl z
    · exact .inr z
  have dn : ∀ P1 q1, Owner H' P1 q1 → Owner H P1 q1 ∨ (P1 = P2 ∧ q1 = TabsC.nm q) := by
    intro P1 q1 o1
    induction o1 with
    | top h => exact .inl (.top h)
    | @sub P1 c1 P' q1 ps1 pos1 o1 h1 h2 h3 ih =>
      rcases ih with ih | ⟨rfl, rfl⟩
      · obtain ⟨ps', e1, _, e3⟩ := g.tab _ _ ih
        by_cases z : P1 = P
        · subst z
          rw [hP] at e1
          cases e1
          rw [eP] at h1
          cases h1
          rcases among _ _ h2 with y | y
          · obtain ⟨c2, P3, z2, e5⟩ := e3 _ _ y
            cases z2
            have nc2 : c1 ≠ P1 := fun z => by rw [z, hP] at e5; exact codeX_ne ps (Option.some.inj e5).symm
            have e6 := stay _ _ e5 nc2
            rw [h3] at e6
            exact .inl (.sub ih hP y (by rw [e5]; exact e6.symm))
          · have hc1 : c1 = c := by injection y
            rw [hc1, ec] at h3
            obtain ⟨h, hw⟩ := wit
            have e7 : CodeAt h c P2 (TabsC.nm q) = CodeAt h c P' (TabsC.nm q1) := by
              have e8 : (fun h => CodeAt h c P2 (TabsC.nm q)) = fun h => CodeAt h c P' (TabsC.nm q1) := by
                have := Option.some.inj h3
                unfold CodeX at this
                injection this
              exact congrFun e8 h
            obtain ⟨e9, e10⟩ := codeAt_det hw (e7 ▸ hw)
            exact .inr ⟨e9.symm, e10.symm⟩
        · have e4 := stay _ _ e1 z
          rw [h1] at e4
          cases e4
          obtain ⟨c2, P3, z2, e5⟩ := e3 _ _ h2
          cases z2
          have nc2 : c1 ≠ P := fun z => by rw [z, hP] at e5; exact codeX_ne ps (Option.some.inj e5).symm
          have e6 := stay _ _ e5 nc2
          rw [h3] at e6
          exact .inl (.sub ih e1 h2 (by rw [e5]; exact e6.symm))
      · rw [e2] at h1
        cases h1
        cases h2
  have o2 : Owner H' P2 (TabsC.nm q) := by
    refine .sub (pos := pos) (c := c) (up _ _ o) eP ?_ ec
    rw [el]
    exact codeAmong_snoc _ ht hnone
  have not2 : ∀ q1, ¬ Owner H P2 q1 := fun q1 z => by
    obtain ⟨ps', e1, _⟩ := g.tab _ _ z
    rw [n2] at e1
    cases e1
  refine ⟨⟨fun P1 q1 o1 => ?_, fun P1 q1 q2 o1 o2 => ?_⟩, o2, up⟩
  · rcases dn P1 q1 o1 with o1 | ⟨rfl, rfl⟩
    · obtain ⟨ps', e1, e2', e3⟩ := g.tab _ _ o1
      by_cases z : P1 = P
      · subst z
        rw [hP] at e1
        cases e1
        refine ⟨_, eP, by rw [el]; exact TriplesOk_snoc _ _ _ _ ht, fun p1 cv h => ?_⟩
        rcases among _ _ h with y | y
        · obtain ⟨c2, P3, z2, e5⟩ := e3 _ _ y
          have nc2 : c2 ≠ P1 := fun z => by rw [z, hP] at e5; exact codeX_ne ps (Option.some.inj e5).symm
          exact ⟨c2, P3, z2, stay _ _ e5 nc2⟩
        · exact ⟨c, P2, y, by rw [g.uni _ _ _ o1 o]; exact ec⟩
      · refine ⟨ps', stay _ _ e1 z, e2', fun p1 cv h => ?_⟩
        obtain ⟨c2, P3, z2, e5⟩ := e3 _ _ h
        have nc2 : c2 ≠ P := fun z => by rw [z, hP] at e5; exact codeX_ne ps (Option.some.inj e5).symm
        exact ⟨c2, P3, z2, stay _ _ e5 nc2⟩
    · exact ⟨#[], e2, trivial, fun p1 cv h => by cases h⟩
  · rcases dn P1 q1 o1 with o1 | ⟨h1, h2⟩
    · rcases dn P1 q2 o2 with o2 | ⟨h3, h4⟩
      · exact g.uni _ _ _ o1 o2
      · exact absurd (h3 ▸ o1) (not2 _)
    · rcases dn P1 q2 o2 with o2 | ⟨h3, h4⟩
      · exact absurd (h1 ▸ o2) (not2 _)
      · rw [h2, h4]
end
end NX

/-! The statement «def .. :» within a def. -/
namespace NX
open PySem PySem.Spec PyProof.Rows L2 LamX NdefX
/-- the tracked heap when the code object c with its table P2 has come into the table P -/
def grown (H : Hp) (P c P2 : Addr) (ps : Array Value) (pos : Pos) (q : Str) : Hp := upd (upd (upd H P (.tbl (ps ++ #[rawInt pos.line, rawInt pos.col, .ref c]))) c (CodeX c P2 q)) P2 (.tbl #[])
section
variable {X : Cx} {pins : List (Addr × Obj)} {σ : L2.St} {H : Hp} {s : Shared}
theorem inv_grown {P c P2 : Addr} {q : Str} {ps : Array Value} {pos : Pos} {hn : Heap} {tk : Nat} (I : Inv X pins σ H s) (eP : H P = some (.tbl ps)) (k : ∀ b o, b ≠ P → s.heap.get? b = some o → hn.get? b = some o)
    (gP : hn.get? P = some (PySem.W.tabObj (ps ++ #[rawInt pos.line, rawInt pos.col, .ref c]))) (lc : s.heap.objs.size ≤ c) (l2 : s.heap.objs.size ≤ P2) (ne : c ≠ P2) (hc : CodeAt hn c P2 q) (h2 : hn.get? P2 = some (PySem.W.tabObj #[])) :
    Inv X pins σ (grown H P c P2 ps pos q) { s with heap := hn, toks := tk } := by
  have nc : H c = none := I.hok.fresh lc
  have n2 : H P2 = none := I.hok.fresh l2
  have Pc : P ≠ c := ne_of_none eP nc
  have P2' : P ≠ P2 := ne_of_none eP n2
  have off : ∀ b, b ≠ P → b ≠ c → b ≠ P2 → grown H P c P2 ps pos q b = H b := fun b h1 h2 h3 => by unfold grown; rw [upd_ne h3, upd_ne h2, upd_ne h1]
  have onP : grown H P c P2 ps pos q P = some (.tbl (ps ++ #[rawInt pos.line, rawInt pos.col, .ref c])) := by unfold grown; rw [upd_ne P2', upd_ne Pc, upd_same]
  have onc : grown H P c P2 ps pos q c = some (CodeX c P2 q) := by unfold grown; rw [upd_ne ne, upd_same]
  have on2 : grown H P c P2 ps pos q P2 = some (.tbl #[]) := by unfold grown; rw [upd_same]
  have keepH : ∀ b u, H b = some u → b ≠ P → grown H P c P2 ps pos q b = some u := fun b u e n => by rw [off b n (ne_of_none e nc) (ne_of_none e n2)]; exact e
  have notP : ∀ b u, H b = some u → (∀ t, u ≠ .tbl t) → b ≠ P := fun b u e n z => n ps (Option.some.inj ((z ▸ e).symm.trans eP))
  have notP0 : ∀ b, H b = none → b ≠ P := fun b e z => by rw [z, eP] at e; cases e
  have old : ∀ b o, s.heap.get? b = some o → b ≠ c ∧ b ≠ P2 := fun b o e => ⟨fun z => by subst z; exact Nat.lt_irrefl _ (Nat.lt_of_lt_of_le (Heap.lt_size e) lc), fun z => by subst z; exact Nat.lt_irrefl _ (Nat.lt_of_lt_of_le (Heap.lt_size e) l2)⟩
  refine I.step (g' := s.gens) (d' := s.drawn) (ch := []) (fun b hb => by cases hb) (fun b o _ _ _ e n => k b o (notP0 b n) e) (fun b o _ _ _ e n => ⟨o.slots, k b o (notP0 b n) e⟩)
    (fun b o _ e n => by rw [off b (notP0 b n) (old b o e).1 (old b o e).2]; exact n) (fun b o _ e => ?_) (fun b xs e => keepH b _ e (notP b _ e fun t z => by cases z)) (fun b o u e => keepH b _ e (notP b _ e fun t z => by cases z)) (fun b qs e => ?_) (fun m hm => ?_) (fun b u e => ?_) I.bare
  · by_cases z : b = P
    · exact ⟨_, z ▸ gP⟩
    · exact ⟨o, k b o z e⟩
  · by_cases z : b = P
    · subst z
      rw [eP] at e
      cases e
      exact ⟨_, onP⟩
    · exact ⟨#[], by rw [keepH b _ e z]; simp⟩
  · obtain ⟨ob, es, ep, ho, r⟩ := hm
    exact ⟨ob, es, ep, k _ ob (notP0 _ I.free) ho, r⟩
  · by_cases z2 : b = P2
    · subst z2
      rw [on2] at e
      cases e
      exact h2
    · by_cases zc : b = c
      · subst zc
        rw [onc] at e
        cases e
        obtain ⟨⟨oc, _, _, _, _, _, _, _, _, e1, _⟩, _⟩ := id hc
        exact ⟨hc, ⟨oc, e1⟩, fun h1 h2 x st => x.stay st⟩
      · by_cases zP : b = P
        · subst zP
          rw [onP] at e
          cases e
          exact gP
        · rw [off b zP zc z2] at e
          refine (I.hok b u e).stay (fun d v hd w => k d v ?_ w) (fun d w => keepH d _ w (notP d _ w fun t z => by cases z)) fun d xs w => keepH d _ w (notP d _ w fun t z => by cases z)
          rcases hd with z | z
          · exact z ▸ zP
          · exact notP d _ z fun t z => by cases z
end
/-- the built-ins' module as the program knows it -/
def BM (h : Heap) (mg : Str → Option Value) : Prop := ∃ P, h.BuiltinsAt mg P
theorem bm_at {h : Heap} {mg : Str → Option Value} {P : Addr} {ps : Array Value} (b : BM h mg) (e : h.get? P = some (PySem.W.tabObj ps)) : h.BuiltinsAt mg P := by
  obtain ⟨_, bm, o, h1, h2, h3, _, h5, h6, h7, h8⟩ := b
  exact ⟨bm, o, h1, h2, h3, (fun z => by rw [z, e] at h5; cases h5; cases h6), h5, h6, h7, h8⟩
theorem main_ne {h : Heap} {mg : Str → Option Value} {P : Addr} {ps : Array Value} (n : h.Ns mainGlobals mg) (e : h.get? P = some (PySem.W.tabObj ps)) : mainGlobals ≠ P := fun z => by
  obtain ⟨o, es, ep, e1, d, _⟩ := n
  rw [z, e] at e1
  cases e1
  cases d
section
variable [TabsC]
/-- «def name(..): ..» in the body of a def of the name q, whose code object is c with the table P: the slot i holds the new function -/
def tNd (PC : Hp → Prop) (P : Addr) (q : Str) (i : Nat) (mk : Addr → NF) : TS := fun D σ H => Good H ∧ PC H ∧ Owner H P q ∧ ∀ (f c' P' : Addr) (H1 : Hp), Keep H H1 → Good H1 → (∀ P q, Owner H P q → Owner H1 P q) → (∀ b, H1 b = none → H b = none) → H f = none → H1 f = some (FnO f (mk c')) → H1 c' = some (CodeX c' P' (mk c').qual) → Owner H1 P' (mk c').qual → D.nx (σ.set i (some (.ref f))) H1
theorem ps_nd {X : Cx} {PC : Hp → Prop} {c P : Addr} {q name : Str} {params : Arguments} {body : List Stmt} {scope : Scope} {pos : Pos} {i : Nat} (hcode : X.env.code = .ref c) (hC : ∀ pins s σ H, Inv X pins σ H s → PC H → PySem.W.CodeHd s.heap c P) (bm : BM X.base X.mg) (hq : TabsC.nm q = X.env.qual ++ name)
    (hfree : ∀ y ∈ scope.names, y.2 = .free → X.env.scope.names.lookup y.1 = some .cell ∨ X.env.scope.names.lookup y.1 = some .free) (hd0 : params.defaults = []) (hk0 : params.kw_defaults = []) (ha : annTrees params none X.env = [])
    (hN : X.N.Nodup) (hi : X.N[i]? = some name) (hx : Loc X.env.scope name) (hf : X.fn name = true ∨ X.env.scope.names.lookup name = some .local) :
    PS X (.FunctionDef name params body [] none [] scope none name pos) (tNd PC P q i fun c' => ⟨name, X.env.qual ++ name, params, body, scope, cloFrom X.env.cells scope.names [], c'⟩) := by
  refine ⟨fun pins s σ H D I ⟨g, pc, ow, h⟩ => ?_⟩
  have eq : qualnameIn X.env name name = X.env.qual ++ name := by
    unfold qualnameIn
    have kk : X.env.kindOf name = some .local ∨ X.env.kindOf name = some .cell := hx
    rcases kk with z | z <;> rw [z] <;> rfl
  refine PySem.W.nestDef_K hd0 hk0 ha ?_
  rw [eq]
  have hasc : ∀ y ∈ scope.names, y.2 = .free → ∃ c, X.env.cells.lookup y.1 = some c := fun y hy e => (hfree y hy e).elim (fun z => I.ok.has _ (.inl z)) fun z => I.ok.has _ (.inr z)
  obtain ⟨ps, eP, ht, htab⟩ := g.tab P q ow
  have oP : s.heap.get? P = some (PySem.W.tabObj ps) := I.hok P _ eP
  have bP : s.heap.BuiltinsAt X.mg P := bm_at (bm.imp fun _ z => z.keeps I.bk) oP
  have gm : s.heap.Ns mainGlobals X.mg := I.mod.glob.keeps I.bk
  have done : ∀ (f c' P' : Addr) (H1 : Hp) (s1 : Shared), Inv X pins σ H1 s1 → Keep H H1 → Good H1 → (∀ P q, Owner H P q → Owner H1 P q) → (∀ b, H1 b = none → H b = none) → H f = none → H1 f = some (FnO f ⟨name, X.env.qual ++ name, params, body, scope, cloFrom X.env.cells scope.names [], c'⟩) → H1 c' = some (CodeX c' P' (X.env.qual ++ name)) → Owner H1 P' (X.env.qual ++ name) →
      wpAny (model X.prog X.w) X.A (storeName X.env name (.ref f)) (fun _ s2 => ∃ σ' H', Inv X pins σ' H' s2 ∧ D.nx σ' H') X.xe s1 := fun f c' P' H1 s1 I1 k1 g1 o1 n1 f0 f1 c1 w1 =>
    store_ok I1 hN hi hx (v := .ref f) rfl (fun s2 J => ⟨_, H1, J, h f c' P' H1 k1 g1 o1 n1 f0 f1 c1 w1⟩) hf
  cases hc : codeAmong pos ps.toList with
  | none =>
    refine makeFunction2 (mg := X.mg) (closure_ok hasc) I.ok.glob gm hcode (hC _ _ _ _ I pc) oP ht hc (main_ne gm oP) bP fun c' ctv doc hn tk ⟨hx1, l1, l2, rec, tb, P2, lp, isc, tat⟩ => ?_
    have ne : c' ≠ P2 := by obtain ⟨_, _, _, _, _, _, _, _, _, _, _, _, _, _, _, _, _, _, _, _, z⟩ := isc; exact z
    have cat : CodeAt hn c' P2 (X.env.qual ++ name) := ⟨PySem.W.CodeHd.of isc tat, rec⟩
    have I1 := inv_grown (tk := tk) (q := X.env.qual ++ name) I eP (fun b o hb e => hx1 b o hb e) tb l1 lp ne cat tat.2
    have nc : H c' = none := I.hok.fresh l1
    have n2 : H P2 = none := I.hok.fresh lp
    have off : ∀ b, b ≠ P → b ≠ c' → b ≠ P2 → grown H P c' P2 ps pos (X.env.qual ++ name) b = H b := fun b h1 h2 h3 => by unfold grown; rw [upd_ne h3, upd_ne h2, upd_ne h1]
    have onP : grown H P c' P2 ps pos (X.env.qual ++ name) P = some (.tbl (ps ++ #[rawInt pos.line, rawInt pos.col, .ref c'])) := by unfold grown; rw [upd_ne (ne_of_none eP n2), upd_ne (ne_of_none eP nc), upd_same]
    have onc : grown H P c' P2 ps pos (X.env.qual ++ name) c' = some (CodeX c' P2 (X.env.qual ++ name)) := by unfold grown; rw [upd_ne ne, upd_same]
    have on2 : grown H P c' P2 ps pos (X.env.qual ++ name) P2 = some (.tbl #[]) := by unfold grown; rw [upd_same]
    obtain ⟨g1, w1, o1⟩ := good_new g ow eP ht nc n2 ne ⟨hn, by rw [hq]; exact cat⟩ _ off onP (by rw [hq]; exact onc) on2 hc
    have nF := I1.hok.fresh (Nat.le_refl _)
    have I2 := inv_fn (F := ⟨name, X.env.qual ++ name, params, body, scope, cloFrom X.env.cells scope.names [], c'⟩) (t' := tk) (doc := doc) (pm := (X.mg "__name__").getD .none) (ctv := ctv) I1 rfl
    have cf := Calm.fresh (o := FnO hn.objs.size ⟨name, X.env.qual ++ name, params, body, scope, cloFrom X.env.cells scope.names [], c'⟩) nF
    have old : ∀ b u, H b = some u → (∀ t, u ≠ .tbl t) → grown H P c' P2 ps pos (X.env.qual ++ name) b = some u := fun b u e n => by
      rw [off b (fun z => n ps (Option.some.inj ((z ▸ e).symm.trans eP))) (ne_of_none e nc) (ne_of_none e n2)]; exact e
    have back : ∀ b, upd (grown H P c' P2 ps pos (X.env.qual ++ name)) hn.objs.size (FnO hn.objs.size ⟨name, X.env.qual ++ name, params, body, scope, cloFrom X.env.cells scope.names [], c'⟩) b = none → H b = none := fun b e => upd_none (upd_none (upd_none (upd_none e)))
    refine done hn.objs.size c' P2 _ _ I2 ⟨fun b o e n => ?_, fun b n e => n (back b e)⟩ (cf.good g1) (fun P q o => cf.owner (o1 P q o)) back ?_ upd_same ?_ ?_
    · exact (upd_ne (ne_of_none (old b o e n) nF)).trans (old b o e n)
    · exact I.hok.fresh (Nat.le_trans l1 (Nat.le_of_lt l2))
    · exact (upd_ne (ne_of_none onc nF)).trans onc
    · have w2 := cf.owner w1
      rw [hq] at w2
      exact w2
  | some cv =>
    obtain ⟨c', P', z, hco⟩ := htab pos cv hc
    subst z
    rw [hq] at hco
    refine PySem.W.makeFunction_hit (mg := X.mg) (c := c) (P := P) (ps := ps) (closure_ok hasc) I.ok.glob gm hcode (hC _ _ _ _ I pc) oP ht hc bP fun ctv doc hn tk hx1 hsz => ?_
    have I1 : Inv X pins σ H { s with heap := hn, toks := tk } := I.kept hx1
    have nF : H hn.objs.size = none := I1.hok.fresh (Nat.le_refl _)
    have I2 := inv_fn (F := ⟨name, X.env.qual ++ name, params, body, scope, cloFrom X.env.cells scope.names [], c'⟩) (t' := tk) (doc := doc) (pm := (X.mg "__name__").getD .none) (ctv := ctv) I1 rfl
    have cf := Calm.fresh (o := FnO hn.objs.size ⟨name, X.env.qual ++ name, params, body, scope, cloFrom X.env.cells scope.names [], c'⟩) nF
    refine done hn.objs.size c' P' _ _ I2 ⟨fun b o e n => ?_, fun b n e => n (upd_none e)⟩ (cf.good g) (fun P q o => cf.owner o) (fun b e => upd_none e) nF upd_same ?_ ?_
    · exact (upd_ne (ne_of_none e nF)).trans e
    · exact (upd_ne (ne_of_none hco nF)).trans hco
    · have w1 : Owner H P' (TabsC.nm q) := .sub ow eP hc (by rw [hq]; exact hco)
      have w2 := cf.owner w1
      rw [hq] at w2
      exact w2
end
end NX

/-! A def within a def, run: names of its own (cells among them) and captured ones. -/
namespace NX
open PySem PySem.Spec PyProof.Rows L2 LamX NdefX
theorem cellsFrom_app : ∀ (names : List (Str × NameKind)) (n : Nat) (acc : List (Str × Addr)), cellsFrom n names acc = cellsFrom n names [] ++ acc
  | [], n, acc => rfl
  | (x, k) :: r, n, acc => by
    unfold cellsFrom
    by_cases h : (k == .cell) = true
    · rw [if_pos h, if_pos h, cellsFrom_app r (n + 1) ((x, n) :: acc), cellsFrom_app r (n + 1) [(x, n)]]
      simp
    · rw [if_neg h, if_neg h]
      exact cellsFrom_app r n acc
theorem lookup_app {l r : List (Str × Addr)} {x : Str} : (l ++ r).lookup x = match l.lookup x with
    | some c => some c
    | none => r.lookup x := by
  rw [List.lookup_append]
  cases l.lookup x <;> rfl
theorem lookup_left {l r : List (Str × Addr)} {x : Str} {c : Addr} (h : l.lookup x = some c) : (l ++ r).lookup x = some c := by rw [lookup_app, h]
theorem cells_only {x : Str} {c : Addr} : ∀ (names : List (Str × NameKind)) (n : Nat), (x, c) ∈ cellsFrom n names [] → (x, NameKind.cell) ∈ names
  | [], n, h => by cases h
  | (y, k) :: r, n, h => by
    unfold cellsFrom at h
    by_cases hk : (k == .cell) = true
    · rw [if_pos hk, cellsFrom_app] at h
      rcases List.mem_append.mp h with h | h
      · exact List.mem_cons_of_mem _ (cells_only r _ h)
      · have e : (x, c) = (y, n) := by simpa using h
        have ek : k = .cell := by simpa using hk
        cases e
        rw [ek]
        exact List.mem_cons_self
    · rw [if_neg hk] at h
      exact List.mem_cons_of_mem _ (cells_only r _ h)
/-- the environment of a def within a def -/
def envM (F : NF) (f L : Addr) : Env := PySem.W.envX F.qual F.scope L f (.ref F.c) (cellsFrom (L + 1) F.scope.names F.cl)
abbrev env0 (F : NF) (f L : Addr) : Env := PySem.W.envX F.qual F.scope L f (.ref F.c) (cellsFrom (L + 1) F.scope.names [])
section
variable {M : Model} {A : Around} {E : Value → Shared → Prop} {s : Shared}
theorem forIn_same {α : Type} {f g : α → PUnit → Sem (ForInStep PUnit)} : ∀ (l : List α), (∀ x ∈ l, f x = g x) → forIn l PUnit.unit f = forIn l PUnit.unit g
  | [], _ => rfl
  | x :: r, h => by
    rw [List.forIn_cons, List.forIn_cons, h x List.mem_cons_self]
    refine congrArg _ (funext fun y => ?_)
    cases y with
    | done b => rfl
    | yield b => exact forIn_same r fun y hy => h y (List.mem_cons_of_mem _ hy)
theorem store_same {F : NF} {f L : Addr} {x : Str} {v : Value} (hk : F.scope.kind = .function) (h : F.scope.names.lookup x = some .local ∨ (F.scope.names.lookup x = some .cell ∧ ((cellsFrom (L + 1) F.scope.names []).lookup x).isSome = true)) :
    storeName (envM F f L) x v = storeName (env0 F f L) x v := by
  rcases h with h | ⟨h, h2⟩
  · have k1 : (envM F f L).kindOf x = some .local := h
    have k2 : (env0 F f L).kindOf x = some .local := h
    unfold storeName
    rw [k1, k2]
    rfl
  · have k1 : (envM F f L).kindOf x = some .cell := h
    have k2 : (env0 F f L).kindOf x = some .cell := h
    have e : PySem.cellOf (envM F f L) x = PySem.cellOf (env0 F f L) x := by
      obtain ⟨c, hc⟩ := Option.isSome_iff_exists.mp h2
      unfold PySem.cellOf
      have e1 : (envM F f L).cells.lookup x = some c := by
        show (cellsFrom (L + 1) F.scope.names F.cl).lookup x = some c
        rw [cellsFrom_app]
        exact lookup_left hc
      have e2 : (env0 F f L).cells.lookup x = some c := hc
      rw [e1, e2]
    unfold storeName
    rw [k1, k2, e]
    rfl
theorem newEnvM {F : NF} {f : Addr} {binds : List (Str × Value)} {Q : Env → Shared → Prop} (hk : F.scope.kind = .function)
    (hkind : ∀ x ∈ binds, F.scope.names.lookup x.1 = some .local ∨ (F.scope.names.lookup x.1 = some .cell ∧ ((cellsFrom (s.heap.objs.size + 1) F.scope.names []).lookup x.1).isSome = true))
    (hQ : ∀ s1, InCallC s s.heap.objs.size (bindL (env0 F f s.heap.objs.size).kindOf binds fun _ => none) (cellsFrom (s.heap.objs.size + 1) F.scope.names []) (bindC (env0 F f s.heap.objs.size).kindOf binds fun _ => none) s1 → Q (envM F f s.heap.objs.size) s1) :
    wpAny M A (newFunctionEnv F.scope mainGlobals F.cl binds (F.qual ++ ".<locals>.") (some f) (.ref F.c) none builtinsNs) Q E s := by
  simp only [newFunctionEnv, Option.isSome_none, Bool.false_eq_true, if_false]
  refine wpAny_bind (wpAny_alloc ?_)
  refine wpAny_bind (wpAny_layCells _ (fun name kind cells => by cases hkc : kind == NameKind.cell <;> simp [hkc]) _ _ _ _ ?_)
  have sz : (s.heap.push { cls := .type "frame", data := .dict #[] }).objs.size = s.heap.objs.size + 1 := Heap.size_push ..
  have ok := cellsFrom_ok F.scope.names (s.heap.push { cls := .type "frame", data := .dict #[] }) (s.heap.objs.size + 1) [] ⟨(fun _ _ z => nomatch z), List.Pairwise.nil⟩ (Nat.le_of_eq sz.symm)
  rw [sz] at ok
  show wpAny _ _ (do
    forIn binds PUnit.unit fun p _ => (do
      storeName (PySem.W.envX F.qual F.scope s.heap.objs.size f (.ref F.c) (cellsFrom (s.heap.push { cls := .type "frame", data := .dict #[] }).objs.size F.scope.names F.cl)) p.1 p.2
      pure (ForInStep.yield PUnit.unit))
    pure (PySem.W.envX F.qual F.scope s.heap.objs.size f (.ref F.c) (cellsFrom (s.heap.push { cls := .type "frame", data := .dict #[] }).objs.size F.scope.names F.cl))) _ _ _
  rw [sz]
  have eqF := forIn_same (f := fun (p : Str × Value) (_ : PUnit) => (do
      storeName (envM F f s.heap.objs.size) p.1 p.2
      pure (ForInStep.yield PUnit.unit) : Sem (ForInStep PUnit))) (g := fun (p : Str × Value) (_ : PUnit) => (do
      storeName (env0 F f s.heap.objs.size) p.1 p.2
      pure (ForInStep.yield PUnit.unit) : Sem (ForInStep PUnit))) binds fun x hx => by
    funext u
    rw [store_same hk (hkind x hx)]
  refine wpAny_bind ?_
  show wpAny _ _ (forIn binds PUnit.unit fun p _ => (do
      storeName (envM F f s.heap.objs.size) p.1 p.2
      pure (ForInStep.yield PUnit.unit))) _ _ _
  rw [eqF]
  refine wpAny_bindParams (s₀ := s) (env := env0 F f s.heap.objs.size) _ (fun _ _ _ => rfl) hk binds (fun _ => none) (fun _ => none) _ _
    ⟨⟨⟨_, _, rfl⟩, (Heap.Ns.new s.heap (.type "frame")).keeps (pushCells_keeps _ _), fun b o e => pushCells_keeps _ _ b o (Heap.get?_push_of_some _ e), Nat.le_refl _⟩, fun n c hc => (ok.empty n c (PySem.mem_of_lookup hc)).1, ok.apart, fun n c hm => (ok.empty n c hm).2⟩
    hkind fun s1 x => wpAny_pure (hQ s1 x)
end
end NX

/-! A def within a def: its body's context, what it promises. -/
namespace NX
open PySem PySem.Spec PyProof.Rows L2 LamX NdefX
structure MScope (N ps fr : List Str) (sc : Scope) : Prop where
  kind : sc.kind = .function
  co : sc.isCoroutine = false
  gen : sc.isGenerator = false
  nd : N.Nodup
  pre : N.take (ps.length + fr.length) = ps ++ fr
  par : ∀ x ∈ ps, sc.names.lookup x = some .local ∨ sc.names.lookup x = some .cell
  free : ∀ y ∈ sc.names, y.2 = .free → y.1 ∈ fr
  frk : ∀ x ∈ fr, sc.names.lookup x = some .free ∧ (x, NameKind.cell) ∉ sc.names
/-- the context of its body -/
def mcx (CX : CXT) (P : Program) (w : World) (K : PySem.W.Frag) (mg : Str → Option Value) (base : Heap) (N : List Str) (F : NF) (f : Addr) (A : Around) (outer : List Env) (s : Shared) (H : Hp) (E : XK) : Cx :=
  { ncx CX P w K mg base N F f A outer s H E with
    A := A.deeper (envM F f s.heap.objs.size)
    env := envM F f s.heap.objs.size
    stack := envM F f s.heap.objs.size :: outer
    xe := fun e s' => wpAny (model P w) (A.deeper (envM F f s.heap.objs.size)) (leaving (envM F f s.heap.objs.size) e) (fun _ s'' => CX outer H s E e s'') (fun e' s'' => CX outer H s E e' s'') s' }
section
variable {CX : CXT} {P : Program} {w : World} {K : PySem.W.Frag} {mg : Str → Option Value} {base : Heap} {N ps fr : List Str} {F : NF} {f : Addr} {A : Around} {outer : List Env} {s s1 : Shared} {H : Hp} {E : XK} {us : List Value} {vs : List V} {ws : List (Option V)}
theorem cells_of_app {x : Str} {c : Addr} {names : List (Str × NameKind)} {n : Nat} {cl : List (Str × Addr)} (h : (cellsFrom n names cl).lookup x = some c) : (cellsFrom n names []).lookup x = some c ∨ ((cellsFrom n names []).lookup x = none ∧ cl.lookup x = some c) := by
  rw [cellsFrom_app, lookup_app] at h
  cases e : (cellsFrom n names []).lookup x with
  | some d => rw [e] at h; exact .inl h
  | none => rw [e] at h; exact .inr ⟨rfl, h⟩
theorem inv_startM (S : MScope N ps fr F.scope) (hd : A.handled = none) (e0 : Env0 P w K mg base A outer s H) (hl : vs.length = ps.length) (r : Vals vs us) (C : CellsAt F.cl fr ws s.heap H)
    (x : InCallC s s.heap.objs.size (bindL (env0 F f s.heap.objs.size).kindOf (ps.zip us) fun _ => none) (cellsFrom (s.heap.objs.size + 1) F.scope.names []) (bindC (env0 F f s.heap.objs.size).kindOf (ps.zip us) fun _ => none) s1) :
    Inv (mcx CX P w K mg base N F f A outer s H E) [] (startF N vs ws) H s1 := by
  have hpl : ps.length + fr.length ≤ N.length := by
    have q := congrArg List.length S.pre
    rw [List.length_take, List.length_append] at q
    omega
  obtain ⟨h1, tk, es1, kp⟩ := x.done
  have kp1 : ∀ b o, s.heap.get? b = some o → s1.heap.get? b = some o := fun b o e => by rw [es1]; exact kp b o e
  have cellK : ∀ {c : Addr} {v : Option Value}, s.heap.IsCell c v → s1.heap.IsCell c v := fun {c v} ⟨o, ho, hd⟩ => ⟨o, kp1 _ _ ho, hd⟩
  have low : ∀ {y : Str} {c : Addr}, F.cl.lookup y = some c → c < s.heap.objs.size := fun {y c} e => by
    obtain ⟨_, v, z⟩ := C.all y c e
    exact z.lt
  have high : ∀ {y : Str} {c : Addr}, (cellsFrom (s.heap.objs.size + 1) F.scope.names []).lookup y = some c → s.heap.objs.size < c := fun {y c} e => x.above y c (PySem.mem_of_lookup e)
  have frc : ∀ {y : Str} {c : Addr}, y ∈ fr → F.cl.lookup y = some c → (cellsFrom (s.heap.objs.size + 1) F.scope.names F.cl).lookup y = some c := fun {y c} hy e => by
    rw [cellsFrom_app, lookup_app]
    cases q : (cellsFrom (s.heap.objs.size + 1) F.scope.names []).lookup y with
    | none => exact e
    | some d => exact absurd (cells_only _ _ (PySem.mem_of_lookup q)) (S.frk y hy).2
  have nex : ∀ b : Addr, b ∉ (mcx CX P w K mg base N F f A outer s H E).ex := fun b z => by cases z
  refine ⟨⟨e0.mod, S.kind, rfl, rfl, Nat.le_refl _, fun y z c a b => ?_, fun y hy => ?_, fun y c z _ => ?_, fun _ => hd, Around.frames_deeper e0.frames, .inr ⟨rfl, rfl⟩, fun b z => absurd z (nex b), e0.bs, e0.bsz, fun b _ _ => nex b, fun b z => absurd z (nex b), e0.funs, e0.frf⟩,
    (by rw [es1] <;> rfl), (by rw [es1]; exact e0.bare), ?_, ⟨_, x.toInCall.ns, fun i y v e1 e2 e3 => ?_⟩, fun y c e => ?_, e0.hok.fresh (Nat.le_refl _), fun y c e => ?_, fun q hq => (by cases hq), e0.hok.kept kp1, ?_⟩
  · rcases cells_of_app a with a | ⟨_, a⟩
    · rcases cells_of_app b with b | ⟨_, b⟩
      · exact name_of_addr x.apart (PySem.mem_of_lookup a) (PySem.mem_of_lookup b)
      · exact absurd (Nat.lt_trans (high a) (low b)) (Nat.lt_irrefl _)
    · rcases cells_of_app b with b | ⟨_, b⟩
      · exact absurd (Nat.lt_trans (high b) (low a)) (Nat.lt_irrefl _)
      · exact C.inj y z c a b
  · have hy : F.scope.names.lookup y = some .cell ∨ F.scope.names.lookup y = some .free := hy
    rcases hy with hy | hy
    · obtain ⟨c, hc⟩ := cell_has (n := s.heap.objs.size + 1) hy
      exact ⟨c, by show (cellsFrom _ _ _).lookup y = _; rw [cellsFrom_app]; exact lookup_left hc⟩
    · have hin : y ∈ fr := S.free (y, .free) (PySem.mem_of_lookup hy) rfl
      obtain ⟨i, hi⟩ := List.mem_iff_getElem?.mp hin
      obtain ⟨c, hc, _⟩ := C.has i y hi
      exact ⟨c, frc hin hc⟩
  · have z : false = true := z
    cases z
  · show Un _ _ _ _ _ s1.heap
    exact Un.kept kp1
  · have e1 : N[i]? = some y := e1
    have clen := C.len
    unfold startF at e2
    by_cases h1 : i < ps.length
    · have hq : (ps ++ fr)[i]? = some y := by
        rw [← S.pre, List.getElem?_take_of_lt (by omega)]
        exact e1
      rw [List.getElem?_append_left h1] at hq
      rw [List.getElem?_append_left (by rw [List.length_map]; omega), List.getElem?_map] at e2
      have ea : vs[i]? = some v := by
        cases q : vs[i]? with
        | none => rw [q] at e2; cases e2
        | some a => rw [q] at e2; cases e2; rfl
      obtain ⟨u, hu, rv⟩ := r.get ea
      have ndP : ps.Nodup := by
        have q := S.nd.sublist (List.take_sublist (ps.length + fr.length) N)
        rw [S.pre] at q
        exact (List.nodup_append.mp q).1
      refine ⟨u, rv, ?_⟩
      rcases S.par y (List.mem_of_getElem? hq) with k | k
      · exact .inl ⟨k, bindL_get ndP hq hu k⟩
      · obtain ⟨c, e⟩ := cell_has (n := s.heap.objs.size + 1) k
        refine .inr ⟨.inl k, c, (by show (cellsFrom _ _ _).lookup y = _; rw [cellsFrom_app]; exact lookup_left e), ?_⟩
        have q := x.cell y c e
        rw [bindC_get ndP hq hu (fun z => by rw [show (env0 F f s.heap.objs.size).kindOf y = some .cell from k] at z; cases z)] at q
        exact q
    · rw [List.getElem?_append_right (by rw [List.length_map]; omega), List.length_map] at e2
      by_cases h2 : i < ps.length + fr.length
      · have hq : (ps ++ fr)[i]? = some y := by
          rw [← S.pre, List.getElem?_take_of_lt (by omega)]
          exact e1
        rw [List.getElem?_append_right (by omega)] at hq
        rw [List.getElem?_append_left (by omega), hl] at e2
        obtain ⟨c, hc, hv⟩ := C.has (i - ps.length) y hq
        obtain ⟨u, ru, hu⟩ := hv v e2
        exact ⟨u, ru, .inr ⟨.inr (S.frk y (List.mem_of_getElem? hq)).1, c, frc (List.mem_of_getElem? hq) hc, cellK hu⟩⟩
      · rw [List.getElem?_append_right (by omega), List.getElem?_replicate] at e2
        split at e2 <;> cases e2
  · rcases cells_of_app e with e | ⟨_, e⟩
    · exact ⟨_, x.cell y c e⟩
    · obtain ⟨_, v, z⟩ := C.all y c e
      exact ⟨v, cellK z⟩
  · rcases cells_of_app e with e | ⟨_, e⟩
    · exact e0.hok.fresh (Nat.le_of_lt (high e))
    · exact (C.all y c e).1
  · have clen := C.len
    unfold startF
    show _ = N.length
    rw [List.length_append, List.length_append, List.length_map, List.length_replicate]
    omega
/-- its body, run -/
theorem run_M {k : Nat} {Q : VK} (S : MScope N ps fr F.scope) (hb : ∀ (doc pm ctv : Value) (us : List Value), us.length = ps.length → bindArgs (F.fd doc pm ctv) ⟨us, []⟩ = pure (ps.zip us)) (hr : Room (k + 1) A) (e0 : Env0 P w K mg base A outer s H) (hf : H f = some (FnO f F)) (hc : ∃ P', H F.c = some (CodeX F.c P' F.qual))
    (C : CellsAt F.cl fr ws s.heap H) (r : Vals vs us) (hl : vs.length = ps.length) (hbody : Room k (A.deeper (envM F f s.heap.objs.size)) → ∃ t, PSs (mcx CX P w K mg base N F f A outer s H E) F.body t ∧ t { nx := fun _ H' => Q .non H', rt := Q } (startF N vs ws) H) :
    codeAny (model P w) A (.call (.ref f) ⟨us, []⟩) (CR CX outer P w H s Q E) s := by
  have lim : s.heap.NoLimit := e0.mod.nolimit.keeps fun b o e => (e0.bs b o e).1
  obtain ⟨od, sl, doc, pm, ctv, ho⟩ := fnO_at e0.hok hf
  obtain ⟨P', hc⟩ := hc
  have hkind : ∀ y ∈ ps.zip us, F.scope.names.lookup y.1 = some .local ∨ (F.scope.names.lookup y.1 = some .cell ∧ ((cellsFrom (s.heap.objs.size + 1) F.scope.names []).lookup y.1).isSome = true) := fun ⟨n, v⟩ hy => (S.par n (List.of_mem_zip hy).1).imp id fun q => ⟨q, PySem.W.cellsFrom_some _ _ _ (.inl q)⟩
  refine codeAny_call_function hr.depth ho rfl S.co S.gen rfl (codeX_rec e0.hok hc) ?_
  rw [hb doc pm ctv us (by rw [← r.length]; exact hl)]
  refine wpAny_pure (newEnvM S.kind hkind fun s1 x => ⟨lim.keeps x.toInCall.keep, codeAny_func ?_⟩)
  obtain ⟨t, ht, hq⟩ := hbody (hr.deeper _)
  have I := inv_startM (CX := CX) (E := E) S hr.hd e0 hl r C x
  have fin : ∀ {σ' : L2.St} {H' : Hp} {v : V} {u : Value} {s' : Shared}, Inv (mcx CX P w K mg base N F f A outer s H E) [] σ' H' s' → L2.RelV v u → Q v H' → CE outer P w H s Q u s' := fun {σ' H' v u s'} J rv q => ⟨v, H', J.os, J.bare, J.base, J.hok, rv, q⟩
  refine wpAny_mono (ht.run [] s1 (startF N vs ws) H _ I hq) (fun fl s' hs => ?_) fun e s' z => z
  cases fl with
  | ret u =>
    obtain ⟨v, σ', H', J, rv, q⟩ := hs
    exact fin J rv q
  | next =>
    obtain ⟨σ', H', J, q⟩ := hs
    exact fin (v := V.non) (u := Value.none) J rfl q
  | brk =>
    obtain ⟨_, _, _, q⟩ := hs
    exact q.elim
  | cont =>
    obtain ⟨_, _, _, q⟩ := hs
    exact q.elim
/-- what the cells held when a frame began they hold later on -/
theorem cells_later {X : Cx} {pins : List (Addr × Obj)} {σ : L2.St} {H : Hp} {s : Shared} {cl : List (Str × Addr)} {fr : List Str} {ws : List (Option V)} (C : CellsAt cl fr ws X.s_0.heap X.H_0) (hx : X.ex = []) (I : Inv X pins σ H s) : CellsAt cl fr ws s.heap H := by
  have nx : ∀ c : Addr, c ∉ X.ex := fun c z => by rw [hx] at z; cases z
  have kp : ∀ y c, cl.lookup y = some c → ∀ v, X.s_0.heap.IsCell c v → s.heap.IsCell c v := fun y c e v ⟨o, ho, hd⟩ => by
    obtain ⟨sl, q⟩ := I.base.any ho (C.all y c e).1 (nx c)
    exact ⟨_, q, hd⟩
  refine ⟨C.len, fun y c e => ?_, C.inj, fun i y e => ?_⟩
  · obtain ⟨n, v, z⟩ := C.all y c e
    refine ⟨?_, v, kp y c e v z⟩
    obtain ⟨o, ho, _⟩ := z
    exact I.base.free c o ho n (nx c)
  · obtain ⟨c, hc, hv⟩ := C.has i y e
    refine ⟨c, hc, fun v ev => ?_⟩
    obtain ⟨u, ru, z⟩ := hv v ev
    exact ⟨u, ru, kp y c hc _ z⟩
end
end NX

/-! The data layer: over the hand layer's judgements, readings that speak of plain data alone. -/
namespace DL
open PySem PySem.Spec PyProof.Rows L2 NX
variable [TabsC]
/-- no table -/
def NT (o : HO) : Prop := ∀ t, o ≠ .tbl t
/-- neither a table nor a thing told by its object alone -/
def Pl (o : HO) : Prop := NT o ∧ ∀ φ, o ≠ .ext φ
/-- what holds of the tables, and that nothing that was tracked is gone -/
def GN (G : Hp) : Prop := ∀ a o, G a = some o → NT o
structure Tb (H0 H G : Hp) : Prop where
  good : Good H
  gn : GN G
  here : ∀ a, H0 a ≠ none → H a ≠ none
  own : ∀ P q, Owner H0 P q → Owner H P q

abbrev D := PyData
/-! ### what steps by itself -/
def bifP (t : Bool) (A B : Prop) : Prop := match t with
  | true => A
  | false => B
theorem bif_dec {c : Prop} [Decidable c] {A B : Prop} (h1 : c → A) (h2 : ¬ c → B) : bifP (decide c) A B := by
  by_cases h : c
  · rw [decide_eq_true h]; exact h1 h
  · rw [decide_eq_false h]; exact h2 h
theorem bif_bool {t : Bool} {A B : Prop} (h1 : t = true → A) (h2 : t = false → B) : bifP t A B := by
  cases t with
  | true => exact h1 rfl
  | false => exact h2 rfl
theorem bif_true {t : Bool} {A B : Prop} (e : t = true) (h : A) : bifP t A B := by rw [e]; exact h
theorem bif_false {t : Bool} {A B : Prop} (e : t = false) (h : B) : bifP t A B := by rw [e]; exact h
theorem bif_mono {t : Bool} {A B A' B' : Prop} (h1 : A → A') (h2 : B → B') (q : bifP t A B) : bifP t A' B' := by
  cases t with
  | true => exact h1 q
  | false => exact h2 q
def optK {α : Type} (o : Option α) (F : α → Prop) : Prop := match o with
  | some a => F a
  | none => False
theorem optK_get {α : Type} {o : Option α} {F : α → Prop} (h : optK o F) : ∃ a, o = some a ∧ F a := by
  cases o with
  | none => exact h.elim
  | some a => exact ⟨a, rfl, h⟩
theorem optK_some {α : Type} {o : Option α} {F : α → Prop} {a : α} (e : o = some a) (h : F a) : optK o F := by rw [e]; exact h
theorem optK_mono {α : Type} {o : Option α} {F F' : α → Prop} (h : ∀ a, F a → F' a) (q : optK o F) : optK o F' := by
  cases o with
  | none => exact q
  | some a => exact h a q
/-! ### data over a heap -/
theorem Same.seqT {K : PySem.W.Frag} {H H' : Hp} {a : Addr} {xs : List V} (e : Same H H') (h : SqT K H a xs) : SqT K H' a xs := by
  rcases h with (h | ⟨o, h⟩) | h
  · exact .inl (.inl (e _ _ h))
  · exact .inl (.inr ⟨o, e _ _ h⟩)
  · exact .inr h
/-- a dict as data: its keys ints and texts -/
def keyD : Key → D
  | .inl i => .int i
  | .inr x => .str x
abbrev dctD (l : List (Key × D)) : D := .dict ((.bool false, .none) :: l.map fun p => (keyD p.1, p.2))
mutual
/-- a value that is data in H: lists as they were made, tuples made or written -/
inductive Dt (K : PySem.W.Frag) (H : Hp) : V → PyData → Prop
  | non : Dt K H .non .none
  | bl (b : Bool) : Dt K H (.bl b) (.bool b)
  | int (i : Int) : Dt K H (.int i) (.int i)
  | str (x : Str) : Dt K H (.str x) (.str x)
  | lst {a : Addr} {xs : List V} {ds : List PyData} : Rd H a (.lst xs) → Dts K H xs ds → Dt K H (.ref a) (.list ds)
  | tup {a : Addr} {xs : List V} {ds : List PyData} : SqT K H a xs → Dts K H xs ds → Dt K H (.ref a) (.tuple ds)
  | obj (a : Addr) : Dt K H (.ref a) (.dict [(.none, .int a)])
  | ins {a C dx : Addr} {x : Str} {v : V} {d : PyData} : H a = some (.ins C dx [(("body" : Str), v)]) → C = He.ga K x → Cls K C → NoAttr K C "body" → Dt K H v d → Dt K H (.ref a) (.dict [(.str x, d)])
  | dct {a : Addr} {kvs : List (Key × V)} {l : List (Key × PyData)} : Rd H a (.dK kvs) → kvs.map (·.1) = l.map (·.1) → Dts K H (kvs.map (·.2)) (l.map (·.2)) → Dt K H (.ref a) (.dict ((.bool false, .none) :: l.map fun p => (keyD p.1, p.2)))
inductive Dts (K : PySem.W.Frag) (H : Hp) : List V → List PyData → Prop
  | nil : Dts K H [] []
  | cons {v : V} {vs : List V} {d : PyData} {ds : List PyData} : Dt K H v d → Dts K H vs ds → Dts K H (v :: vs) (d :: ds)
end
theorem Same.rd {H H' : Hp} {a : Addr} {o : HO} (e : Same H H') (h : Rd H a o) : Rd H' a o := by
  rcases h with h | ⟨u, h⟩
  · exact .inl (e _ _ h)
  · exact .inr ⟨u, e _ _ h⟩
theorem sql_of_rd {K : PySem.W.Frag} {H : Hp} {a : Addr} {xs : List V} (h : Rd H a (.lst xs)) : SqL K H a xs := .inl h
mutual
theorem dp_mono {K : PySem.W.Frag} {H H' : Hp} (e : Same H H') : ∀ {v : V} {d : D}, Dt K H v d → Dt K H' v d
  | _, _, .non => .non
  | _, _, .bl b => .bl b
  | _, _, .int i => .int i
  | _, _, .str x => .str x
  | _, _, .lst h ha => .lst (Same.rd e h) (dpa_mono e ha)
  | _, _, .tup h ha => .tup (Same.seqT e h) (dpa_mono e ha)
  | _, _, .obj a => .obj a
  | _, _, .ins h hC hc hn hd => .ins (e _ _ h) hC hc hn (dp_mono e hd)
  | _, _, .dct h hk ha => .dct (Same.rd e h) hk (dpa_mono e ha)
theorem dpa_mono {K : PySem.W.Frag} {H H' : Hp} (e : Same H H') : ∀ {vs : List V} {ds : List D}, Dts K H vs ds → Dts K H' vs ds
  | _, _, .nil => .nil
  | _, _, .cons h ha => .cons (dp_mono e h) (dpa_mono e ha)
end
theorem lay_list {ds : List D} (h : (PyData.list ds).canLay0 = true) : PyData.canLayAll0 ds = true := by simpa [PyData.canLay0] using h
theorem lay_tup {ds : List D} (h : (PyData.tuple ds).canLay0 = true) : PyData.canLayAll0 ds = true := by simpa [PyData.canLay0] using h
theorem lay_cons {d : D} {ds : List D} (h : PyData.canLayAll0 (d :: ds) = true) : d.canLay0 = true ∧ PyData.canLayAll0 ds = true := by simpa [PyData.canLayAll0] using h
theorem lay_dict {ds : List (D × D)} (h : (PyData.dict ds).canLay0 = true) : False := by simp [PyData.canLay0] at h
mutual
theorem Dt.dp {K : PySem.W.Frag} {H : Hp} : ∀ {v : V} {d : D}, Dt K H v d → d.canLay0 = true → Dp K H v d
  | _, _, .non, _ => .non
  | _, _, .bl b, _ => .bl b
  | _, _, .int i, _ => .int i
  | _, _, .str x, _ => .str x
  | _, _, .lst h ha, l => .lst (sql_of_rd h) (Dts.dp ha (lay_list l))
  | _, _, .tup h ha, l => .tup h (Dts.dp ha (lay_tup l))
  | _, _, .obj _, l => (lay_dict l).elim
  | _, _, .ins _ _ _ _ _, l => (lay_dict l).elim
  | _, _, .dct _ _ _, l => (lay_dict l).elim
theorem Dts.dp {K : PySem.W.Frag} {H : Hp} : ∀ {vs : List V} {ds : List D}, Dts K H vs ds → PyData.canLayAll0 ds = true → DpAll K H vs ds
  | _, _, .nil, _ => .nil
  | _, _, .cons h ha, l => .cons (Dt.dp h (lay_cons l).1) (Dts.dp ha (lay_cons l).2)
end
theorem dpa_length {K : PySem.W.Frag} {H : Hp} : ∀ {vs : List V} {ds : List D}, Dts K H vs ds → vs.length = ds.length
  | _, _, .nil => rfl
  | _, _, .cons _ h => congrArg (· + 1) (dpa_length h)
theorem dpa_get {K : PySem.W.Frag} {H : Hp} : ∀ {vs : List V} {ds : List D} {i : Nat} {d : D}, Dts K H vs ds → ds[i]? = some d → ∃ v, vs[i]? = some v ∧ Dt K H v d
  | _, _, 0, _, .cons h _, e => ⟨_, rfl, by cases e; exact h⟩
  | _, _, i + 1, d, .cons _ h, e => dpa_get (i := i) h e
  | _, _, _, _, .nil, e => by simp at e
theorem dpa_append {K : PySem.W.Frag} {H : Hp} : ∀ {vs ws : List V} {ds es : List D}, Dts K H vs ds → Dts K H ws es → Dts K H (vs ++ ws) (ds ++ es)
  | _, _, _, _, .nil, h => h
  | _, _, _, _, .cons a b, h => .cons a (dpa_append b h)
theorem dpa_take {K : PySem.W.Frag} {H : Hp} : ∀ {vs : List V} {ds : List D} (n : Nat), Dts K H vs ds → Dts K H (vs.take n) (ds.take n)
  | _, _, 0, _ => .nil
  | _, _, _ + 1, .nil => .nil
  | _, _, n + 1, .cons a b => .cons a (dpa_take n b)
theorem dpa_drop {K : PySem.W.Frag} {H : Hp} : ∀ {vs : List V} {ds : List D} (n : Nat), Dts K H vs ds → Dts K H (vs.drop n) (ds.drop n)
  | _, _, 0, h => h
  | _, _, _ + 1, .nil => .nil
  | _, _, n + 1, .cons _ b => dpa_drop n b
theorem dpa_set {K : PySem.W.Frag} {H : Hp} {v : V} {d : D} (h : Dt K H v d) : ∀ {vs : List V} {ds : List D} (i : Nat), Dts K H vs ds → Dts K H (vs.set i v) (ds.set i d)
  | _, _, _, .nil => .nil
  | _, _, 0, .cons _ b => .cons h b
  | _, _, i + 1, .cons a b => .cons a (dpa_set h i b)
theorem dpa_rev {K : PySem.W.Frag} {H : Hp} : ∀ {vs : List V} {ds : List D}, Dts K H vs ds → Dts K H vs.reverse ds.reverse
  | _, _, .nil => .nil
  | _, _, .cons a b => by
    rw [List.reverse_cons, List.reverse_cons]
    exact dpa_append (dpa_rev b) (.cons a .nil)
theorem dpa_dropLast {K : PySem.W.Frag} {H : Hp} {vs : List V} {ds : List D} (h : Dts K H vs ds) : Dts K H vs.dropLast ds.dropLast := by
  rw [List.dropLast_eq_take, List.dropLast_eq_take, dpa_length h]
  exact dpa_take _ h
theorem dpa_rep {K : PySem.W.Frag} {H : Hp} {vs : List V} {ds : List D} (h : Dts K H vs ds) : ∀ k : Nat, Dts K H (List.replicate k vs).flatten (List.replicate k ds).flatten
  | 0 => .nil
  | k + 1 => by
    rw [List.replicate_succ, List.replicate_succ, List.flatten_cons, List.flatten_cons]
    exact dpa_append h (dpa_rep h k)

/-! ### states -/
/-- an object that one slot alone holds -/
inductive MO where
  | lst (ds : List D)
/-- a slot: data; an object of the def's own; an object that the caller lent -/
inductive Sl where
  | sh (d : D) | ow (o : MO) | io (o : MO)
def Sl.put : Sl → MO → Sl
  | .io _, o => .io o
  | _, o => .ow o
abbrev DS := List (Option Sl)
def DS.get : DS → Nat → Option Sl
  | [], _ => none
  | a :: _, 0 => a
  | _ :: r, n + 1 => DS.get r n
theorem DS.get_eq : ∀ (δ : DS) (i : Nat) (s : Sl), δ.get i = some s ↔ δ[i]? = some (some s)
  | [], i, s => by simp [DS.get]
  | a :: r, 0, s => by simp [DS.get]
  | a :: r, i + 1, s => by simp only [DS.get]; rw [DS.get_eq r i s]; simp
theorem DS.get_set (δ : DS) (i j : Nat) (o : Option Sl) : DS.get (List.set δ i o) j = if i = j ∧ j < δ.length then o else δ.get j := by
  induction δ generalizing i j with
  | nil => simp [DS.get]
  | cons a r ih =>
    cases i with
    | zero =>
      cases j with
      | zero => simp [DS.get]
      | succ j => simp [DS.get]
    | succ i =>
      cases j with
      | zero => simp [DS.get]
      | succ j => simp [DS.get, ih]
theorem DS.get_lt {δ : DS} {i : Nat} {s : Sl} (h : δ.get i = some s) : i < δ.length := by
  have h2 := (DS.get_eq δ i s).mp h
  exact (List.getElem?_eq_some_iff.mp h2).1
/-- objects that are set aside, and data that stay -/
structure Hd where
  ls : List (Addr × HO)
  gb : Hp
/-- what a def's body is read over: the written part, heap and data part at the entry, the lent objects by slots -/
structure Ga where
  H0 : Hp
  G0 : Hp
  par : List (Nat × Addr)
def MOk (K : PySem.W.Frag) (G H : Hp) (p : Addr) : MO → Prop
  | .lst ds => ∃ vs, H p = some (.lst vs) ∧ Dts K G vs ds
/-- slot i holds the address p -/
def At (σ : L2.St) (i : Nat) (p : Addr) : Prop := σ[i]? = some (some (.ref p))
def SlOk (K : PySem.W.Frag) (Γ : Ga) (hid : Hd) (σ : L2.St) (H G : Hp) (i : Nat) : Sl → Prop
  | .sh d => ∃ v, σ[i]? = some (some v) ∧ Dt K G v d
  | .ow o => ∃ p, At σ i p ∧ G p = none ∧ Γ.H0 p = none ∧ (∀ q ∈ hid.ls, q.1 ≠ p) ∧ MOk K G H p o
  | .io o => ∃ p, At σ i p ∧ G p = none ∧ (i, p) ∈ Γ.par ∧ (∀ q ∈ hid.ls, q.1 ≠ p) ∧ MOk K G H p o
def Own (δ : DS) (i : Nat) : Prop := ∃ o, δ.get i = some (.ow o) ∨ δ.get i = some (.io o)
structure Rel (K : PySem.W.Frag) (Γ : Ga) (hid : Hd) (σ : L2.St) (H : Hp) (δ : DS) (G : Hp) : Prop where
  sub : Same G H
  ext : Same Γ.G0 G
  old : ∀ a, Γ.H0 a ≠ none → G a = Γ.G0 a
  fr : ∀ a o, Γ.H0 a = some o → (∀ q ∈ Γ.par, q.2 ≠ a) → NT o → H a = some o
  prs : ∀ q ∈ Γ.par, At σ q.1 q.2 ∧ Γ.H0 q.2 ≠ none ∧ ∃ o, δ.get q.1 = some (.io o)
  len : δ.length = σ.length
  sl : ∀ i s, δ.get i = some s → SlOk K Γ hid σ H G i s
  dist : ∀ i j p, Own δ i → Own δ j → At σ i p → At σ j p → i = j
  hds : ∀ q ∈ hid.ls, H q.1 = some q.2 ∧ G q.1 = none ∧ Γ.H0 q.1 = none ∧ Pl q.2
  gb : Same hid.gb G
  tb : Tb Γ.H0 H G
/-- what a step may do to the heap beside the lent objects ps: new things, of which some are data -/
structure Grow (ps : List Addr) (H G H' G' : Hp) : Prop where
  same : ∀ a o, a ∉ ps → H a = some o → NT o → H' a = some o
  here : ∀ a, H a ≠ none → H' a ≠ none
  data : Same G G'
  sub : Same G' H'
  old : ∀ a, H a ≠ none → G' a = G a
  good : Good H → Good H'
  own : ∀ P q, Owner H P q → Owner H' P q
  gn : GN G → GN G'
theorem Grow.refl {H G : Hp} (h : Same G H) : Grow [] H G H G := ⟨fun _ _ _ h _ => h, fun _ h => h, Same.refl _, h, fun _ _ => rfl, id, fun _ _ h => h, id⟩
theorem Grow.trans {ps : List Addr} {H G H1 G1 H2 G2 : Hp} (a : Grow ps H G H1 G1) (b : Grow ps H1 G1 H2 G2) : Grow ps H G H2 G2 :=
  ⟨fun c o n h nt => b.same c o n (a.same c o n h nt) nt, fun c h => b.here c (a.here c h), a.data.trans b.data, b.sub, fun c h => (b.old c (a.here c h)).trans (a.old c h), fun h => b.good (a.good h), fun P q h => b.own P q (a.own P q h), fun h => b.gn (a.gn h)⟩
theorem ne_none_of {H : Hp} {a : Addr} {o : HO} (h : H a = some o) : H a ≠ none := by rw [h]; exact fun z => nomatch z
/-- a new object that is data -/
theorem gn_upd {G : Hp} {p : Addr} {o : HO} (h : GN G) (n : NT o) : GN (upd G p o) := fun a u e => by
  by_cases c : a = p
  · rw [c, upd_same] at e; cases e; exact n
  · rw [upd_ne c] at e; exact h a u e
theorem Grow.new {H G : Hp} {p : Addr} {o : HO} (s : Same G H) (np : H p = none) (no : NT o := by exact fun _ z => by cases z) : Grow [] H G (upd H p o) (upd G p o) := by
  refine ⟨fun a u _ h _ => by rw [upd_ne (ne_of_none h np)]; exact h, fun a h => ?_, fun a u h => ?_, fun a u h => ?_, fun a h => ?_, fun g => (Calm.fresh np).good g, fun P q h => (Calm.fresh np).owner h, fun h => gn_upd h no⟩
  · by_cases e : a = p
    · rw [e, upd_same]; exact fun z => nomatch z
    · rw [upd_ne e]; exact h
  · rw [upd_ne (ne_of_none (s a u h) np)]; exact h
  · by_cases e : a = p
    · rw [e, upd_same] at h; rw [e, upd_same]; exact h
    · rw [upd_ne e] at h; rw [upd_ne e]; exact s a u h
  · by_cases e : a = p
    · rw [e] at h; exact absurd np h
    · rw [upd_ne e]
/-- a new object that is not data -/
theorem Grow.newO {H G : Hp} {p : Addr} {o : HO} (s : Same G H) (np : H p = none) : Grow [] H G (upd H p o) G := by
  refine ⟨fun a u _ h _ => by rw [upd_ne (ne_of_none h np)]; exact h, fun a h => ?_, Same.refl _, fun a u h => ?_, fun _ _ => rfl, fun g => (Calm.fresh np).good g, fun P q h => (Calm.fresh np).owner h, id⟩
  · by_cases e : a = p
    · rw [e, upd_same]; exact fun z => nomatch z
    · rw [upd_ne e]; exact h
  · rw [upd_ne (ne_of_none (s a u h) np)]; exact s a u h
theorem MOk.mono {K : PySem.W.Frag} {G H G' H' : Hp} {p : Addr} {o : MO} (h : MOk K G H p o) (s : Same G G') (e : ∀ xs, H p = some (.lst xs) → H' p = some (.lst xs)) : MOk K G' H' p o := by
  cases o with
  | lst ds =>
    obtain ⟨vs, h1, h2⟩ := h
    exact ⟨vs, e _ h1, dpa_mono s h2⟩
theorem MOk.here {K : PySem.W.Frag} {G H : Hp} {p : Addr} {o : MO} (h : MOk K G H p o) : H p ≠ none := by
  cases o with
  | lst ds =>
    obtain ⟨vs, h1, h2⟩ := h
    exact ne_none_of h1
section
variable {K : PySem.W.Frag} {Γ : Ga} {hid : Hd} {σ : L2.St} {H : Hp} {δ : DS} {G : Hp}
theorem At.inj {i : Nat} {p p' : Addr} (a : At σ i p) (b : At σ i p') : p = p' := by
  have e : some (some (V.ref p)) = some (some (V.ref p')) := a.symm.trans b
  simpa using e
theorem pl_lst {xs : List V} : Pl (.lst xs) := ⟨(fun _ z => by cases z), (fun _ z => by cases z)⟩
theorem Tb.upd {H0 H G : Hp} {p : Addr} {o u : HO} (t : Tb H0 H G) (h : H p = some o) (n : Pl o) : Tb H0 (L2.upd H p u) G := by
  refine ⟨(Calm.at h n.1 n.2).good t.good, t.gn, fun a n => ?_, fun P q o => (Calm.at h n.1 n.2).owner (t.own P q o)⟩
  by_cases c : a = p
  · rw [c, upd_same]; exact fun z => nomatch z
  · rw [upd_ne c]; exact t.here a n
theorem Tb.gg {H0 H G : Hp} (t : Tb H0 H G) : Good H ∧ GN G := ⟨t.good, t.gn⟩
theorem Tb.upG {H0 H G : Hp} {p : Addr} {xs : List V} (t : Tb H0 H G) : Tb H0 H (L2.upd G p (.lst xs)) := ⟨t.good, gn_upd t.gn (fun _ z => by cases z), t.here, t.own⟩
theorem Tb.lst {H0 H G : Hp} {p : Addr} {u : HO} (t : Tb H0 H G) (h : ∃ xs, H p = some (.lst xs)) : Tb H0 (L2.upd H p u) G := by
  obtain ⟨xs, h⟩ := h
  exact t.upd h pl_lst
theorem MOk.lst {G : Hp} {p : Addr} {o : MO} (h : MOk K G H p o) : ∃ xs, H p = some (.lst xs) := by
  cases o with
  | lst ds => obtain ⟨vs, h1, _⟩ := h; exact ⟨vs, h1⟩
theorem nt_lst {xs : List V} : NT (.lst xs) := fun _ z => by cases z
theorem Rel.here (R : Rel K Γ hid σ H δ G) {a : Addr} (h : Γ.H0 a ≠ none) : H a ≠ none := R.tb.here a h
/-- the heap grew beside all own objects -/
theorem Rel.grow (R : Rel K Γ hid σ H δ G) {H' G' : Hp} (g : Grow [] H G H' G') : Rel K Γ hid σ H' δ G' where
  sub := g.sub
  ext := R.ext.trans g.data
  old := fun a h => (g.old a (R.here h)).trans (R.old a h)
  fr := fun a o h n nt => g.same a o (by simp) (R.fr a o h n nt) nt
  prs := R.prs
  len := R.len
  sl := fun i s h => by
    have q := R.sl i s h
    cases s with
    | sh d => obtain ⟨v, h1, h2⟩ := q; exact ⟨v, h1, dp_mono g.data h2⟩
    | ow o => obtain ⟨p, h1, h2, h3, h4, h5⟩ := q; exact ⟨p, h1, (g.old p h5.here).trans h2, h3, h4, h5.mono g.data fun xs e => g.same p _ (by simp) e nt_lst⟩
    | io o => obtain ⟨p, h1, h2, h3, h4, h5⟩ := q; exact ⟨p, h1, (g.old p h5.here).trans h2, h3, h4, h5.mono g.data fun xs e => g.same p _ (by simp) e nt_lst⟩
  dist := R.dist
  hds := fun q hq => by
    obtain ⟨h1, h2, h3⟩ := R.hds q hq
    exact ⟨g.same _ _ (by simp) h1 h3.2.1, (g.old _ (ne_none_of h1)).trans h2, h3⟩
  gb := R.gb.trans g.data
  tb := ⟨g.good R.tb.good, g.gn R.tb.gn, fun a h => g.here a (R.tb.here a h), fun P q h => g.own P q (R.tb.own P q h)⟩
theorem Own.lt {i : Nat} (h : Own δ i) : i < δ.length := by
  obtain ⟨o, h | h⟩ := h <;> exact DS.get_lt h
theorem at_set {i j : Nat} {v : V} {p : Addr} (n : i ≠ j) : At (σ.set i (some v)) j p ↔ At σ j p := by
  unfold At
  rw [List.getElem?_set_ne n]
/-- a name is stored: data -/
theorem Rel.setD (R : Rel K Γ hid σ H δ G) {i : Nat} {v : V} {d : D} (hi : i < δ.length) (hio : ∀ o, δ.get i ≠ some (.io o)) (h : Dt K G v d) :
    Rel K Γ hid (σ.set i (some v)) H (δ.set i (some (.sh d))) G where
  sub := R.sub
  ext := R.ext
  old := R.old
  fr := R.fr
  prs := fun q hq => by
    obtain ⟨h1, h2, o, h3⟩ := R.prs q hq
    have n : i ≠ q.1 := fun z => hio o (z ▸ h3)
    exact ⟨(at_set n).mpr h1, h2, o, by rw [DS.get_set, if_neg (fun z => n z.1)]; exact h3⟩
  len := by rw [List.length_set, List.length_set]; exact R.len
  sl := fun j s e => by
    rw [DS.get_set] at e
    by_cases c : i = j
    · subst c
      rw [if_pos ⟨rfl, hi⟩] at e
      cases e
      exact ⟨v, by rw [List.getElem?_set_self (by rw [← R.len]; exact hi)], h⟩
    · rw [if_neg (fun z => c z.1)] at e
      have q := R.sl j s e
      cases s with
      | sh d => obtain ⟨v, h1, h2⟩ := q; exact ⟨v, by rw [List.getElem?_set_ne c]; exact h1, h2⟩
      | ow o => obtain ⟨p, h1, h2⟩ := q; exact ⟨p, (at_set c).mpr h1, h2⟩
      | io o => obtain ⟨p, h1, h2⟩ := q; exact ⟨p, (at_set c).mpr h1, h2⟩
  dist := fun j k p hj hk aj ak => by
    have nj : ∀ j, Own (List.set δ i (some (.sh d))) j → i ≠ j ∧ Own δ j := fun j ⟨o, ho⟩ => by
      by_cases c : i = j
      · subst c
        rw [DS.get_set, if_pos ⟨rfl, hi⟩] at ho
        rcases ho with z | z <;> cases z
      · rw [DS.get_set, if_neg (fun z => c z.1)] at ho
        exact ⟨c, o, ho⟩
    obtain ⟨c1, o1⟩ := nj j hj
    obtain ⟨c2, o2⟩ := nj k hk
    exact R.dist j k p o1 o2 ((at_set c1).mp aj) ((at_set c2).mp ak)
  hds := R.hds
  gb := R.gb
  tb := R.tb
/-- a name is stored: a new object of its own -/
theorem Rel.setO (R : Rel K Γ hid σ H δ G) {i : Nat} {p : Addr} {o : MO} (hi : i < δ.length) (hio : ∀ o, δ.get i ≠ some (.io o)) (hG : G p = none) (h0 : Γ.H0 p = none)
    (hh : ∀ q ∈ hid.ls, q.1 ≠ p) (ho : ∀ j, Own δ j → ¬ At σ j p) (hm : MOk K G H p o) :
    Rel K Γ hid (σ.set i (some (.ref p))) H (δ.set i (some (.ow o))) G where
  sub := R.sub
  ext := R.ext
  old := R.old
  fr := R.fr
  prs := fun q hq => by
    obtain ⟨h1, h2, o, h3⟩ := R.prs q hq
    have n : i ≠ q.1 := fun z => hio o (z ▸ h3)
    exact ⟨(at_set n).mpr h1, h2, o, by rw [DS.get_set, if_neg (fun z => n z.1)]; exact h3⟩
  len := by rw [List.length_set, List.length_set]; exact R.len
  sl := fun j s e => by
    rw [DS.get_set] at e
    by_cases c : i = j
    · subst c
      rw [if_pos ⟨rfl, hi⟩] at e
      cases e
      exact ⟨p, by unfold At; rw [List.getElem?_set_self (by rw [← R.len]; exact hi)], hG, h0, hh, hm⟩
    · rw [if_neg (fun z => c z.1)] at e
      have q := R.sl j s e
      cases s with
      | sh d => obtain ⟨v, h1, h2⟩ := q; exact ⟨v, by rw [List.getElem?_set_ne c]; exact h1, h2⟩
      | ow o => obtain ⟨p, h1, h2⟩ := q; exact ⟨p, (at_set c).mpr h1, h2⟩
      | io o => obtain ⟨p, h1, h2⟩ := q; exact ⟨p, (at_set c).mpr h1, h2⟩
  dist := fun j k q hj hk aj ak => by
    have nj : ∀ j, Own (List.set δ i (some (.ow o))) j → i ≠ j → Own δ j := fun j ⟨o, ho⟩ c => by
      rw [DS.get_set, if_neg (fun z => c z.1)] at ho
      exact ⟨o, ho⟩
    have self : ∀ {q}, At (σ.set i (some (.ref p))) i q → q = p := fun {q} a => by
      unfold At at a
      rw [List.getElem?_set_self (by rw [← R.len]; exact hi)] at a
      cases a; rfl
    by_cases c1 : i = j
    · subst c1
      by_cases c2 : i = k
      · exact c2
      · have e := self aj
        subst e
        exact absurd ((at_set c2).mp ak) (ho k (nj k hk c2))
    · by_cases c2 : i = k
      · subst c2
        have e := self ak
        subst e
        exact absurd ((at_set c1).mp aj) (ho j (nj j hj c1))
      · exact R.dist j k q (nj j hj c1) (nj k hk c2) ((at_set c1).mp aj) ((at_set c2).mp ak)
  hds := R.hds
  gb := R.gb
  tb := R.tb
/-- the object of slot i becomes data -/
theorem Rel.freeze (R : Rel K Γ hid σ H δ G) {i : Nat} {ds : List D} (h : δ.get i = some (.ow (.lst ds))) :
    ∃ p G', At σ i p ∧ Same G G' ∧ Dt K G' (.ref p) (.list ds) ∧ Rel K Γ hid σ H (δ.set i (some (.sh (.list ds)))) G' := by
  obtain ⟨p, at1, hG, h0, hh, vs, hp, hv⟩ := R.sl i _ h
  have hi := DS.get_lt h
  have sG : Same G (upd G p (.lst vs)) := fun a u e => by rw [upd_ne (ne_of_none e hG)]; exact e
  have dp : Dt K (upd G p (.lst vs)) (.ref p) (.list ds) := .lst (.inl upd_same) (dpa_mono sG hv)
  refine ⟨p, upd G p (.lst vs), at1, sG, dp, ?_⟩
  have ne : ∀ j, Own δ j → i ≠ j → ¬ At σ j p := fun j hj c a => c (R.dist i j p ⟨_, .inl h⟩ hj at1 a)
  refine ⟨fun a u e => ?_, R.ext.trans sG, fun a e => ?_, R.fr, fun q hq => ?_, by rw [List.length_set]; exact R.len, fun j s e => ?_, fun j k q hj hk aj ak => ?_, fun q hq => ?_, R.gb.trans sG, R.tb.upG⟩
  · by_cases c : a = p
    · rw [c, upd_same] at e; rw [c]; cases e; exact hp
    · rw [upd_ne c] at e; exact R.sub a u e
  · have c : a ≠ p := fun z => by rw [z] at e; exact e h0
    rw [upd_ne c]; exact R.old a e
  · obtain ⟨h1, h2, o, h3⟩ := R.prs q hq
    have n : i ≠ q.1 := fun z => by rw [← z, h] at h3; cases h3
    exact ⟨h1, h2, o, by rw [DS.get_set, if_neg (fun z => n z.1)]; exact h3⟩
  · rw [DS.get_set] at e
    by_cases c : i = j
    · subst c
      rw [if_pos ⟨rfl, hi⟩] at e
      cases e
      exact ⟨.ref p, at1, dp⟩
    · rw [if_neg (fun z => c z.1)] at e
      have q := R.sl j s e
      cases s with
      | sh d => obtain ⟨v, h1, h2⟩ := q; exact ⟨v, h1, dp_mono sG h2⟩
      | ow o =>
        obtain ⟨r, h1, h2, h3, h4, h5⟩ := q
        have n : r ≠ p := fun z => ne j ⟨o, .inl e⟩ c (z ▸ h1)
        exact ⟨r, h1, by rw [upd_ne n]; exact h2, h3, h4, h5.mono sG fun _ z => z⟩
      | io o =>
        obtain ⟨r, h1, h2, h3, h4, h5⟩ := q
        have n : r ≠ p := fun z => ne j ⟨o, .inr e⟩ c (z ▸ h1)
        exact ⟨r, h1, by rw [upd_ne n]; exact h2, h3, h4, h5.mono sG fun _ z => z⟩
  · have nj : ∀ j, Own (List.set δ i (some (.sh (.list ds)))) j → Own δ j := fun j ⟨o, ho⟩ => by
      by_cases c : i = j
      · subst c
        rw [DS.get_set, if_pos ⟨rfl, hi⟩] at ho
        rcases ho with z | z <;> cases z
      · rw [DS.get_set, if_neg (fun z => c z.1)] at ho
        exact ⟨o, ho⟩
    exact R.dist j k q (nj j hj) (nj k hk) aj ak
  · obtain ⟨h1, h2, h3⟩ := R.hds q hq
    exact ⟨h1, by rw [upd_ne (hh q hq)]; exact h2, h3⟩
/-- the own object of slot i is changed -/
theorem Rel.chg (R : Rel K Γ hid σ H δ G) {i : Nat} {p : Addr} {s : Sl} {o o' : MO} {u : HO} (hs : δ.get i = some s) (at1 : At σ i p) (hm : MOk K G (upd H p u) p o')
    (c : (s = .ow o) ∨ (s = .io o)) : Rel K Γ hid σ (upd H p u) (δ.set i (some (s.put o'))) G := by
  have hi := DS.get_lt hs
  have own : Own δ i := by
    rcases c with e | e
    · exact ⟨o, .inl (e ▸ hs)⟩
    · exact ⟨o, .inr (e ▸ hs)⟩
  obtain ⟨hG, hh, hz⟩ : G p = none ∧ (∀ q ∈ hid.ls, q.1 ≠ p) ∧ (Γ.H0 p = none ∨ (i, p) ∈ Γ.par) := by
    have q := R.sl i s hs
    rcases c with e | e
    · subst e
      obtain ⟨p', a', h1, h2, h3, _⟩ := q
      cases at1.inj a'
      exact ⟨h1, h3, .inl h2⟩
    · subst e
      obtain ⟨p', a', h1, h2, h3, _⟩ := q
      cases at1.inj a'
      exact ⟨h1, h3, .inr h2⟩
  have hn : ∃ xs, H p = some (.lst xs) := by
    have q := R.sl i s hs
    rcases c with e | e
    · subst e
      obtain ⟨p', a', _, _, _, m⟩ := q
      cases at1.inj a'
      exact m.lst
    · subst e
      obtain ⟨p', a', _, _, _, m⟩ := q
      cases at1.inj a'
      exact m.lst
  have ne : ∀ j, Own δ j → i ≠ j → ¬ At σ j p := fun j hj c a => c (R.dist i j p own hj at1 a)
  have nj : ∀ j o2, (∃ o3, o2 = Sl.ow o3 ∨ o2 = .io o3) → Own (List.set δ i (some o2)) j → Own δ j := fun j o2 _ ⟨o, ho⟩ => by
    by_cases c : i = j
    · subst c; exact own
    · rw [DS.get_set, if_neg (fun z => c z.1)] at ho
      exact ⟨o, ho⟩
  have knd : ∃ o3, (s.put o') = Sl.ow o3 ∨ (s.put o') = .io o3 := by
    rcases c with e | e <;> subst e
    · exact ⟨o', .inl rfl⟩
    · exact ⟨o', .inr rfl⟩
  refine ⟨fun a u e => ?_, R.ext, R.old, fun a u e n => ?_, fun q hq => ?_, by rw [List.length_set]; exact R.len, fun j s' e => ?_, fun j k q hj hk aj ak => R.dist j k q (nj j _ knd hj) (nj k _ knd hk) aj ak, fun q hq => ?_, R.gb, R.tb.lst hn⟩
  · rw [upd_ne (ne_of_none e hG)]; exact R.sub a u e
  · have c : a ≠ p := fun z => by
      rcases hz with z1 | z1
      · rw [z, z1] at e; cases e
      · exact n _ z1 z.symm
    rw [upd_ne c]; exact R.fr a u e n
  · obtain ⟨h1, h2, o2, h3⟩ := R.prs q hq
    by_cases cc : i = q.1
    · rw [← cc, hs] at h3
      cases h3
      exact ⟨h1, h2, o', by rw [DS.get_set, if_pos ⟨cc, cc ▸ hi⟩]; rfl⟩
    · exact ⟨h1, h2, o2, by rw [DS.get_set, if_neg (fun z => cc z.1)]; exact h3⟩
  · rw [DS.get_set] at e
    by_cases cc : i = j
    · subst cc
      rw [if_pos ⟨rfl, hi⟩] at e
      have q := R.sl i s hs
      rcases c with e2 | e2
      · subst e2
        cases e
        obtain ⟨p', a', h1, h2, h3, _⟩ := q
        exact ⟨p', a', h1, h2, h3, by cases at1.inj a'; exact hm⟩
      · subst e2
        cases e
        obtain ⟨p', a', h1, h2, h3, _⟩ := q
        exact ⟨p', a', h1, h2, h3, by cases at1.inj a'; exact hm⟩
    · rw [if_neg (fun z => cc z.1)] at e
      have q := R.sl j s' e
      cases s' with
      | sh d => exact q
      | ow o2 =>
        obtain ⟨r, h1, h2, h3, h4, h5⟩ := q
        have n : r ≠ p := fun z => ne j ⟨o2, .inl e⟩ cc (z ▸ h1)
        exact ⟨r, h1, h2, h3, h4, h5.mono (Same.refl _) fun _ z => by rw [upd_ne n]; exact z⟩
      | io o2 =>
        obtain ⟨r, h1, h2, h3, h4, h5⟩ := q
        have n : r ≠ p := fun z => ne j ⟨o2, .inr e⟩ cc (z ▸ h1)
        exact ⟨r, h1, h2, h3, h4, h5.mono (Same.refl _) fun _ z => by rw [upd_ne n]; exact z⟩
  · obtain ⟨h1, h2, h3⟩ := R.hds q hq
    exact ⟨by rw [upd_ne (hh q hq)]; exact h1, h2, h3⟩
/-- from here on the data as they are stay -/
theorem Rel.rebase (R : Rel K Γ hid σ H δ G) : Rel K Γ ⟨hid.ls, G⟩ σ H δ G :=
  ⟨R.sub, R.ext, R.old, R.fr, R.prs, R.len, R.sl, R.dist, R.hds, Same.refl _, R.tb⟩
theorem Rel.unbase {G1 : Hp} (R : Rel K Γ ⟨hid.ls, G1⟩ σ H δ G) (s : Same hid.gb G1) : Rel K Γ hid σ H δ G :=
  ⟨R.sub, R.ext, R.old, R.fr, R.prs, R.len, R.sl, R.dist, R.hds, s.trans R.gb, R.tb⟩
end
end DL

/-! Judgements over data; expressions. -/
namespace DL
open PySem PySem.Spec PyProof.Rows L2 NX
variable [TabsC]
/-- an exception: its class, the datum it carries -/
abbrev Exn := Addr × Option D
abbrev KE := Exn → DS → Prop
abbrev RE := DS → KE → (D → DS → Prop) → Prop
abbrev RT := DS → KE → (Bool → DS → Prop) → Prop
abbrev RA := DS → KE → (List D → DS → Prop) → Prop
inductive Fl where | nx | bk | ct | rt (d : D)
abbrev RS := DS → KE → (Fl → DS → Prop) → Prop
def Mono {α : Type} (φ : DS → KE → (α → DS → Prop) → Prop) : Prop := ∀ δ (E E' : KE) (P P' : α → DS → Prop), (∀ x δ, E x δ → E' x δ) → (∀ a δ, P a δ → P' a δ) → φ δ E P → φ δ E' P'
def ExR (K : PySem.W.Frag) (H G : Hp) (x : Exn) (cls : Value) (d : Option Addr) : Prop := cls = .ref x.1 ∧ (match x.2 with
  | none => d = none
  | some dv => ∃ dx v, d = some dx ∧ H dx = some (.xd [(("at" : Str), v)]) ∧ Dt K G v dv)
section
variable (K : PySem.W.Frag) (Γ : Ga) (W : WX)
def EK (hid : Hd) : KE := fun x δ => ∀ cls d σ H G, Rel K Γ hid σ H δ G → ExR K H G x cls d → W cls d σ H
/-- what is wanted of an expression's value, as the hand layer asks it -/
def KV (hid : Hd) (σ : L2.St) (G : Hp) (Q : VK) : D → DS → Prop := fun d δ => ∀ v H' G', Rel K Γ hid σ H' δ G' → Same G G' → Dt K G' v d → Q v H'
def KB (hid : Hd) (σ : L2.St) (G : Hp) (Q : Bool → Hp → Prop) : Bool → DS → Prop := fun d δ => ∀ H' G', Rel K Γ hid σ H' δ G' → Same G G' → Q d H'
def KL (hid : Hd) (σ : L2.St) (G : Hp) (Q : List V → Hp → Prop) : List D → DS → Prop := fun ds δ => ∀ vs H' G', Rel K Γ hid σ H' δ G' → Same G G' → Dts K G' vs ds → Q vs H'
def LE (φ : RE) : TE := fun σ H Q => ∃ hid δ G, Rel K Γ hid σ H δ G ∧ φ δ (EK K Γ W hid) (KV K Γ hid σ G Q)
def LT (φ : RT) : TT := fun σ H Q => ∃ hid δ G, Rel K Γ hid σ H δ G ∧ φ δ (EK K Γ W hid) (KB K Γ hid σ G Q)
def LA (φ : RA) : TA := fun σ H Q => ∃ hid δ G, Rel K Γ hid σ H δ G ∧ φ δ (EK K Γ W hid) (KL K Γ hid σ G Q)
end
structure DE (X : Cx) (Γ : Ga) (W : WX) (e : Expr) (φ : RE) : Prop where
  run : PE X e (LE X.K Γ W φ)
  mono : Mono φ
structure DT (X : Cx) (Γ : Ga) (W : WX) (e : Expr) (φ : RT) : Prop where
  run : PT X e (LT X.K Γ W φ)
  mono : Mono φ
structure DW (X : Cx) (Γ : Ga) (W : WX) (e : Expr) (φ : RT) : Prop where
  run : PW X e (LT X.K Γ W φ)
  mono : Mono φ
structure DA (X : Cx) (Γ : Ga) (W : WX) (es : List Expr) (φ : RA) : Prop where
  run : PA X es (LA X.K Γ W φ)
  mono : Mono φ
  len : ∀ δ E P, φ δ E P → φ δ E fun ds δ' => ds.length = es.length ∧ P ds δ'
theorem PE.imp {X : Cx} {e : Expr} {t t' : TE} (h : PE X e t) (i : ∀ σ H Q, t' σ H Q → t σ H Q) : PE X e t' := ⟨fun pins s σ H Q I q => h.run pins s σ H Q I (i σ H Q q)⟩
theorem PT.imp {X : Cx} {e : Expr} {t t' : TT} (h : PT X e t) (i : ∀ σ H Q, t' σ H Q → t σ H Q) : PT X e t' := ⟨fun pins s σ H Q I q => h.run pins s σ H Q I (i σ H Q q)⟩
theorem PW.imp {X : Cx} {e : Expr} {t t' : TT} (h : PW X e t) (i : ∀ σ H Q, t' σ H Q → t σ H Q) : PW X e t' := ⟨fun wh pins s σ H Q I q => h.run wh pins s σ H Q I (i σ H Q q)⟩
theorem PA.imp {X : Cx} {e : List Expr} {t t' : TA} (h : PA X e t) (i : ∀ σ H Q, t' σ H Q → t σ H Q) : PA X e t' := ⟨fun pos pins s σ H Q I q => h.run pos pins s σ H Q I (i σ H Q q)⟩
section
variable {X : Cx} {Γ : Ga} {W : WX} {a b c : Expr} {φa φb φc : RE} {pos : Pos}
theorem de_mk {e : Expr} {t : TE} {φ : RE} (h : PE X e t) (m : Mono φ) (i : ∀ σ H Q hid δ G, Rel X.K Γ hid σ H δ G → φ δ (EK X.K Γ W hid) (KV X.K Γ hid σ G Q) → t σ H Q) : DE X Γ W e φ :=
  ⟨PE.imp h fun σ H Q ⟨hid, δ, G, R, q⟩ => i σ H Q hid δ G R q, m⟩
theorem dt_mk {e : Expr} {t : TT} {φ : RT} (h : PT X e t) (m : Mono φ) (i : ∀ σ H Q hid δ G, Rel X.K Γ hid σ H δ G → φ δ (EK X.K Γ W hid) (KB X.K Γ hid σ G Q) → t σ H Q) : DT X Γ W e φ :=
  ⟨PT.imp h fun σ H Q ⟨hid, δ, G, R, q⟩ => i σ H Q hid δ G R q, m⟩
theorem dw_mk {e : Expr} {t : TT} {φ : RT} (h : PW X e t) (m : Mono φ) (i : ∀ σ H Q hid δ G, Rel X.K Γ hid σ H δ G → φ δ (EK X.K Γ W hid) (KB X.K Γ hid σ G Q) → t σ H Q) : DW X Γ W e φ :=
  ⟨PW.imp h fun σ H Q ⟨hid, δ, G, R, q⟩ => i σ H Q hid δ G R q, m⟩
theorem da_mk {e : List Expr} {t : TA} {φ : RA} (h : PA X e t) (m : Mono φ) (i : ∀ σ H Q hid δ G, Rel X.K Γ hid σ H δ G → φ δ (EK X.K Γ W hid) (KL X.K Γ hid σ G Q) → t σ H Q) (l : ∀ δ E P, φ δ E P → φ δ E fun ds δ' => ds.length = e.length ∧ P ds δ') : DA X Γ W e φ :=
  ⟨PA.imp h fun σ H Q ⟨hid, δ, G, R, q⟩ => i σ H Q hid δ G R q, m, l⟩
/-- an expression's own step: run a, then go on -/
theorem DE.go {σ : L2.St} {H : Hp} {hid : Hd} {δ : DS} {G : Hp} {Q : VK} {P : D → DS → Prop} (h : DE X Γ W a φa) (R : Rel X.K Γ hid σ H δ G) (q : φa δ (EK X.K Γ W hid) P)
    (k : ∀ d δ1 v H1 G1, P d δ1 → Rel X.K Γ hid σ H1 δ1 G1 → Same G G1 → Dt X.K G1 v d → Q v H1) : LE X.K Γ W φa σ H Q :=
  ⟨hid, δ, G, R, h.mono _ _ _ _ _ (fun _ _ z => z) (fun d δ1 p v H1 G1 R1 s1 d1 => k d δ1 v H1 G1 p R1 s1 d1) q⟩
theorem DT.go {σ : L2.St} {H : Hp} {hid : Hd} {δ : DS} {G : Hp} {Q : Bool → Hp → Prop} {φ : RT} {P : Bool → DS → Prop} (h : DT X Γ W a φ) (R : Rel X.K Γ hid σ H δ G) (q : φ δ (EK X.K Γ W hid) P)
    (k : ∀ d δ1 H1 G1, P d δ1 → Rel X.K Γ hid σ H1 δ1 G1 → Same G G1 → Q d H1) : LT X.K Γ W φ σ H Q :=
  ⟨hid, δ, G, R, h.mono _ _ _ _ _ (fun _ _ z => z) (fun d δ1 p H1 G1 R1 s1 => k d δ1 H1 G1 p R1 s1) q⟩
theorem DA.go {σ : L2.St} {H : Hp} {hid : Hd} {δ : DS} {G : Hp} {Q : List V → Hp → Prop} {es : List Expr} {φ : RA} {P : List D → DS → Prop} (h : DA X Γ W es φ) (R : Rel X.K Γ hid σ H δ G) (q : φ δ (EK X.K Γ W hid) P)
    (k : ∀ d δ1 v H1 G1, P d δ1 → Rel X.K Γ hid σ H1 δ1 G1 → Same G G1 → Dts X.K G1 v d → Q v H1) : LA X.K Γ W φ σ H Q :=
  ⟨hid, δ, G, R, h.mono _ _ _ _ _ (fun _ _ z => z) (fun d δ1 p v H1 G1 R1 s1 d1 => k d δ1 v H1 G1 p R1 s1 d1) q⟩
/-! ### names, constants -/
def varK (o : Option Sl) (i : Nat) (δ : DS) (P : D → DS → Prop) : Prop := match o with
  | some (.sh d) => P d δ
  | some (.ow (.lst ds)) => P (.list ds) (List.set δ i (some (.sh (.list ds))))
  | _ => False
def varR (i : Nat) : RE := fun δ _ P => varK (δ.get i) i δ P
theorem de_varT {i : Nat} {x : Str} (h : PE X (.Name x pos) (tVar i)) : DE X Γ W (.Name x pos) (varR i) := by
  refine de_mk h ?_ ?_
  · intro δ E E' P P' _ hp q
    show varK (δ.get i) i δ P'
    have q' : varK (δ.get i) i δ P := q
    cases e : δ.get i with
    | none => rw [e] at q'; exact q'
    | some s =>
      rw [e] at q'
      cases s with
      | sh d => exact hp _ _ q'
      | ow o => cases o with | lst ds => exact hp _ _ q'
      | io o => exact q'
  · intro σ H Q hid δ G R q
    have q' : varK (δ.get i) i δ (KV X.K Γ hid σ G Q) := q
    cases e : δ.get i with
    | none => rw [e] at q'; exact q'.elim
    | some s =>
      rw [e] at q'
      cases s with
      | sh d =>
        obtain ⟨v, h1, h2⟩ := R.sl i _ e
        exact ⟨v, h1, q' v H G R (Same.refl _) h2⟩
      | ow o =>
        cases o with
        | lst ds =>
          obtain ⟨p, G', at1, s1, d1, R1⟩ := R.freeze e
          exact ⟨.ref p, at1, q' _ H G' R1 s1 d1⟩
      | io o => exact q'.elim
theorem de_var (i : Nat) {x : Str} (hN : X.N[i]? = some x := by rfl) (hv : Vis X.env.scope x := by first | exact Or.inl rfl | exact Or.inr (Or.inl rfl) | exact Or.inr (Or.inr rfl)) (hd : (x == ("__debug__" : Str)) = false := by decide)
    (hcd : (x == ("__classdict__" : Str)) = false := by decide) : DE X Γ W (.Name x pos) (varR i) := de_varT (pe_var hN hv hd hcd)
def cR (d : D) : RE := fun δ _ P => P d δ
theorem mono_c {d : D} : Mono (cR d) := fun _ _ _ _ _ _ h q => h _ _ q
theorem de_c {e : Expr} {v : V} {d : D} (h : PE X e (tC v)) (hd : ∀ G, Dt X.K G v d) : DE X Γ W e (cR d) :=
  de_mk h mono_c fun σ H Q hid δ G R q => q v H G R (Same.refl _) (hd G)
theorem de_int {i j} : DE X Γ W (.Constant (.int i) j pos) (cR (.int i)) := de_c pe_int fun _ => .int i
theorem de_bl {i j} : DE X Γ W (.Constant (.bool i) j pos) (cR (.bool i)) := de_c pe_bl fun _ => .bl i
theorem de_non {j} : DE X Γ W (.Constant .none j pos) (cR .none) := de_c pe_non fun _ => .non
theorem de_str {i j} : DE X Γ W (.Constant (.str i) j pos) (cR (.str i)) := de_c pe_str fun _ => .str i
theorem de_glob {x : Str} {v : V} {u : Value} {d : D} (hm : X.mg x = some u) (r : RelV v u) (hd : ∀ G, Dt X.K G v d) (hg : Gl X x := by rfl) (hdb : (x == ("__debug__" : Str)) = false := by decide) : DE X Γ W (.Name x pos) (cR d) :=
  de_c (pe_glob hg hm r hdb) hd
theorem de_globI {x : Str} {i : Int} {t : Tok} (hm : X.mg x = some (.int i t)) (hg : Gl X x := by rfl) (hdb : (x == ("__debug__" : Str)) = false := by decide) : DE X Γ W (.Name x pos) (cR (.int i)) :=
  de_glob hm (v := .int i) ⟨t, rfl⟩ (fun _ => .int i) hg hdb
theorem de_globS {x z : Str} {t : Tok} (hm : X.mg x = some (.str z t)) (hg : Gl X x := by rfl) (hdb : (x == ("__debug__" : Str)) = false := by decide) : DE X Γ W (.Name x pos) (cR (.str z)) :=
  de_glob hm (v := .str z) ⟨t, rfl⟩ (fun _ => .str z) hg hdb
/-! ### operators -/
abbrev OpD := D → D → (D → Prop) → Prop
structure OpS (K : PySem.W.Frag) (r : R2) (f : OpD) : Prop where
  ok : ∀ x y dx dy H G P Q, Same G H → Dt K G x dx → Dt K G y dy → f dx dy P → (∀ d v H' G', P d → Grow [] H G H' G' → Dt K G' v d → Q v H') → r x y H Q
  mono : ∀ dx dy P P', (∀ d, P d → P' d) → f dx dy P → f dx dy P'
def opR (f : OpD) (a b : RE) : RE := fun δ E P => a δ E fun x δ1 => b δ1 E fun y δ2 => f x y fun d => P d δ2
theorem mono_op {f : OpD} (mf : ∀ dx dy P P', (∀ d, P d → P' d) → f dx dy P → f dx dy P') (ma : Mono φa) (mb : Mono φb) : Mono (opR f φa φb) :=
  fun δ E E' P P' he hp q => ma _ _ _ _ _ he (fun x δ1 q1 => mb _ _ _ _ _ he (fun y δ2 q2 => mf _ _ _ _ (fun d => hp d δ2) q2) q1) q
theorem op_go {r : R2} {f : OpD} (s : OpS X.K r f) (ha : DE X Γ W a φa) (hb : DE X Γ W b φb) : ∀ σ H Q hid δ G, Rel X.K Γ hid σ H δ G → opR f φa φb δ (EK X.K Γ W hid) (KV X.K Γ hid σ G Q) → tOp r (LE X.K Γ W φa) (LE X.K Γ W φb) σ H Q :=
  fun σ H Q hid δ G R q => ha.go R q fun dx δ1 v H1 G1 q1 R1 s1 d1 => hb.go R1 q1 fun dy δ2 u H2 G2 q2 R2 s2 d2 =>
    s.ok v u dx dy H2 G2 _ Q R2.sub (dp_mono s2 d1) d2 q2 fun d z H3 G3 p g dd => p z H3 G3 (R2.grow g) ((s1.trans s2).trans g.data) dd
theorem de_op {op : Operator} {r : R2} {f : OpD} (o : OpR X (binaryOp op) r) (s : OpS X.K r f) (ha : DE X Γ W a φa) (hb : DE X Γ W b φb) : DE X Γ W (.BinOp a op b pos) (opR f φa φb) :=
  de_mk (pe_op o ha.run hb.run) (mono_op s.mono ha.mono hb.mono) (op_go s ha hb)
theorem de_cmp {op : CmpOp} {r : R2} {f : OpD} (o : OpR X (compareOp op) r) (s : OpS X.K r f) (ha : DE X Γ W a φa) (hb : DE X Γ W b φb) (hm : behindInMarks op b = false) : DE X Γ W (.Compare a [op] [b] pos) (opR f φa φb) :=
  de_mk (pe_cmpR o ha.run hb.run hm) (mono_op s.mono ha.mono hb.mono) (op_go s ha hb)
theorem OpS.or {r r' : R2} {f : OpD} (m : ∀ dx dy P P', (∀ d, P d → P' d) → f dx dy P → f dx dy P')
    (h : ∀ x y dx dy H G P Q, Same G H → Dt X.K G x dx → Dt X.K G y dy → f dx dy P → (∀ d v H' G', P d → Grow [] H G H' G' → Dt X.K G' v d → Q v H') → r x y H Q ∨ r' x y H Q) : OpS X.K (fun x y H Q => r x y H Q ∨ r' x y H Q) f := ⟨h, m⟩
/-- list + list, lists that stand in H -/
def rCatR : R2 := fun x y H Q => ∃ l b xs zs, x = .ref l ∧ y = .ref b ∧ Rd H l (.lst xs) ∧ Rd H b (.lst zs) ∧ xs.length + zs.length ≤ sizeLine ∧ ∀ p, H p = none → Q (.ref p) (upd H p (.lst (xs ++ zs)))
theorem op_catR : OpR X (binaryOp .Add) rCatR := by
  intro pins s σ H x y v u Q I rx ry h
  obtain ⟨l, b, xs, zs, rfl, rfl, hH, hB, hz, q⟩ := h
  cases rx
  cases ry
  obtain ⟨z, its, n, r, e⟩ := (show ObjOk X.prog X.w H s.heap l (.lst xs) from hH.ok I.hok)
  obtain ⟨z2, its2, n2, r2, e2⟩ := (show ObjOk X.prog X.w H s.heap b (.lst zs) from hB.ok I.hok)
  have hl := r.length
  have hl2 := r2.length
  refine PySem.P.add_list e e2 ?_ (by rw [List.size_toArray, List.size_toArray]; omega)
  have ea : its.toArray ++ its2.toArray = (its ++ its2).toArray := by simp
  rw [ea]
  exact ⟨.ref _, _, I.lnew (t' := s.toks) (r.append r2) (by rw [List.length_append]; omega), rfl, q _ I.fresh⟩
def addD : OpD := fun x y P => match x, y with
  | .int i, .int j => P (.int (i + j))
  | .str i, .str j => i.length + j.length ≤ sizeLine ∧ P (.str (i ++ j))
  | .tuple i, .tuple j => i.length + j.length ≤ sizeLine ∧ P (.tuple (i ++ j))
  | .list i, .list j => i.length + j.length ≤ sizeLine ∧ P (.list (i ++ j))
  | _, _ => False
def rAddD (K : PySem.W.Frag) : R2 := fun x y H Q => (∃ i j, x = .int i ∧ y = .int j ∧ Q (.int (i + j)) H) ∨ (∃ i j, x = .str i ∧ y = .str j ∧ i.length + j.length ≤ sizeLine ∧ Q (.str (i ++ j)) H) ∨ rCatA K x y H Q ∨ rCatR x y H Q
theorem op_addD : OpR X (binaryOp .Add) (rAddD X.K) := op_add.or (op_add_str.or (op_catA.or op_catR))
theorem addD_s {K : PySem.W.Frag} : OpS K (rAddD K) addD := by
  refine ⟨?_, ?_⟩
  · intro x y dx dy H G P Q s hx hy f k
    cases hx with
    | int i =>
      cases hy with
      | int j => exact .inl ⟨i, j, rfl, rfl, k _ _ H G f (.refl s) (.int _)⟩
      | _ => exact f.elim
    | str i =>
      cases hy with
      | str j => exact .inr (.inl ⟨i, j, rfl, rfl, f.1, k _ _ H G f.2 (.refl s) (.str _)⟩)
      | _ => exact f.elim
    | @tup a1 xs1 ds1 h1 ha =>
      cases hy with
      | @tup a2 xs2 ds2 h2 hb =>
        have f1 := f.1
        rw [← dpa_length ha, ← dpa_length hb] at f1
        refine .inr (.inr (.inl ⟨_, _, _, _, rfl, rfl, Same.seqT s h1, Same.seqT s h2, f1, fun e => ?_, fun e1 e2 => ?_, fun e1 e2 p np => ?_⟩))
        · subst e
          cases ha
          exact k _ _ H G f.2 (.refl s) (.tup h2 hb)
        · subst e2
          cases hb
          have f2 := f.2
          rw [List.append_nil] at f2
          exact k _ _ H G f2 (.refl s) (.tup h1 ha)
        · have g := Grow.new (o := .tup (xs1 ++ xs2)) s np
          exact k _ _ _ _ f.2 g (.tup (.of upd_same) (dpa_append (dpa_mono g.data ha) (dpa_mono g.data hb)))
      | _ => exact f.elim
    | @lst a1 xs1 ds1 h1 ha =>
      cases hy with
      | @lst a2 xs2 ds2 h2 hb =>
        have f1 := f.1
        rw [← dpa_length ha, ← dpa_length hb] at f1
        refine .inr (.inr (.inr ⟨_, _, _, _, rfl, rfl, Same.rd s h1, Same.rd s h2, f1, fun p np => ?_⟩))
        have g := Grow.new (o := .lst (xs1 ++ xs2)) s np
        exact k _ _ _ _ f.2 g (.lst (.inl upd_same) (dpa_append (dpa_mono g.data ha) (dpa_mono g.data hb)))
      | _ => exact f.elim
    | _ => exact f.elim
  · intro dx dy P P' hp f
    cases dx <;> cases dy <;> first | exact f.elim | exact hp _ f | exact ⟨f.1, hp _ f.2⟩
theorem de_add (ha : DE X Γ W a φa) (hb : DE X Γ W b φb) : DE X Γ W (.BinOp a .Add b pos) (opR addD φa φb) := de_op op_addD addD_s ha hb
/-- two ints -/
def intD (C : Int → Int → Prop) (g : Int → Int → D) : OpD := fun x y P => match x, y with
  | .int i, .int j => C i j ∧ P (g i j)
  | _, _ => False
theorem intD_s {K : PySem.W.Frag} {C : Int → Int → Prop} {g : Int → Int → V} {g' : Int → Int → D} (hg : ∀ G i j, Dt K G (g i j) (g' i j)) : OpS K (rI C g) (intD C g') := by
  refine ⟨?_, ?_⟩
  · intro x y dx dy H G P Q s hx hy f k
    cases hx with
    | int i =>
      cases hy with
      | int j => exact ⟨i, j, rfl, rfl, f.1, k _ _ H G f.2 (.refl s) (hg _ _ _)⟩
      | _ => exact f.elim
    | _ => exact f.elim
  · intro dx dy P P' hp f
    cases dx <;> cases dy <;> first | exact f.elim | exact ⟨f.1, hp _ f.2⟩
def int0D (g : Int → Int → D) : OpD := fun x y P => match x, y with
  | .int i, .int j => P (g i j)
  | _, _ => False
theorem int0D_s {K : PySem.W.Frag} {g : Int → Int → V} {g' : Int → Int → D} (hg : ∀ G i j, Dt K G (g i j) (g' i j)) : OpS K (rI0 g) (int0D g') := by
  refine ⟨?_, ?_⟩
  · intro x y dx dy H G P Q s hx hy f k
    cases hx with
    | int i =>
      cases hy with
      | int j => exact ⟨i, j, rfl, rfl, k _ _ H G f (.refl s) (hg _ _ _)⟩
      | _ => exact f.elim
    | _ => exact f.elim
  · intro dx dy P P' hp f
    cases dx <;> cases dy <;> first | exact f.elim | exact hp _ f
abbrev subD : OpD := int0D fun i j => .int (i - j)
theorem de_sub (ha : DE X Γ W a φa) (hb : DE X Γ W b φb) : DE X Γ W (.BinOp a .Sub b pos) (opR subD φa φb) := de_op op_sub (int0D_s fun _ _ _ => .int _) ha hb
abbrev divD : OpD := intD CDivW fun i j => .int (i / j)
theorem de_fdiv (ha : DE X Γ W a φa) (hb : DE X Γ W b φb) : DE X Γ W (.BinOp a .FloorDiv b pos) (opR divD φa φb) := de_op op_fdivW (intD_s fun _ _ _ => .int _) ha hb
abbrev modD : OpD := intD (fun _ j => 0 < j) fun i j => .int (i % j)
theorem de_mod (ha : DE X Γ W a φa) (hb : DE X Γ W b φb) : DE X Γ W (.BinOp a .Mod b pos) (opR modD φa φb) := de_op op_mod (intD_s fun _ _ _ => .int _) ha hb
abbrev powD : OpD := intD CPow fun i j => .int (i ^ j.toNat)
theorem de_pow (ha : DE X Γ W a φa) (hb : DE X Γ W b φb) : DE X Γ W (.BinOp a .Pow b pos) (opR powD φa φb) := de_op op_pow (intD_s fun _ _ _ => .int _) ha hb
end
end DL

/-! More expressions. -/
namespace DL
open PySem PySem.Spec PyProof.Rows L2 NX
variable [TabsC]
section
variable {X : Cx} {Γ : Ga} {W : WX} {a b c : Expr} {φa φb φc : RE} {pos : Pos}
/-! ### times -/
/-- text * k -/
def repS (x : Str) (k : Int) : Str := ⟨(List.replicate k.toNat x.cps.toList).flatten.toArray⟩
theorem foldl_repA (x : Array Nat) : ∀ (m : Nat) (acc : Array Nat), (List.replicate m x).foldl (· ++ ·) acc = acc ++ (List.replicate m x.toList).flatten.toArray
  | 0, acc => by simp
  | m + 1, acc => by
    rw [List.replicate_succ, List.foldl_cons, foldl_repA x m, List.replicate_succ, List.flatten_cons]
    apply Array.toList_inj.mp
    simp
def rMulS : R2 := fun x y H Q => ∃ z k, x = .str z ∧ y = .int k ∧ 0 ≤ k ∧ z.length * k.toNat ≤ sizeLine ∧ k.toNat ≤ sizeLine ∧ Q (.str (repS z k)) H
theorem op_mulS : OpR X (binaryOp .Mult) rMulS := by
  intro pins s σ H x y v u Q I rx ry h
  obtain ⟨z, k, rfl, rfl, h0, hz, hk, q⟩ := h
  obtain ⟨t, rfl⟩ := rx
  obtain ⟨t', rfl⟩ := ry
  have e : sizeLine = 16777216 := sizeLine_eq
  refine PySem.P.mul_str ?_ ?_ ?_ ?_
  · rw [decide_eq_false (by omega), decide_eq_false (by omega)]; rfl
  · intro h1 h2 h3
    have hk1 : 0 < k := by omega
    have h4 : (z.length : Int) ≤ (2 ^ 63 - 1) / k := by
      rw [Int.le_ediv_iff_mul_le hk1]
      have : ((z.length * k.toNat : Nat) : Int) = (z.length : Int) * k := by
        rw [Int.natCast_mul, Int.toNat_of_nonneg h0]
      rw [← this]
      omega
    omega
  · intro h1 h2
    show decide (z.length * k.toNat > sizeLine) = false
    exact decide_eq_false (by omega)
  · have fin : ∀ y : Str, y = repS z k → (Q (.str y) H) := fun y e => e ▸ q
    by_cases c1 : k < 1
    · rw [if_pos c1]
      have k0 : k = 0 := by omega
      subst k0
      refine ⟨by decide, ⟨.str _, H, I.tok _, ⟨_, rfl⟩, fin _ ?_⟩⟩
      rfl
    · rw [if_neg c1]
      by_cases c2 : (k == 1 || z.length == 0) = true
      · rw [if_pos c2]
        refine ⟨.str z, H, I, ⟨_, rfl⟩, fin _ ?_⟩
        apply Str.ext'
        apply Array.toList_inj.mp
        unfold repS
        rcases Bool.or_eq_true_iff.mp c2 with c3 | c3
        · have k1 : k = 1 := by simpa using c3
          subst k1
          simp
        · have z0 : z.cps.toList = [] := by
            have : z.length = 0 := by simpa using c3
            exact List.eq_nil_of_length_eq_zero (by rw [Array.length_toList]; exact this)
          rw [z0]
          simp
      · rw [if_neg c2]
        have e2 : (List.replicate k.toNat z.cps).foldl (· ++ ·) #[] = (List.replicate k.toNat z.cps.toList).flatten.toArray := by
          rw [foldl_repA]; simp
        refine ⟨?_, ?_⟩
        · show ((List.replicate k.toNat z.cps).foldl (· ++ ·) #[]).size ≤ sizeLine
          rw [e2, List.size_toArray, PyProof.Rows.lm_len_rep_flat, Nat.mul_comm, Array.length_toList]
          exact hz
        · refine ⟨.str _, H, I.tok _, ⟨_, rfl⟩, fin _ ?_⟩
          unfold repS
          rw [e2]
/-- list * k -/
def rRepR : R2 := fun x y H Q => ∃ l k xs, x = .ref l ∧ y = .int k ∧ Rd H l (.lst xs) ∧ -(2 ^ 63) ≤ k ∧ k < 2 ^ 63 ∧ xs.length * k.toNat ≤ sizeLine ∧
  ∀ p, H p = none → Q (.ref p) (upd H p (.lst (List.replicate k.toNat xs).flatten))
theorem op_repR : OpR X (binaryOp .Mult) rRepR := by
  intro pins s σ H x y v u Q I rx ry h
  obtain ⟨l, k, xs, rfl, rfl, hH, h1, h2, hz, q⟩ := h
  cases rx
  obtain ⟨t, rfl⟩ := ry
  obtain ⟨z, its, n, r, e⟩ := (show ObjOk X.prog X.w H s.heap l (.lst xs) from hH.ok I.hok)
  have hl := r.length
  have hlen : its.toArray.size * k.toNat ≤ sizeLine := by rw [List.size_toArray, ← hl]; exact hz
  have hcap : ¬ its.toArray.size * k.toNat > (2 ^ 63 - 1) / 8 := by
    have : (sizeLine : Nat) ≤ (2 ^ 63 - 1) / 8 := by decide
    omega
  have hfit : ¬ (!Builtin.List.listFitsIndex k) = true := by
    rw [fitsIndex_both h1 h2]
    exact Bool.false_ne_true
  have hlong : ¬ Builtin.List.listTooLong (its.toArray.size * k.toNat) = true := by
    rw [notLongL hlen]
    exact Bool.false_ne_true
  have hnew : List.foldl (fun x1 x2 => x1 ++ x2) #[] (List.replicate (if its.toArray.isEmpty = true then 0 else k.toNat) its.toArray) = (List.replicate k.toNat its).flatten.toArray := by
    have f0 : ∀ m : Nat, List.foldl (fun x1 x2 => x1 ++ x2) #[] (List.replicate m its.toArray) = (List.replicate m its).flatten.toArray := fun m => by
      have := foldl_rep its m []
      rw [List.nil_append] at this
      exact this
    rw [f0]
    cases its with
    | nil => simp
    | cons a r' => rw [if_neg (by simp)]
  refine wpAny_binaryOp_repeat_ref (T := "list") (U := "int") (by decide) ⟨_, e, rfl⟩ (fun s' => typeIs_int s' k t) noFill_list_mul F.fills_int_mul F.slot_int_rmul repeat_list F.slot_int_index.lookup
    (call_meets F.slot_int_rmul (typeIs_int s k t) F.entry_int_rmul (F.args_int_rmul_2 _ _) (int___rmul___int_list k t l its.toArray n)
      ⟨e, rfl, ⟨_, e, rfl⟩, call_meets F.slot_list_mul ⟨_, e, rfl⟩ F.entry_list_mul (F.args_list_mul_2 _ _) (AutoListH.list___mul___list_int_3 l its.toArray n k t hfit hcap hlong) ⟨e, ?_⟩⟩)
  rw [hnew]
  exact ⟨.ref _, _, I.lnew (t' := s.toks) (r.rep k.toNat) (by rw [PyProof.Rows.lm_len_rep_flat, Nat.mul_comm]; exact hz), rfl, q _ I.fresh⟩
def mulD : OpD := fun x y P => match x, y with
  | .int i, .int j => CMulX i j ∧ P (.int (i * j))
  | .str z, .int k => (0 ≤ k ∧ z.length * k.toNat ≤ sizeLine ∧ k.toNat ≤ sizeLine) ∧ P (.str (repS z k))
  | .list xs, .int k => (0 ≤ k ∧ xs.length * k.toNat ≤ sizeLine ∧ k < 2 ^ 63) ∧ P (.list (List.replicate k.toNat xs).flatten)
  | _, _ => False
def rMulD (K : PySem.W.Frag) : R2 := fun x y H Q => rI CMulX (fun i j => .int (i * j)) x y H Q ∨ rMulS x y H Q ∨ rRepR x y H Q
theorem op_mulD : OpR X (binaryOp .Mult) (rMulD X.K) := op_mulX.or (op_mulS.or op_repR)
theorem mulD_s {K : PySem.W.Frag} : OpS K (rMulD K) mulD := by
  refine ⟨?_, ?_⟩
  · intro x y dx dy H G P Q s hx hy f k
    cases hx with
    | int i =>
      cases hy with
      | int j => exact .inl ⟨i, j, rfl, rfl, f.1, k _ _ H G f.2 (.refl s) (.int _)⟩
      | _ => exact f.elim
    | str i =>
      cases hy with
      | int j => exact .inr (.inl ⟨i, j, rfl, rfl, f.1.1, f.1.2.1, f.1.2.2, k _ _ H G f.2 (.refl s) (.str _)⟩)
      | _ => exact f.elim
    | @lst a1 xs1 ds1 h1 ha =>
      cases hy with
      | int j =>
        obtain ⟨⟨f0, f1, f2⟩, f3⟩ := f
        rw [← dpa_length ha] at f1
        refine .inr (.inr ⟨_, _, _, rfl, rfl, Same.rd s h1, by omega, f2, f1, fun p np => ?_⟩)
        have g := Grow.new (o := .lst (List.replicate j.toNat xs1).flatten) s np
        exact k _ _ _ _ f3 g (.lst (.inl upd_same) (dpa_rep (dpa_mono g.data ha) _))
      | _ => exact f.elim
    | _ => exact f.elim
  · intro dx dy P P' hp f
    cases dx <;> cases dy <;> first | exact f.elim | exact ⟨f.1, hp _ f.2⟩
theorem de_mul (ha : DE X Γ W a φa) (hb : DE X Γ W b φb) : DE X Γ W (.BinOp a .Mult b pos) (opR mulD φa φb) := de_op op_mulD mulD_s ha hb
/-! ### comparisons -/
def scalD : D → D → Bool
  | .none, .none => true | .none, .int _ => true | .int _, .none => true | .none, .bool _ => true | .bool _, .none => true | .none, .str _ => true | .str _, .none => true
  | .int _, .int _ => true | .bool _, .bool _ => true | .str _, .str _ => true
  | .int _, .str _ => true | .str _, .int _ => true | .bool _, .str _ => true | .str _, .bool _ => true
  | _, _ => false
def EqOk (x y : D) : Prop := scalD x y = true ∨ (SeqAt.shaped x = true ∧ SeqAt.shaped y = true)
/-- scalars are told apart as they are; other data must be of some shape -/
def eqG (x y : D) (A : Prop) : Prop := bifP (scalD x y) A ((SeqAt.shaped x = true ∧ SeqAt.shaped y = true) ∧ A)
theorem eqG_get {x y : D} {A : Prop} (h : eqG x y A) : EqOk x y ∧ A := by
  unfold eqG at h
  cases e : scalD x y with
  | true => rw [e] at h; exact ⟨.inl e, h⟩
  | false => rw [e] at h; exact ⟨.inr h.1, h.2⟩
theorem eqG_mono {x y : D} {A B : Prop} (i : A → B) (h : eqG x y A) : eqG x y B := bif_mono i (fun z => ⟨z.1, i z.2⟩) h
theorem eqG_of {x y : D} {A : Prop} (h : EqOk x y) (a : A) : eqG x y A := by
  unfold eqG
  cases e : scalD x y with
  | true => exact a
  | false => exact ⟨by rcases h with h | h; rw [e] at h; cases h; exact h, a⟩
def eqD : OpD := fun x y P => eqG x y (P (.bool (PyData.eqv x y)))
def neD : OpD := fun x y P => eqG x y (P (.bool (!PyData.eqv x y)))
theorem scal_V {K : PySem.W.Frag} {G : Hp} {x y : V} {dx dy : D} (hx : Dt K G x dx) (hy : Dt K G y dy) (h : scalD dx dy = true) : scal x y = true ∧ decide (x = y) = PyData.eqv dx dy := by
  cases hx <;> cases hy <;> first | (cases h; done) | (refine ⟨rfl, ?_⟩; simp [PyData.eqv]; done) | skip
  all_goals first | (refine ⟨rfl, ?_⟩; simp only [PyData.eqv]; rw [Bool.eq_iff_iff]; simp; done) | (refine ⟨rfl, ?_⟩; simp only [PyData.eqv]; rfl) | skip
def rEqA (K : PySem.W.Frag) : R2 := fun x y H Q => rEq x y H Q ∨ rEqD K x y H Q
def rNeA (K : PySem.W.Frag) : R2 := fun x y H Q => rNe x y H Q ∨ rNeD K x y H Q
theorem op_eqA (hu : X.A.units + 64 < cLine) : OpR X (compareOp .Eq) (rEqA X.K) := op_eq.or (op_eqD hu)
theorem op_neA (hu : X.A.units + 64 < cLine) : OpR X (compareOp .NotEq) (rNeA X.K) := op_ne.or (op_neD hu)
theorem eqD_s {K : PySem.W.Frag} : OpS K (rEqA K) eqD := by
  refine ⟨?_, fun dx dy P P' hp f => eqG_mono (hp _) f⟩
  intro x y dx dy H G P Q s hx hy f k
  rcases eqG_get f with ⟨f | ⟨f1, f2⟩, p⟩
  · obtain ⟨h1, h2⟩ := scal_V hx hy f
    exact .inl ⟨h1, by rw [h2]; exact k _ _ H G p (.refl s) (.bl _)⟩
  · exact .inr ⟨_, _, (dp_mono s hx).dp (SeqAt.canLay_of_shaped f1), (dp_mono s hy).dp (SeqAt.canLay_of_shaped f2), f1, f2, k _ _ H G p (.refl s) (.bl _)⟩
theorem neD_s {K : PySem.W.Frag} : OpS K (rNeA K) neD := by
  refine ⟨?_, fun dx dy P P' hp f => eqG_mono (hp _) f⟩
  intro x y dx dy H G P Q s hx hy f k
  rcases eqG_get f with ⟨f | ⟨f1, f2⟩, p⟩
  · obtain ⟨h1, h2⟩ := scal_V hx hy f
    exact .inl ⟨h1, by rw [h2]; exact k _ _ H G p (.refl s) (.bl _)⟩
  · exact .inr ⟨_, _, (dp_mono s hx).dp (SeqAt.canLay_of_shaped f1), (dp_mono s hy).dp (SeqAt.canLay_of_shaped f2), f1, f2, k _ _ H G p (.refl s) (.bl _)⟩
theorem de_eq (hu : X.A.units + 64 < cLine) (ha : DE X Γ W a φa) (hb : DE X Γ W b φb) : DE X Γ W (.Compare a [.Eq] [b] pos) (opR eqD φa φb) := de_cmp (op_eqA hu) eqD_s ha hb (nomark _)
theorem de_ne (hu : X.A.units + 64 < cLine) (ha : DE X Γ W a φa) (hb : DE X Γ W b φb) : DE X Γ W (.Compare a [.NotEq] [b] pos) (opR neD φa φb) := de_cmp (op_neA hu) neD_s ha hb (nomark _)
/-- order: ints, texts -/
def ordD (f : Int → Int → Bool) (g : List Nat → List Nat → Bool) : OpD := fun x y P => match x, y with
  | .int i, .int j => P (.bool (f i j))
  | .str i, .str j => P (.bool (g i.cps.toList j.cps.toList))
  | _, _ => False
def rOrd (f : Int → Int → Bool) (g : List Nat → List Nat → Bool) : R2 := fun x y H Q => (∃ i j, x = .int i ∧ y = .int j ∧ Q (.bl (f i j)) H) ∨ (∃ i j, x = .str i ∧ y = .str j ∧ Q (.bl (g i.cps.toList j.cps.toList)) H)
theorem ordD_s {K : PySem.W.Frag} {f : Int → Int → Bool} {g : List Nat → List Nat → Bool} : OpS K (rOrd f g) (ordD f g) := by
  refine ⟨?_, ?_⟩
  · intro x y dx dy H G P Q s hx hy q k
    cases hx with
    | int i =>
      cases hy with
      | int j => exact .inl ⟨i, j, rfl, rfl, k _ _ H G q (.refl s) (.bl _)⟩
      | _ => exact q.elim
    | str i =>
      cases hy with
      | str j => exact .inr ⟨i, j, rfl, rfl, k _ _ H G q (.refl s) (.bl _)⟩
      | _ => exact q.elim
    | _ => exact q.elim
  · intro dx dy P P' hp f
    cases dx <;> cases dy <;> first | exact f.elim | exact hp _ f
abbrev ltD : OpD := ordD (fun i j => decide (i < j)) (fun i j => decide (i < j))
abbrev leD : OpD := ordD (fun i j => decide (i ≤ j)) (fun i j => !decide (j < i))
abbrev gtD : OpD := ordD (fun i j => decide (j < i)) (fun i j => decide (j < i))
abbrev geD : OpD := ordD (fun i j => decide (j ≤ i)) (fun i j => !decide (i < j))
theorem op_ltO : OpR X (compareOp .Lt) (rOrd (fun i j => decide (i < j)) (fun i j => decide (i < j))) := op_lt.or op_lt_str
theorem op_leO : OpR X (compareOp .LtE) (rOrd (fun i j => decide (i ≤ j)) (fun i j => !decide (j < i))) := op_le.or op_le_str
theorem op_gtO : OpR X (compareOp .Gt) (rOrd (fun i j => decide (j < i)) (fun i j => decide (j < i))) := op_gt.or op_gt_str
theorem op_geO : OpR X (compareOp .GtE) (rOrd (fun i j => decide (j ≤ i)) (fun i j => !decide (i < j))) := op_ge.or op_ge_str
theorem de_lt (ha : DE X Γ W a φa) (hb : DE X Γ W b φb) : DE X Γ W (.Compare a [.Lt] [b] pos) (opR ltD φa φb) := de_cmp op_ltO ordD_s ha hb (nomark _)
theorem de_le (ha : DE X Γ W a φa) (hb : DE X Γ W b φb) : DE X Γ W (.Compare a [.LtE] [b] pos) (opR leD φa φb) := de_cmp op_leO ordD_s ha hb (nomark _)
theorem de_gt (ha : DE X Γ W a φa) (hb : DE X Γ W b φb) : DE X Γ W (.Compare a [.Gt] [b] pos) (opR gtD φa φb) := de_cmp op_gtO ordD_s ha hb (nomark _)
theorem de_ge (ha : DE X Γ W a φa) (hb : DE X Γ W b φb) : DE X Γ W (.Compare a [.GtE] [b] pos) (opR geD φa φb) := de_cmp op_geO ordD_s ha hb (nomark _)
/-- a < b < c -/
def chainR (f g : OpD) (a b c : RE) : RE := fun δ E P => a δ E fun x δ1 => b δ1 E fun y δ2 => f x y fun t => match t with
  | .bool t => bifP t (c δ2 E fun z δ3 => g y z fun d => P d δ3) (P (.bool false) δ2)
  | _ => False
theorem de_chain {op op' : CmpOp} {f g : Int → Int → Bool} {f' g' : List Nat → List Nat → Bool} (o : OpR X (compareOp op) (rOrd f f')) (o' : OpR X (compareOp op') (rOrd g g')) (ha : DE X Γ W a φa) (hb : DE X Γ W b φb) (hc : DE X Γ W c φc)
    (pe : ∀ {r r' : R2} {ta tb tc : TE}, OpR X (compareOp op) r → OpR X (compareOp op') r' → PE X a ta → PE X b tb → PE X c tc → PE X (.Compare a [op, op'] [b, c] pos) (tChain r r' ta tb tc)) :
    DE X Γ W (.Compare a [op, op'] [b, c] pos) (chainR (ordD f f') (ordD g g') φa φb φc) := by
  have mf : ∀ (f : Int → Int → Bool) (g : List Nat → List Nat → Bool) dx dy P P', (∀ d, P d → P' d) → ordD f g dx dy P → ordD f g dx dy P' := fun f g => (ordD_s (K := X.K)).mono
  refine de_mk (pe o o' ha.run hb.run hc.run) ?_ ?_
  · intro δ E E' P P' he hp q
    refine ha.mono _ _ _ _ _ he (fun x δ1 q1 => hb.mono _ _ _ _ _ he (fun y δ2 q2 => mf _ _ _ _ _ _ (fun t q3 => ?_) q2) q1) q
    cases t with
    | bool t =>
      cases t with
      | true => exact hc.mono _ _ _ _ _ he (fun z δ3 q4 => mf _ _ _ _ _ _ (fun d => hp d δ3) q4) q3
      | false => exact hp _ _ q3
    | _ => exact q3
  · intro σ H Q hid δ G R q
    refine ha.go R q fun dx δ1 v H1 G1 q1 R1 s1 d1 => hb.go R1 q1 fun dy δ2 u H2 G2 q2 R2 s2 d2 => ?_
    refine (ordD_s (K := X.K)).ok v u dx dy H2 G2 _ _ R2.sub (dp_mono s2 d1) d2 q2 fun t w H3 G3 p gw dd => ?_
    cases dd with
    | bl t =>
      refine ⟨t, rfl, ?_⟩
      have R3 := R2.grow gw
      cases t with
      | true =>
        refine iteT (hc.go (P := fun dz δ3 => ordD g g' dy dz fun d => KV X.K Γ hid σ G Q d δ3) R3 p fun dz δ3 z H4 G4 q4 R4 s4 d4 => (ordD_s (K := X.K)).ok u z dy dz H4 G4 _ Q R4.sub (dp_mono (gw.data.trans s4) d2) d4 q4 fun d w2 H5 G5 p5 g5 dd5 => p5 w2 H5 G5 (R4.grow g5) ((((s1.trans s2).trans gw.data).trans s4).trans g5.data) dd5)
      | false => exact iteF (p (.bl false) H3 G3 R3 ((s1.trans s2).trans gw.data) (.bl false))
    | _ => exact p.elim
theorem de_lele (ha : DE X Γ W a φa) (hb : DE X Γ W b φb) (hc : DE X Γ W c φc) (hm : lastMarks [.LtE, .LtE] [b, c] = false := by rfl) : DE X Γ W (.Compare a [.LtE, .LtE] [b, c] pos) (chainR leD leD φa φb φc) := de_chain op_leO op_leO ha hb hc fun o o' ha hb hc => pe_chain o o' ha hb hc hm
theorem de_lelt (ha : DE X Γ W a φa) (hb : DE X Γ W b φb) (hc : DE X Γ W c φc) (hm : lastMarks [.LtE, .Lt] [b, c] = false := by rfl) : DE X Γ W (.Compare a [.LtE, .Lt] [b, c] pos) (chainR leD ltD φa φb φc) := de_chain op_leO op_ltO ha hb hc fun o o' ha hb hc => pe_chain o o' ha hb hc hm
theorem de_ltle (ha : DE X Γ W a φa) (hb : DE X Γ W b φb) (hc : DE X Γ W c φc) (hm : lastMarks [.Lt, .LtE] [b, c] = false := by rfl) : DE X Γ W (.Compare a [.Lt, .LtE] [b, c] pos) (chainR ltD leD φa φb φc) := de_chain op_ltO op_leO ha hb hc fun o o' ha hb hc => pe_chain o o' ha hb hc hm
theorem de_ltlt (ha : DE X Γ W a φa) (hb : DE X Γ W b φb) (hc : DE X Γ W c φc) (hm : lastMarks [.Lt, .Lt] [b, c] = false := by rfl) : DE X Γ W (.Compare a [.Lt, .Lt] [b, c] pos) (chainR ltD ltD φa φb φc) := de_chain op_ltO op_ltO ha hb hc fun o o' ha hb hc => pe_chain o o' ha hb hc hm
end
end DL

/-! Truth, conditions, displays, places, slices. -/
namespace DL
open PySem PySem.Spec PyProof.Rows L2 NX
variable [TabsC]
section
variable {X : Cx} {Γ : Ga} {W : WX} {a b c : Expr} {φa φb φc : RE} {pos : Pos} {es : List Expr}
/-! ### is None, in -/
def isNone : D → Bool
  | .none => true
  | _ => false
def isNR (a : RE) : RE := fun δ E P => a δ E fun x δ1 => P (.bool (isNone x)) δ1
def notNR (a : RE) : RE := fun δ E P => a δ E fun x δ1 => P (.bool (!isNone x)) δ1
theorem mono_1 {f : D → D} (ma : Mono φa) : Mono (fun δ E P => φa δ E fun x δ1 => P (f x) δ1 : RE) := fun _ _ _ _ _ he hp q => ma _ _ _ _ _ he (fun _ _ z => hp _ _ z) q
theorem dt_none {K : PySem.W.Frag} {G : Hp} {v : V} {d : D} (h : Dt K G v d) : decide (v = .non) = isNone d := by
  cases h <;> simp [isNone]
theorem de_isN {j p} (ha : DE X Γ W a φa) : DE X Γ W (.Compare a [.Is] [.Constant .none j p] pos) (isNR φa) :=
  de_mk (pe_cmp (pc_isN ha.run) rfl) (mono_1 (f := fun x => .bool (isNone x)) ha.mono) fun σ H Q hid δ G R q => ha.go R q fun d δ1 v H1 G1 q1 R1 s1 d1 => by
    rw [dt_none d1]
    exact q1 _ H1 G1 R1 s1 (.bl _)
theorem de_notN {j p} (ha : DE X Γ W a φa) : DE X Γ W (.Compare a [.IsNot] [.Constant .none j p] pos) (notNR φa) :=
  de_mk (pe_cmp (pc_notN ha.run) rfl) (mono_1 (f := fun x => .bool (!isNone x)) ha.mono) fun σ H Q hid δ G R q => ha.go R q fun d δ1 v H1 G1 q1 R1 s1 d1 => by
    rw [dt_none d1]
    exact q1 _ H1 G1 R1 s1 (.bl _)
def isBD : OpD := fun x y P => match x, y with
  | .bool i, .bool j => P (.bool (decide (i = j)))
  | _, _ => False
theorem isBD_s {K : PySem.W.Frag} : OpS K rIsB isBD := by
  refine ⟨?_, ?_⟩
  · intro x y dx dy H G P Q s hx hy q k
    cases hx with
    | bl i =>
      cases hy with
      | bl j => exact ⟨i, j, rfl, rfl, k _ _ H G q (.refl s) (.bl _)⟩
      | _ => exact q.elim
    | _ => exact q.elim
  · intro dx dy P P' hp f
    cases dx <;> cases dy <;> first | exact f.elim | exact hp _ f
theorem de_isB (ha : DE X Γ W a φa) (hb : DE X Γ W b φb) : DE X Γ W (.Compare a [.Is] [b] pos) (opR isBD φa φb) := de_cmp op_isBl isBD_s ha hb (nomark _)
/-- x in y: a sign in a text; flat things in a list or tuple; any things in a list -/
def flatD : D → Bool
  | .none => true
  | .bool _ => true
  | .int _ => true
  | .str _ => true
  | _ => false
def anyEq (x : D) (ds : List D) : Bool := ds.any fun y => PyData.eqv y x
def inDD (neg : Bool) : OpD := fun x y P => match x, y with
  | .str c, .str z => bifP (c.length == 1) (P (.bool (bif neg then !decide (c.cps.getD 0 0 ∈ z.cps.toList) else decide (c.cps.getD 0 0 ∈ z.cps.toList)))) False
  | x, .tuple ds => bifP (flatD x && ds.all flatD) (P (.bool (bif neg then !anyEq x ds else anyEq x ds))) False
  | x, .list ds => ((flatD x = true ∧ ds.all flatD = true) ∨ (SeqAt.shaped x = true ∧ SeqAt.shaped (.list ds) = true)) ∧ P (.bool (bif neg then !anyEq x ds else anyEq x ds))
  | _, _ => False
def rInA (K : PySem.W.Frag) (neg : Bool) : R2 := fun x y H Q => (∃ (c : Nat) (z : Str), x = .str ⟨#[c]⟩ ∧ y = .str z ∧ Q (.bl (bif neg then !decide (c ∈ z.cps.toList) else decide (c ∈ z.cps.toList))) H) ∨ rIn K neg x y H Q ∨
  (∃ d ds, Dp K H x d ∧ Dp K H y (.list ds) ∧ SeqAt.shaped d = true ∧ SeqAt.shaped (.list ds) = true ∧ Q (.bl (bif neg then !ds.any (fun z => PyData.eqv z d) else ds.any fun z => PyData.eqv z d)) H)
theorem op_inA (hu : X.A.units + 65 < cLine) : OpR X (compareOp .In) (rInA X.K false) := op_in_sign.or (op_in_seq.or (op_inD hu))
theorem op_notInA (hu : X.A.units + 65 < cLine) : OpR X (compareOp .NotIn) (rInA X.K true) := op_notIn_sign.or (op_notIn_seq.or (op_notInD hu))
theorem flat_V {K : PySem.W.Frag} {G : Hp} {v : V} {d : D} (h : Dt K G v d) (f : flatD d = true) : flatV v = true := by cases h <;> first | rfl | cases f
theorem eq_V {K : PySem.W.Frag} {G : Hp} {x y : V} {dx dy : D} (hx : Dt K G x dx) (hy : Dt K G y dy) (fx : flatD dx = true) (fy : flatD dy = true) : eqV y x = PyData.eqv dy dx := by
  cases hx <;> cases hy <;> first | (cases fx; done) | (cases fy; done) | (simp only [PyData.eqv, eqV]; done) | rfl
theorem flats_V {K : PySem.W.Frag} {G : Hp} : ∀ {vs : List V} {ds : List D}, Dts K G vs ds → ds.all flatD = true → vs.all flatV = true
  | _, _, .nil, _ => rfl
  | _, _, .cons h t, f => by
    rw [List.all_cons, Bool.and_eq_true] at f
    rw [List.all_cons, Bool.and_eq_true]
    exact ⟨flat_V h f.1, flats_V t f.2⟩
theorem inV_D {K : PySem.W.Frag} {G : Hp} {x : V} {dx : D} (hx : Dt K G x dx) (fx : flatD dx = true) : ∀ {vs : List V} {ds : List D}, Dts K G vs ds → ds.all flatD = true → inV x vs = anyEq dx ds
  | _, _, .nil, _ => rfl
  | _, _, .cons h t, f => by
    rw [List.all_cons, Bool.and_eq_true] at f
    have e := inV_D hx fx t f.2
    unfold inV anyEq at e ⊢
    rw [List.any_cons, List.any_cons, e, eq_V hx h fx f.1]
theorem inDD_s {K : PySem.W.Frag} {neg : Bool} : OpS K (rInA K neg) (inDD neg) := by
  refine ⟨?_, ?_⟩
  · intro x y dx dy H G P Q s hx hy f k
    have tupCase : ∀ {ds : List D}, Dt K G y (.tuple ds) → (flatD dx = true ∧ ds.all flatD = true) → P (.bool (bif neg then !anyEq dx ds else anyEq dx ds)) → rInA K neg x y H Q := fun {ds} hy f p => by
      cases hy with
      | tup h2 hb => exact .inr (.inl ⟨_, _, rfl, .inr (Same.seqT s h2), flat_V hx f.1, flats_V hb f.2, by rw [inV_D hx f.1 hb f.2]; cases neg <;> exact k _ _ H G p (.refl s) (.bl _)⟩)
    have lstCase : ∀ {ds : List D}, Dt K G y (.list ds) → ((flatD dx = true ∧ ds.all flatD = true) ∨ (SeqAt.shaped dx = true ∧ SeqAt.shaped (.list ds) = true)) → P (.bool (bif neg then !anyEq dx ds else anyEq dx ds)) → rInA K neg x y H Q := fun {ds} hy f p => by
      rcases f with f | f
      · cases hy with
        | lst h2 hb => exact .inr (.inl ⟨_, _, rfl, .inl (sql_of_rd (Same.rd s h2)), flat_V hx f.1, flats_V hb f.2, by rw [inV_D hx f.1 hb f.2]; cases neg <;> exact k _ _ H G p (.refl s) (.bl _)⟩)
      · exact .inr (.inr ⟨_, _, (dp_mono s hx).dp (SeqAt.canLay_of_shaped f.1), (dp_mono s hy).dp (SeqAt.canLay_of_shaped f.2), f.1, f.2, k _ _ H G p (.refl s) (.bl _)⟩)
    cases dy with
    | tuple ds =>
      have f' : (flatD dx = true ∧ ds.all flatD = true) ∧ P (.bool (bif neg then !anyEq dx ds else anyEq dx ds)) := by
        have f2 : bifP (flatD dx && ds.all flatD) (P (.bool (bif neg then !anyEq dx ds else anyEq dx ds))) False := by cases dx <;> exact f
        cases e : (flatD dx && ds.all flatD) with
        | true => rw [e] at f2; rw [Bool.and_eq_true] at e; exact ⟨e, f2⟩
        | false => rw [e] at f2; exact f2.elim
      exact tupCase hy f'.1 f'.2
    | list ds =>
      have f' : ((flatD dx = true ∧ ds.all flatD = true) ∨ (SeqAt.shaped dx = true ∧ SeqAt.shaped (.list ds) = true)) ∧ P (.bool (bif neg then !anyEq dx ds else anyEq dx ds)) := by cases dx <;> exact f
      exact lstCase hy f'.1 f'.2
    | str z =>
      cases hx with
      | str c =>
        cases hy
        obtain ⟨f1, f2⟩ : c.length = 1 ∧ P (.bool (bif neg then !decide (c.cps.getD 0 0 ∈ z.cps.toList) else decide (c.cps.getD 0 0 ∈ z.cps.toList))) := by
          have f2 : bifP (c.length == 1) (P (.bool (bif neg then !decide (c.cps.getD 0 0 ∈ z.cps.toList) else decide (c.cps.getD 0 0 ∈ z.cps.toList)))) False := f
          cases e : (c.length == 1) with
          | true => rw [e] at f2; exact ⟨by simpa using e, f2⟩
          | false => rw [e] at f2; exact f2.elim
        obtain ⟨c1, e⟩ : ∃ c1, c = ⟨#[c1]⟩ := by
          obtain ⟨⟨l⟩⟩ := c
          cases l with
          | nil => exact absurd f1 (by decide)
          | cons a r => cases r with
            | nil => exact ⟨a, rfl⟩
            | cons b r => exact absurd f1 (by simp [Str.length])
        subst e
        exact .inl ⟨c1, z, rfl, rfl, k _ _ H G f2 (.refl s) (.bl _)⟩
      | _ => exact f.elim
    | _ => cases dx <;> exact f.elim
  · intro dx dy P P' hp f
    cases dy with
    | tuple ds =>
      have f2 : bifP (flatD dx && ds.all flatD) (P (.bool (bif neg then !anyEq dx ds else anyEq dx ds))) False := by cases dx <;> exact f
      have g := bif_mono (hp _) id f2
      cases dx <;> exact g
    | list ds =>
      have f2 : ((flatD dx = true ∧ ds.all flatD = true) ∨ (SeqAt.shaped dx = true ∧ SeqAt.shaped (.list ds) = true)) ∧ P (.bool (bif neg then !anyEq dx ds else anyEq dx ds)) := by cases dx <;> exact f
      have g := And.intro f2.1 (hp _ f2.2)
      cases dx <;> exact g
    | str z =>
      cases dx with
      | str c =>
        have f2 : bifP (c.length == 1) (P (.bool (bif neg then !decide (c.cps.getD 0 0 ∈ z.cps.toList) else decide (c.cps.getD 0 0 ∈ z.cps.toList)))) False := f
        exact bif_mono (hp _) id f2
      | _ => exact f.elim
    | _ => cases dx <;> exact f.elim
theorem de_in (hu : X.A.units + 65 < cLine) (ha : DE X Γ W a φa) (hb : DE X Γ W b φb) (hm : behindInMarks .In b = false := by rfl) : DE X Γ W (.Compare a [.In] [b] pos) (opR (inDD false) φa φb) := de_cmp (op_inA hu) inDD_s ha hb hm
theorem de_notIn (hu : X.A.units + 65 < cLine) (ha : DE X Γ W a φa) (hb : DE X Γ W b φb) (hm : behindInMarks .NotIn b = false := by rfl) : DE X Γ W (.Compare a [.NotIn] [b] pos) (opR (inDD true) φa φb) := de_cmp (op_notInA hu) inDD_s ha hb hm
/-! ### and, or, not as values; tests -/
def boolK (x : D) (P : Bool → Prop) : Prop := match x with
  | .bool t => P t
  | _ => False
theorem boolK_mono {x : D} {P P' : Bool → Prop} (h : ∀ t, P t → P' t) (q : boolK x P) : boolK x P' := by
  cases x <;> first | exact h _ q | exact q
def andR (a b : RE) : RE := fun δ E P => a δ E fun x δ1 => boolK x fun t => bifP t (b δ1 E P) (P (.bool false) δ1)
def orR (a b : RE) : RE := fun δ E P => a δ E fun x δ1 => boolK x fun t => bifP t (P (.bool true) δ1) (b δ1 E P)
def notR (a : RE) : RE := fun δ E P => a δ E fun x δ1 => boolK x fun t => P (.bool (!t)) δ1
theorem mono_and (ma : Mono φa) (mb : Mono φb) : Mono (andR φa φb) := fun δ E E' P P' he hp q => ma _ _ _ _ _ he (fun x δ1 q1 => boolK_mono (fun t q2 => by
  cases t with
  | true => exact mb _ _ _ _ _ he hp q2
  | false => exact hp _ _ q2) q1) q
theorem mono_or (ma : Mono φa) (mb : Mono φb) : Mono (orR φa φb) := fun δ E E' P P' he hp q => ma _ _ _ _ _ he (fun x δ1 q1 => boolK_mono (fun t q2 => by
  cases t with
  | false => exact mb _ _ _ _ _ he hp q2
  | true => exact hp _ _ q2) q1) q
theorem mono_not (ma : Mono φa) : Mono (notR φa) := fun δ E E' P P' he hp q => ma _ _ _ _ _ he (fun x δ1 q1 => boolK_mono (fun t q2 => hp _ _ q2) q1) q
theorem dt_bool {K : PySem.W.Frag} {G : Hp} {v : V} {d : D} {P : Bool → Prop} (h : Dt K G v d) (q : boolK d P) : ∃ t, v = .bl t ∧ P t := by
  cases h with
  | bl t => exact ⟨t, rfl, q⟩
  | _ => exact q.elim
theorem de_one {op} (ha : DE X Γ W a φa) : DE X Γ W (.BoolOp op [a] pos) φa := ⟨pe_one ha.run, ha.mono⟩
theorem de_and {rest : List Expr} (ha : DE X Γ W a φa) (hb : DE X Γ W (.BoolOp .And (b :: rest) pos) φb) : DE X Γ W (.BoolOp .And (a :: b :: rest) pos) (andR φa φb) :=
  de_mk (pe_and ha.run hb.run) (mono_and ha.mono hb.mono) fun σ H Q hid δ G R q => ha.go R q fun d δ1 v H1 G1 q1 R1 s1 d1 => by
    obtain ⟨t, rfl, q2⟩ := dt_bool d1 q1
    refine ⟨t, rfl, ?_⟩
    cases t with
    | true => exact iteT (hb.go R1 q2 fun d δ2 w H2 G2 p R2 s2 d2 => p w H2 G2 R2 (s1.trans s2) d2)
    | false => exact iteF (q2 _ H1 G1 R1 s1 (.bl _))
theorem de_or {rest : List Expr} (ha : DE X Γ W a φa) (hb : DE X Γ W (.BoolOp .Or (b :: rest) pos) φb) : DE X Γ W (.BoolOp .Or (a :: b :: rest) pos) (orR φa φb) :=
  de_mk (pe_or ha.run hb.run) (mono_or ha.mono hb.mono) fun σ H Q hid δ G R q => ha.go R q fun d δ1 v H1 G1 q1 R1 s1 d1 => by
    obtain ⟨t, rfl, q2⟩ := dt_bool d1 q1
    refine ⟨t, rfl, ?_⟩
    cases t with
    | true => exact iteT (q2 _ H1 G1 R1 s1 (.bl _))
    | false => exact iteF (hb.go R1 q2 fun d δ2 w H2 G2 p R2 s2 d2 => p w H2 G2 R2 (s1.trans s2) d2)
theorem de_not (ha : DE X Γ W a φa) : DE X Γ W (.UnaryOp .Not a pos) (notR φa) :=
  de_mk (pe_not ha.run) (mono_not ha.mono) fun σ H Q hid δ G R q => ha.go R q fun d δ1 v H1 G1 q1 R1 s1 d1 => by
    obtain ⟨t, rfl, q2⟩ := dt_bool d1 q1
    exact ⟨t, rfl, q2 _ H1 G1 R1 s1 (.bl _)⟩
def neR (a : RE) : RE := fun δ E P => a δ E fun x δ1 => match x with | .int i => P (.int (-i)) δ1 | _ => False
theorem de_neg (ha : DE X Γ W a φa) : DE X Γ W (.UnaryOp .USub a pos) (neR φa) := by
  refine de_mk (pe_un un_neg ha.run) ?_ fun σ H Q hid δ G R q => ha.go R q fun d δ1 v H1 G1 q1 R1 s1 d1 => ?_
  · intro δ E E' P P' he hp q
    refine ha.mono _ _ _ _ _ he (fun x δ1 q1 => ?_) q
    cases x <;> first | exact hp _ _ q1 | exact q1
  · cases d1 with
    | int i => exact ⟨i, rfl, q1 _ H1 G1 R1 s1 (.int _)⟩
    | _ => exact q1.elim
/-- tests -/
def valT (a : RE) : RT := fun δ E P => a δ E fun x δ1 => boolK x fun t => P t δ1
theorem mono_valT (ma : Mono φa) : Mono (valT φa) := fun δ E E' P P' he hp q => ma _ _ _ _ _ he (fun x δ1 q1 => boolK_mono (fun t q2 => hp _ _ q2) q1) q
theorem dt_val (ha : DE X Γ W a φa) (he : ∀ whole, isTrue a X.env whole = (do let v ← whole; standAt a.pos; holding [v] (truthy v)) := by intro _; rfl) : DT X Γ W a (valT φa) :=
  dt_mk (pt_val ha.run he) (mono_valT ha.mono) fun σ H Q hid δ G R q => ha.go R q fun d δ1 v H1 G1 q1 R1 s1 d1 => by
    obtain ⟨t, rfl, q2⟩ := dt_bool d1 q1
    exact ⟨t, rfl, q2 H1 G1 R1 s1⟩
def andT (a b : RT) : RT := fun δ E P => a δ E fun t δ1 => bifP t (b δ1 E P) (P false δ1)
def orT (a b : RT) : RT := fun δ E P => a δ E fun t δ1 => bifP t (P true δ1) (b δ1 E P)
def notT (a : RT) : RT := fun δ E P => a δ E fun t δ1 => P (!t) δ1
variable {τa τb τc : RT}
theorem dw_and1 (ha : DT X Γ W a τa) : DW X Γ W (.BoolOp .And [a] pos) τa := ⟨pw_and1 ha.run, ha.mono⟩
theorem dw_or1 (ha : DT X Γ W a τa) : DW X Γ W (.BoolOp .Or [a] pos) τa := ⟨pw_or1 ha.run, ha.mono⟩
theorem dw_and {rest : List Expr} (ha : DT X Γ W a τa) (hb : DW X Γ W (.BoolOp .And (b :: rest) pos) τb) : DW X Γ W (.BoolOp .And (a :: b :: rest) pos) (andT τa τb) := by
  refine dw_mk (pw_and ha.run hb.run) ?_ fun σ H Q hid δ G R q => ha.go R q fun t δ1 H1 G1 q1 R1 s1 => ?_
  · intro δ E E' P P' he hp q
    refine ha.mono _ _ _ _ _ he (fun t δ1 q1 => ?_) q
    cases t with
    | true => exact hb.mono _ _ _ _ _ he hp q1
    | false => exact hp _ _ q1
  · cases t with
    | true => exact iteT ⟨hid, δ1, G1, R1, hb.mono _ _ _ _ _ (fun _ _ z => z) (fun t δ2 p H2 G2 R2 s2 => p H2 G2 R2 (s1.trans s2)) q1⟩
    | false => exact iteF (q1 H1 G1 R1 s1)
theorem dw_or {rest : List Expr} (ha : DT X Γ W a τa) (hb : DW X Γ W (.BoolOp .Or (b :: rest) pos) τb) : DW X Γ W (.BoolOp .Or (a :: b :: rest) pos) (orT τa τb) := by
  refine dw_mk (pw_or ha.run hb.run) ?_ fun σ H Q hid δ G R q => ha.go R q fun t δ1 H1 G1 q1 R1 s1 => ?_
  · intro δ E E' P P' he hp q
    refine ha.mono _ _ _ _ _ he (fun t δ1 q1 => ?_) q
    cases t with
    | false => exact hb.mono _ _ _ _ _ he hp q1
    | true => exact hp _ _ q1
  · cases t with
    | false => exact iteF ⟨hid, δ1, G1, R1, hb.mono _ _ _ _ _ (fun _ _ z => z) (fun t δ2 p H2 G2 R2 s2 => p H2 G2 R2 (s1.trans s2)) q1⟩
    | true => exact iteT (q1 H1 G1 R1 s1)
theorem DW.dt (h : DW X Γ W a τa) : DT X Γ W a τa := ⟨h.run.pt, h.mono⟩
theorem dt_not (ha : DT X Γ W a τa) : DT X Γ W (.UnaryOp .Not a pos) (notT τa) :=
  dt_mk (pt_not ha.run) (fun _ _ _ _ _ he hp q => ha.mono _ _ _ _ _ he (fun _ _ z => hp _ _ z) q) fun σ H Q hid δ G R q => ha.go R q fun t δ1 H1 G1 q1 R1 s1 => q1 H1 G1 R1 s1
theorem dt_cmp {op : CmpOp} {r : R2} {f : OpD} (o : OpR X (compareOp op) r) (s : OpS X.K r f) (ha : DE X Γ W a φa) (hb : DE X Γ W b φb) (hm : behindInMarks op b = false) : DT X Γ W (.Compare a [op] [b] pos) (valT (opR f φa φb)) := by
  refine dt_mk (pt_cmpR o ha.run hb.run hm) (mono_valT (mono_op s.mono ha.mono hb.mono)) fun σ H Q hid δ G R q => ?_
  refine ha.go R q fun dx δ1 v H1 G1 q1 R1 s1 d1 => hb.go R1 q1 fun dy δ2 u H2 G2 q2 R2 s2 d2 =>
    s.ok v u dx dy H2 G2 _ _ R2.sub (dp_mono s2 d1) d2 q2 fun d z H3 G3 p g dd => ?_
  obtain ⟨t, rfl, q3⟩ := dt_bool dd p
  exact ⟨t, rfl, q3 H3 G3 (R2.grow g) ((s1.trans s2).trans g.data)⟩
/-! ### a if t else b -/
def ifR (t : RT) (a b : RE) : RE := fun δ E P => t δ E fun c δ1 => bifP c (a δ1 E P) (b δ1 E P)
theorem de_if (ht : DT X Γ W c τc) (ha : DE X Γ W a φa) (hb : DE X Γ W b φb) : DE X Γ W (.IfExp c a b pos) (ifR τc φa φb) := by
  refine de_mk (pe_ifExp ht.run ha.run hb.run) ?_ fun σ H Q hid δ G R q => ht.go R q fun t δ1 H1 G1 q1 R1 s1 => ?_
  · intro δ E E' P P' he hp q
    refine ht.mono _ _ _ _ _ he (fun t δ1 q1 => ?_) q
    cases t with
    | true => exact ha.mono _ _ _ _ _ he hp q1
    | false => exact hb.mono _ _ _ _ _ he hp q1
  · cases t with
    | true => exact iteT (ha.go R1 q1 fun d δ2 w H2 G2 p R2 s2 d2 => p w H2 G2 R2 (s1.trans s2) d2)
    | false => exact iteF (hb.go R1 q1 fun d δ2 w H2 G2 p R2 s2 d2 => p w H2 G2 R2 (s1.trans s2) d2)
/-! ### argument lists, displays -/
def nilA : RA := fun δ _ P => P [] δ
def consA (a : RE) (r : RA) : RA := fun δ E P => a δ E fun x δ1 => r δ1 E fun xs δ2 => P (x :: xs) δ2
theorem da_nil : DA X Γ W [] nilA := da_mk pa_nil (fun _ _ _ _ _ _ hp q => hp _ _ q) (fun σ H Q hid δ G R q => q [] H G R (Same.refl _) .nil) fun _ _ _ q => ⟨rfl, q⟩
theorem da_cons {ρ : RA} (ha : DE X Γ W a φa) (hr : DA X Γ W es ρ) (hs : starEach (a :: es) X.env = (false, eval a X.env) :: starEach es X.env := by rfl) : DA X Γ W (a :: es) (consA φa ρ) :=
  da_mk (pa_cons ha.run hr.run hs) (fun _ _ _ _ _ he hp q => ha.mono _ _ _ _ _ he (fun _ _ z => hr.mono _ _ _ _ _ he (fun _ _ z2 => hp _ _ z2) z) q) (fun σ H Q hid δ G R q =>
    ha.go R q fun d δ1 v H1 G1 q1 R1 s1 d1 => hr.go R1 q1 fun ds δ2 vs H2 G2 q2 R2 s2 d2 => q2 (v :: vs) H2 G2 R2 (s1.trans s2) (.cons (dp_mono s2 d1) d2)) fun _ _ _ q => ha.mono _ _ _ _ _ (fun _ _ z => z) (fun d δ1 q1 => hr.mono _ _ _ _ _ (fun _ _ z => z) (fun ds δ2 q2 => ⟨congrArg (· + 1) q2.1, q2.2⟩) (hr.len _ _ _ q1)) q
def tupR (t : RA) : RE := fun δ E P => t δ E fun ds δ1 => P (.tuple ds) δ1
def lstR (t : RA) : RE := fun δ E P => t δ E fun ds δ1 => P (.list ds) δ1
theorem de_tup {ρ : RA} {x1} (h : DA X Γ W es ρ) (hl : es.length ≤ sizeLine := by decide) : DE X Γ W (.Tuple es x1 pos) (tupR ρ) :=
  de_mk (pe_tup h.run) (fun _ _ _ _ _ he hp q => h.mono _ _ _ _ _ he (fun _ _ z => hp _ _ z) q) fun σ H Q hid δ G R q => h.go R (h.len _ _ _ q) fun ds δ1 vs H1 G1 q1 R1 s1 d1 =>
    ⟨by rw [dpa_length d1, q1.1]; exact hl, fun p np => by
      have g := Grow.new (o := .tup vs) R1.sub np
      exact q1.2 _ _ _ (R1.grow g) (s1.trans g.data) (.tup (.of upd_same) (dpa_mono g.data d1))⟩
theorem de_lst {ρ : RA} (h : DA X Γ W es ρ) (hl : es.length ≤ sizeLine := by decide) : DE X Γ W (.List es pos) (lstR ρ) :=
  de_mk (pe_lst h.run) (fun _ _ _ _ _ he hp q => h.mono _ _ _ _ _ he (fun _ _ z => hp _ _ z) q) fun σ H Q hid δ G R q => h.go R (h.len _ _ _ q) fun ds δ1 vs H1 G1 q1 R1 s1 d1 =>
    ⟨by rw [dpa_length d1, q1.1]; exact hl, fun p np => by
      have g := Grow.new (o := .lst vs) R1.sub np
      exact q1.2 _ _ _ (R1.grow g) (s1.trans g.data) (.lst (.inl upd_same) (dpa_mono g.data d1))⟩
/-! ### places, slices -/
theorem atI_D {K : PySem.W.Frag} {G : Hp} {vs : List V} {ds : List D} {i : Int} {d : D} (h : Dts K G vs ds) (e : atI ds i = some d) : ∃ v, atI vs i = some v ∧ Dt K G v d := by
  unfold atI at e ⊢
  rw [dpa_length h]
  cases q : ixN ds.length i with
  | none => rw [q] at e; cases e
  | some j =>
    rw [q] at e
    exact dpa_get h e
def ixD : OpD := fun x y P => match x, y with
  | .list ds, .int i => optK (atI ds i) P
  | .tuple ds, .int i => optK (atI ds i) P
  | .str z, .int i => z.length ≤ sizeLine ∧ optK (atI z.cps.toList i) fun c => P (.str ⟨#[c]⟩)
  | _, _ => False
theorem ixD_s {K : PySem.W.Frag} : OpS K (rIx K) ixD := by
  refine ⟨?_, ?_⟩
  · intro x y dx dy H G P Q s hx hy f k
    cases hy with
    | int i =>
      cases hx with
      | lst h ha =>
        obtain ⟨d, e, p⟩ := optK_get f
        obtain ⟨v, e2, dv⟩ := atI_D ha e
        exact .inl ⟨_, _, i, v, rfl, rfl, sql_of_rd (Same.rd s h), e2, k _ _ H G p (.refl s) dv⟩
      | tup h ha =>
        obtain ⟨d, e, p⟩ := optK_get f
        obtain ⟨v, e2, dv⟩ := atI_D ha e
        exact .inr (.inl ⟨_, _, i, v, rfl, rfl, Same.seqT s h, e2, k _ _ H G p (.refl s) dv⟩)
      | str z =>
        obtain ⟨f1, f2⟩ := f
        obtain ⟨c, e, p⟩ := optK_get f2
        exact .inr (.inr ⟨z, i, c, rfl, rfl, f1, e, k _ _ H G p (.refl s) (.str _)⟩)
      | _ => exact f.elim
    | _ => cases dx <;> exact f.elim
  · intro dx dy P P' hp f
    cases dx <;> cases dy <;> first | exact f.elim | exact optK_mono hp f | exact ⟨f.1, optK_mono (fun _ => hp _) f.2⟩
theorem de_ix (ha : DE X Γ W a φa) (hb : DE X Γ W b φb) (hs : PlainIx b := by exact fun _ _ => rfl) : DE X Γ W (.Subscript a b pos) (opR ixD φa φb) :=
  de_mk (pe_ix ix_seq ha.run hb.run hs) (mono_op (ixD_s (K := X.K)).mono ha.mono hb.mono) (op_go ixD_s ha hb)
/-- a part of a slice -/
abbrev RO := DS → KE → (Option Int → DS → Prop) → Prop
structure DO (X : Cx) (Γ : Ga) (W : WX) (e : Option Expr) (φ : RO) : Prop where
  run : ∀ (σ : L2.St) (H : Hp) (hid : Hd) (δ : DS) (G : Hp) (P : Option Int → DS → Prop), Rel X.K Γ hid σ H δ G → φ δ (EK X.K Γ W hid) P → ∀ Q : Option Int → Hp → Prop, (∀ o δ1 H1 G1, P o δ1 → Rel X.K Γ hid σ H1 δ1 G1 → Same G G1 → Q o H1) →
    ∀ (pins : List (Addr × Obj)) (s : Shared), Inv X pins σ H s → wpAny (model X.prog X.w) X.A (evalPart e X.env) (fun u s' => ∃ o H', Inv X pins σ H' s' ∧ IsPart u o ∧ Q o H') X.xe s
  mono : Mono φ
def noO : RO := fun δ _ P => P none δ
def someO (a : RE) : RO := fun δ E P => a δ E fun x δ1 => match x with | .int i => P (some i) δ1 | _ => False
theorem do_none : DO X Γ W none noO := ⟨fun σ H hid δ G P R q Q k pins s I => po_none.run pins s σ H Q I (k _ _ _ _ q R (Same.refl _)), fun _ _ _ _ _ _ hp q => hp _ _ q⟩
theorem do_some (ha : DE X Γ W a φa) : DO X Γ W (some a) (someO φa) := by
  refine ⟨fun σ H hid δ G P R q Q k pins s I => (po_some ha.run).run pins s σ H Q I ?_, ?_⟩
  · refine ha.go R q fun d δ1 v H1 G1 q1 R1 s1 d1 => ?_
    cases d1 with
    | int i => exact ⟨i, rfl, k _ _ _ _ q1 R1 s1⟩
    | _ => exact q1.elim
  · intro δ E E' P P' he hp q
    refine ha.mono _ _ _ _ _ he (fun x δ1 q1 => ?_) q
    cases x <;> first | exact hp _ _ q1 | exact q1
def cutL {α : Type} (xs : List α) (lo hi : Option Int) : List α := (xs.drop (HT.sIx xs.length 0 lo)).take (HT.sIx xs.length xs.length hi - HT.sIx xs.length 0 lo)
def slK (x : D) (lo hi : Option Int) (P : D → Prop) : Prop := match x with
  | .str z => z.length ≤ sizeLine ∧ P (.str (cutS z lo hi))
  | .list ds => P (.list (cutL ds lo hi))
  | .tuple ds => P (.tuple (cutL ds lo hi))
  | _ => False
def slR (a : RE) (l u : RO) : RE := fun δ E P => a δ E fun x δ1 => l δ1 E fun lo δ2 => u δ2 E fun hi δ3 => slK x lo hi fun d => P d δ3
theorem slK_mono {x : D} {lo hi : Option Int} {P P' : D → Prop} (h : ∀ t, P t → P' t) (q : slK x lo hi P) : slK x lo hi P' := by
  cases x <;> first | exact h _ q | exact ⟨q.1, h _ q.2⟩ | exact q
def rSlAll (K : PySem.W.Frag) : V → Option Int → Option Int → Hp → VK → Prop := fun x lo hi H Q => rSlS x lo hi H Q ∨ rSlL K x lo hi H Q ∨ rSlA K x lo hi H Q
theorem cut_D {K : PySem.W.Frag} {G : Hp} {vs : List V} {ds : List D} (h : Dts K G vs ds) (lo hi : Option Int) : Dts K G (cutV vs lo hi) (cutL ds lo hi) := by
  unfold cutV cutL
  rw [dpa_length h]
  exact dpa_take _ (dpa_drop _ h)
theorem cut_all {α : Type} {xs : List α} {lo hi : Option Int} (e : HT.sIx xs.length 0 lo = 0 ∧ HT.sIx xs.length xs.length hi = xs.length) : cutL xs lo hi = xs := by
  unfold cutL
  rw [e.1, e.2]
  simp
theorem po_of {P : Option Expr} {φ : RO} {t : TO} (h : PO X P t) : PO X P t := h
theorem de_slice {lo hi : Option Expr} {oL oH : RO} {p2} (ha : DE X Γ W a φa) (hl : DO X Γ W lo oL) (hh : DO X Γ W hi oH) : DE X Γ W (.Subscript a (.Slice lo hi none p2) pos) (slR φa oL oH) := by
  have ol : PO X lo (fun σ H Q => ∃ hid δ G P, Rel X.K Γ hid σ H δ G ∧ oL δ (EK X.K Γ W hid) P ∧ ∀ o δ1 H1 G1, P o δ1 → Rel X.K Γ hid σ H1 δ1 G1 → Same G G1 → Q o H1) :=
    ⟨fun pins s σ H Q I ⟨hid, δ, G, P, R, q, k⟩ => hl.run σ H hid δ G P R q Q k pins s I⟩
  have oh : PO X hi (fun σ H Q => ∃ hid δ G P, Rel X.K Γ hid σ H δ G ∧ oH δ (EK X.K Γ W hid) P ∧ ∀ o δ1 H1 G1, P o δ1 → Rel X.K Γ hid σ H1 δ1 G1 → Same G G1 → Q o H1) :=
    ⟨fun pins s σ H Q I ⟨hid, δ, G, P, R, q, k⟩ => hh.run σ H hid δ G P R q Q k pins s I⟩
  refine de_mk (pe_slice (r := rSlAll X.K) (sl_str.or (sl_list.or sl_tupA)) ha.run ol oh) ?_ ?_
  · exact fun _ _ _ _ _ he hp q => ha.mono _ _ _ _ _ he (fun _ _ q1 => hl.mono _ _ _ _ _ he (fun _ _ q2 => hh.mono _ _ _ _ _ he (fun _ _ q3 => slK_mono (fun _ z => hp _ _ z) q3) q2) q1) q
  · intro σ H Q hid δ G R q
    refine ha.go R q fun d δ1 v H1 G1 q1 R1 s1 d1 => ⟨hid, δ1, G1, _, R1, q1, fun lo δ2 H2 G2 q2 R2 s2 => ⟨hid, δ2, G2, _, R2, q2, fun hi δ3 H3 G3 q3 R3 s3 => ?_⟩⟩
    have ss := s2.trans s3
    have sa := (s1.trans s2).trans s3
    cases d1 with
    | str z => exact .inl ⟨z, rfl, q3.1, q3.2 _ H3 G3 R3 sa (.str _)⟩
    | @lst a1 xs1 ds1 h1 hd =>
      refine .inr (.inl ⟨_, _, rfl, sql_of_rd (Same.rd R3.sub (Same.rd ss h1)), fun p np => ?_⟩)
      have g := Grow.new (o := .lst (cutV xs1 lo hi)) R3.sub np
      exact q3 _ _ _ (R3.grow g) (sa.trans g.data) (.lst (.inl upd_same) (cut_D (dpa_mono (ss.trans g.data) hd) lo hi))
    | @tup a1 xs1 ds1 h1 hd =>
      refine .inr (.inr ⟨_, _, rfl, Same.seqT R3.sub (Same.seqT ss h1), fun e => ?_, fun _ p np => ?_⟩)
      · rw [dpa_length hd] at e
        have e3 := cut_all e
        have q4 : KV X.K Γ hid σ G Q (.tuple (cutL ds1 lo hi)) δ3 := q3
        rw [e3] at q4
        exact q4 _ H3 G3 R3 sa (.tup (Same.seqT ss h1) (dpa_mono ss hd))
      · have g := Grow.new (o := .tup (cutV xs1 lo hi)) R3.sub np
        exact q3 _ _ _ (R3.grow g) (sa.trans g.data) (.tup (.of upd_same) (cut_D (dpa_mono (ss.trans g.data) hd) lo hi))
    | _ => exact q3.elim
end
end DL

/-! Calls, statements. -/
namespace DL
open PySem PySem.Spec PyProof.Rows L2 NX
variable [TabsC]
/-- what is promised of data: the arguments, what an exception must bear, what the value must bear -/
abbrev SP := List D → (Exn → Prop) → (D → Prop) → Prop
def spD (K : PySem.W.Frag) (S : SP) : Sp := fun vs H Q E => ∃ G ds, Same G H ∧ Dts K G vs ds ∧ (Good H ∧ GN G) ∧ S ds (fun x => ∀ cls d H' G', Grow [] H G H' G' → ExR K H' G' x cls d → E cls d H') (fun d => ∀ v H' G', Grow [] H G H' G' → Dt K G' v d → Q v H')
def MonoS (S : SP) : Prop := ∀ ds (E E' : Exn → Prop) (P P' : D → Prop), (∀ x, E x → E' x) → (∀ d, P d → P' d) → S ds E P → S ds E' P'
/-- a new object: of no slot, no datum -/
structure New (K : PySem.W.Frag) (Γ : Ga) (hid : Hd) (σ : L2.St) (H : Hp) (δ : DS) (G : Hp) (p : Addr) (o : MO) : Prop where
  g : G p = none
  h0 : Γ.H0 p = none
  hd : ∀ q ∈ hid.ls, q.1 ≠ p
  ow : ∀ j, Own δ j → ¬ At σ j p
  mo : MOk K G H p o
theorem New.of {K : PySem.W.Frag} {Γ : Ga} {hid : Hd} {σ : L2.St} {H : Hp} {δ : DS} {G : Hp} {p : Addr} {o : MO} {u : HO} (R : Rel K Γ hid σ H δ G) (np : H p = none) (mo : MOk K G (upd H p u) p o) : New K Γ hid σ (upd H p u) δ G p o := by
  refine ⟨?_, ?_, fun q hq z => ?_, fun j ⟨o2, h⟩ a => ?_, mo⟩
  · cases e : G p with
    | none => rfl
    | some u => have := R.sub p u e; rw [np] at this; cases this
  · cases e : Γ.H0 p with
    | none => rfl
    | some u => exact absurd np (R.here (by rw [e]; exact fun z => nomatch z))
  · have := (R.hds q hq).1
    rw [z, np] at this; cases this
  · rcases h with h | h
    · obtain ⟨p', a', _, _, _, m⟩ := R.sl j _ h
      cases a.inj a'
      exact m.here np
    · obtain ⟨p', a', _, _, _, m⟩ := R.sl j _ h
      cases a.inj a'
      exact m.here np
/-- a new object becomes data -/
theorem Rel.newData {K : PySem.W.Frag} {Γ : Ga} {hid : Hd} {σ : L2.St} {H : Hp} {δ : DS} {G : Hp} {p : Addr} {ds : List D} (R : Rel K Γ hid σ H δ G) (n : New K Γ hid σ H δ G p (.lst ds)) :
    ∃ G', Rel K Γ hid σ H δ G' ∧ Same G G' ∧ Dt K G' (.ref p) (.list ds) := by
  obtain ⟨vs, hp, hv⟩ := n.mo
  have sG : Same G (upd G p (.lst vs)) := fun a u e => by rw [upd_ne (ne_of_none e n.g)]; exact e
  refine ⟨upd G p (.lst vs), ⟨fun a u e => ?_, R.ext.trans sG, fun a e => ?_, R.fr, R.prs, R.len, fun j s e => ?_, R.dist, fun q hq => ?_, R.gb.trans sG, R.tb.upG⟩, sG, .lst (.inl upd_same) (dpa_mono sG hv)⟩
  · by_cases c : a = p
    · rw [c, upd_same] at e; rw [c]; cases e; exact hp
    · rw [upd_ne c] at e; exact R.sub a u e
  · have c : a ≠ p := fun z => by rw [z] at e; exact e n.h0
    rw [upd_ne c]; exact R.old a e
  · have q := R.sl j s e
    cases s with
    | sh d => obtain ⟨v, h1, h2⟩ := q; exact ⟨v, h1, dp_mono sG h2⟩
    | ow o =>
      obtain ⟨r, h1, h2, h3, h4, h5⟩ := q
      have c : r ≠ p := fun z => n.ow j ⟨o, .inl e⟩ (z ▸ h1)
      exact ⟨r, h1, by rw [upd_ne c]; exact h2, h3, h4, h5.mono sG fun _ z => z⟩
    | io o =>
      obtain ⟨r, h1, h2, h3, h4, h5⟩ := q
      have c : r ≠ p := fun z => n.ow j ⟨o, .inr e⟩ (z ▸ h1)
      exact ⟨r, h1, by rw [upd_ne c]; exact h2, h3, h4, h5.mono sG fun _ z => z⟩
  · obtain ⟨h1, h2, h3⟩ := R.hds q hq
    exact ⟨h1, by rw [upd_ne (n.hd q hq)]; exact h2, h3⟩
abbrev RN := DS → KE → (MO → DS → Prop) → Prop
section
variable (K : PySem.W.Frag) (Γ : Ga) (W : WX)
def KN (hid : Hd) (σ : L2.St) (G : Hp) (Q : VK) : MO → DS → Prop := fun o δ => ∀ p H' G', Rel K Γ hid σ H' δ G' → Same G G' → New K Γ hid σ H' δ G' p o → Q (.ref p) H'
def LN (φ : RN) : TE := fun σ H Q => ∃ hid δ G, Rel K Γ hid σ H δ G ∧ φ δ (EK K Γ W hid) (KN K Γ hid σ G Q)
end
/-- an expression whose value is a new object -/
structure DN (X : Cx) (Γ : Ga) (W : WX) (e : Expr) (φ : RN) : Prop where
  run : PE X e (LN X.K Γ W φ)
  mono : Mono φ
section
variable {X : Cx} {Γ : Ga} {W : WX} {a b c : Expr} {φa φb φc : RE} {pos : Pos} {es : List Expr} {CX : CXT} {k : Nat} {f : Addr} {fd : FuncData} {ps : List Str} {S : SP} {ρ : RA} {x : Str} {p : Pos}
theorem dn_mk {e : Expr} {t : TE} {φ : RN} (h : PE X e t) (m : Mono φ) (i : ∀ σ H Q hid δ G, Rel X.K Γ hid σ H δ G → φ δ (EK X.K Γ W hid) (KN X.K Γ hid σ G Q) → t σ H Q) : DN X Γ W e φ :=
  ⟨PE.imp h fun σ H Q ⟨hid, δ, G, R, q⟩ => i σ H Q hid δ G R q, m⟩
def frR (φ : RN) : RE := fun δ E P => φ δ E fun o δ1 => match o with | .lst ds => P (.list ds) δ1
theorem de_of {e : Expr} {φ : RN} (h : DN X Γ W e φ) : DE X Γ W e (frR φ) := by
  refine de_mk h.run (fun _ _ _ _ _ he hp q => h.mono _ _ _ _ _ he (fun o _ z => by cases o; exact hp _ _ z) q) fun σ H Q hid δ G R q => ⟨hid, δ, G, R, h.mono _ _ _ _ _ (fun _ _ z => z) (fun o δ1 q1 => ?_) q⟩
  cases o with
  | lst ds =>
    intro p H1 G1 R1 s1 n
    obtain ⟨G2, R2, s2, d2⟩ := R1.newData n
    exact q1 _ H1 G2 R2 (s1.trans s2) d2
def lstN (t : RA) : RN := fun δ E P => t δ E fun ds δ1 => P (.lst ds) δ1
theorem dn_lst (h : DA X Γ W es ρ) (hl : es.length ≤ sizeLine := by decide) : DN X Γ W (.List es pos) (lstN ρ) :=
  dn_mk (pe_lst h.run) (fun _ _ _ _ _ he hp q => h.mono _ _ _ _ _ he (fun _ _ z => hp _ _ z) q) fun σ H Q hid δ G R q => h.go R (h.len _ _ _ q) fun ds δ1 vs H1 G1 q1 R1 s1 d1 =>
    ⟨by rw [dpa_length d1, q1.1]; exact hl, fun p np => by
      have g := Grow.newO (o := .lst vs) R1.sub np
      exact q1.2 _ _ _ (R1.grow g) s1 (.of R1 np ⟨vs, upd_same, d1⟩)⟩
/-- [..] * k -/
def repN (a b : RE) : RN := fun δ E P => a δ E fun x δ1 => b δ1 E fun y δ2 => match x, y with
  | .list xs, .int k => (0 ≤ k ∧ xs.length * k.toNat ≤ sizeLine ∧ k < 2 ^ 63) ∧ P (.lst (List.replicate k.toNat xs).flatten) δ2
  | _, _ => False
theorem dn_rep (ha : DE X Γ W a φa) (hb : DE X Γ W b φb) : DN X Γ W (.BinOp a .Mult b pos) (repN φa φb) := by
  refine dn_mk (pe_op op_repR ha.run hb.run) ?_ fun σ H Q hid δ G R q => ha.go R q fun dx δ1 v H1 G1 q1 R1 s1 d1 => hb.go R1 q1 fun dy δ2 u H2 G2 q2 R2 s2 d2 => ?_
  · intro δ E E' P P' he hp q
    refine ha.mono _ _ _ _ _ he (fun x δ1 q1 => hb.mono _ _ _ _ _ he (fun y δ2 q2 => ?_) q1) q
    cases x <;> cases y <;> first | exact q2.elim | exact ⟨q2.1, hp _ _ q2.2⟩
  · cases d2 with
    | int j =>
      cases d1 with
      | @lst a1 xs1 ds1 h1 ha1 =>
        obtain ⟨⟨f0, f1, f2⟩, f3⟩ := q2
        rw [← dpa_length ha1] at f1
        refine ⟨_, _, _, rfl, rfl, Same.rd R2.sub (Same.rd s2 h1), by omega, f2, f1, fun p np => ?_⟩
        have g := Grow.newO (o := .lst (List.replicate j.toNat xs1).flatten) R2.sub np
        exact f3 _ _ _ (R2.grow g) (s1.trans s2) (.of R2 np ⟨_, upd_same, dpa_rep (dpa_mono s2 ha1) _⟩)
      | _ => exact q2.elim
    | _ => cases dx <;> exact q2.elim
/-- x + y of lists -/
def catN (a b : RE) : RN := fun δ E P => a δ E fun x δ1 => b δ1 E fun y δ2 => match x, y with
  | .list xs, .list ys => xs.length + ys.length ≤ sizeLine ∧ P (.lst (xs ++ ys)) δ2
  | _, _ => False
theorem dn_cat (ha : DE X Γ W a φa) (hb : DE X Γ W b φb) : DN X Γ W (.BinOp a .Add b pos) (catN φa φb) := by
  refine dn_mk (pe_op op_catR ha.run hb.run) ?_ fun σ H Q hid δ G R q => ha.go R q fun dx δ1 v H1 G1 q1 R1 s1 d1 => hb.go R1 q1 fun dy δ2 u H2 G2 q2 R2 s2 d2 => ?_
  · intro δ E E' P P' he hp q
    refine ha.mono _ _ _ _ _ he (fun x δ1 q1 => hb.mono _ _ _ _ _ he (fun y δ2 q2 => ?_) q1) q
    cases x <;> cases y <;> first | exact q2.elim | exact ⟨q2.1, hp _ _ q2.2⟩
  · cases d1 with
    | @lst a1 xs1 ds1 h1 ha1 =>
      cases d2 with
      | @lst a2 xs2 ds2 h2 ha2 =>
        obtain ⟨f1, f3⟩ := q2
        rw [← dpa_length ha1, ← dpa_length ha2] at f1
        refine ⟨_, _, _, _, rfl, rfl, Same.rd R2.sub (Same.rd s2 h1), Same.rd R2.sub h2, f1, fun p np => ?_⟩
        have g := Grow.newO (o := .lst (xs1 ++ xs2)) R2.sub np
        exact f3 _ _ _ (R2.grow g) (s1.trans s2) (.of R2 np ⟨_, upd_same, dpa_append (dpa_mono s2 ha1) ha2⟩)
      | _ => exact q2.elim
    | _ => cases dy <;> exact q2.elim
/-! ### calls -/
def callR (S : SP) (ρ : RA) : RE := fun δ E P => ρ δ E fun ds δ1 => S ds (fun x => E x δ1) (fun d => P d δ1)
theorem passZ {σ : L2.St} {E : XK} : PassesAt CX0 X σ E := fun _ _ _ _ _ _ h => h.elim
theorem run_fnA {pins : List (Addr × Obj)} {σ : L2.St} {H : Hp} {s : Shared} {Q : VK} {us : List Value} {vs : List V} {sp : Sp} {E : XK} (F : FnOk X.prog X.w X.K X.mg X.base CX k f fd ps sp) (hr : Room k X.A) (hb : Binds X.K fd ps []) (hx : PassesAt CX X σ E)
    (I : Inv X pins σ H s) (r : Vals vs us) (h : sp vs H Q E) : wpAny (model X.prog X.w) X.A (call (.ref f) us) (EP X pins σ Q) X.xe s :=
  run_fnS (E := fun _ => E) F hr hb hx I r h
theorem de_call (F : FnOk X.prog X.w X.K X.mg X.base CX k f fd ps (spD X.K S)) (mS : MonoS S) (hr : Room k X.A) (hm : X.mg x = some (.ref f)) (hk : PySem.W.keepIn X.K (.ref f) = true) (hb : Binds X.K fd ps []) (hx : ∀ σ, PassesAt CX X σ (WE W σ))
    (ha : DA X Γ W (a :: es) ρ) (hg : Gl X x := by rfl) (hdb : (x == ("__debug__" : Str)) = false := by decide) (he : starEach (a :: es) X.env = (false, eval a X.env) :: starEach es X.env := by rfl) (hpl : (backTo pos (starEach es X.env)).any (·.1) = false := by rfl) :
    DE X Γ W (.Call (.Name x p) (a :: es) [] pos) (callR S ρ) :=
  de_mk (pe_callS F hr hg hm hk hb hx ha.run hdb he hpl) (fun _ _ _ _ _ he hp q => ha.mono _ _ _ _ _ he (fun _ _ z => mS _ _ _ _ _ (fun _ => he _ _) (fun _ => hp _ _) z) q) fun σ H Q hid δ G R q => ha.go R q fun ds δ1 vs H1 G1 q1 R1 s1 d1 =>
    ⟨G1, ds, R1.sub, d1, R1.tb.gg, mS _ _ _ _ _ (fun x1 h1 cls d H2 G2 g ex => h1 cls d σ H2 G2 (R1.grow g) ex) (fun d h1 v H2 G2 g dd => h1 v H2 G2 (R1.grow g) (s1.trans g.data) dd) q1⟩
/-- a built-in that hands back a flat thing -/
structure CalS (K : PySem.W.Frag) (r : List V → Hp → VK → Prop) (g : List D → (D → Prop) → Prop) : Prop where
  ok : ∀ vs ds H G P Q, Same G H → Dts K G vs ds → g ds P → (∀ d v H' G', P d → Grow [] H G H' G' → Dt K G' v d → Q v H') → r vs H Q
  mono : ∀ ds P P', (∀ d, P d → P' d) → g ds P → g ds P'
def bR (g : List D → (D → Prop) → Prop) (ρ : RA) : RE := fun δ E P => ρ δ E fun ds δ1 => g ds fun d => P d δ1
theorem bR_go {r : List V → Hp → VK → Prop} {g : List D → (D → Prop) → Prop} (s : CalS X.K r g) (ha : DA X Γ W es ρ) : ∀ σ H Q hid δ G, Rel X.K Γ hid σ H δ G → bR g ρ δ (EK X.K Γ W hid) (KV X.K Γ hid σ G Q) → tCB r (LA X.K Γ W ρ) σ H Q :=
  fun σ H Q hid δ G R q => ha.go R q fun ds δ1 vs H1 G1 q1 R1 s1 d1 => s.ok vs ds H1 G1 _ Q R1.sub d1 q1 fun d v H2 G2 p gw dd => p v H2 G2 (R1.grow gw) (s1.trans gw.data) dd
theorem de_bltn {r : List V → Hp → VK → Prop} {g : List D → (D → Prop) → Prop} {id : String} (hc : CallR X (.builtin id) r) (s : CalS X.K r g) (hm : X.mg x = none) (hv : bootBuiltins x = some (.builtin id)) (ha : DA X Γ W (a :: es) ρ) (hg : Gl X x := by rfl)
    (pe : PE X (.Call (.Name x p) (a :: es) [] pos) (tCB r (LA X.K Γ W ρ))) : DE X Γ W (.Call (.Name x p) (a :: es) [] pos) (bR g ρ) :=
  de_mk pe (fun _ _ _ _ _ he hp q => ha.mono _ _ _ _ _ he (fun _ _ z => s.mono _ _ _ (fun _ => hp _ _) z) q) (bR_go s ha)
end
end DL

/-! Built-in functions. -/
namespace DL
open PySem PySem.Spec PyProof.Rows L2 NX
variable [TabsC]
section
variable {K : PySem.W.Frag} {X : Cx} {Γ : Ga} {W : WX} {a b c : Expr} {φa φb φc : RE} {pos p : Pos} {es : List Expr} {ρ : RA}
theorem dts1 {G : Hp} {vs : List V} {d : D} (h : Dts K G vs [d]) : ∃ v, vs = [v] ∧ Dt K G v d := by
  cases h with
  | cons h t => cases t; exact ⟨_, rfl, h⟩
theorem dts2 {G : Hp} {vs : List V} {d e : D} (h : Dts K G vs [d, e]) : ∃ v u, vs = [v, u] ∧ Dt K G v d ∧ Dt K G u e := by
  cases h with
  | cons h t => cases t with
    | cons h2 t => cases t; exact ⟨_, _, rfl, h, h2⟩
/-- len -/
def lenG : List D → (D → Prop) → Prop
  | [.str z], P => z.length ≤ sizeLine ∧ P (.int z.length)
  | [.list ds], P => P (.int ds.length)
  | [.tuple ds], P => P (.int ds.length)
  | _, _ => False
theorem len_s : CalS K (fun xs H Q => ∃ x n, xs = [x] ∧ LenV K x H n ∧ Q (.int n) H) lenG := by
  refine ⟨?_, ?_⟩
  · intro vs ds H G P Q s h q k
    cases h with
    | nil => exact q.elim
    | cons h t =>
      cases t with
      | cons h2 t => cases h <;> exact q.elim
      | nil =>
        cases h with
        | str z => exact ⟨_, z.length, rfl, ⟨q.1, rfl⟩, k _ _ H G q.2 (.refl s) (.int _)⟩
        | lst h ha => exact ⟨_, _, rfl, .inl ⟨_, sql_of_rd (Same.rd s h), rfl⟩, by rw [dpa_length ha]; exact k _ _ H G q (.refl s) (.int _)⟩
        | tup h ha => exact ⟨_, _, rfl, .inr ⟨_, Same.seqT s h, rfl⟩, by rw [dpa_length ha]; exact k _ _ H G q (.refl s) (.int _)⟩
        | _ => exact q.elim
  · intro ds P P' hp q
    cases ds with
    | nil => exact q
    | cons d t => cases t with
      | nil => cases d <;> first | exact hp _ q | exact ⟨q.1, hp _ q.2⟩ | exact q
      | cons e t => cases d <;> exact q
theorem de_len (hm : X.mg "len" = none) (ha : DA X Γ W [a] ρ) (hg : Gl X "len" := by rfl) (he : starEach (a :: []) X.env = (false, eval a X.env) :: starEach [] X.env := by rfl) (hpl : (backTo pos (starEach [] X.env)).any (·.1) = false := by rfl) :
    DE X Γ W (.Call (.Name "len" p) [a] [] pos) (bR lenG ρ) :=
  de_bltn call_len len_s hm PySem.boot_len ha hg (pe_callB call_len hg hm PySem.boot_len ha.run (by decide) (by decide) he hpl)
/-- one int, two ints -/
def int1G (g : Int → Int) : List D → (D → Prop) → Prop
  | [.int i], P => P (.int (g i))
  | _, _ => False
theorem int1G_mono {g : Int → Int} : ∀ ds P P', (∀ d, P d → P' d) → int1G g ds P → int1G g ds P' := by
  intro ds P P' hp q
  cases ds with
  | nil => exact q
  | cons d t => cases t with
    | nil => cases d <;> first | exact hp _ q | exact q
    | cons e t => cases d <;> exact q
def absI (i : Int) : Int := if i < 0 then -i else i
theorem abs_s : CalS K (fun xs H Q => ∃ i, xs = [.int i] ∧ Q (.int (if i < 0 then -i else i)) H) (int1G absI) := by
  refine ⟨?_, int1G_mono⟩
  intro vs ds H G P Q s h q k
  cases h with
  | nil => exact q.elim
  | cons h t =>
    cases t with
    | cons h2 t => cases h <;> exact q.elim
    | nil => cases h with
      | int i => exact ⟨i, rfl, k _ _ H G q (.refl s) (.int _)⟩
      | _ => exact q.elim
theorem de_abs (hm : X.mg "abs" = none) (ha : DA X Γ W [a] ρ) (hg : Gl X "abs" := by rfl) (he : starEach (a :: []) X.env = (false, eval a X.env) :: starEach [] X.env := by rfl) (hpl : (backTo pos (starEach [] X.env)).any (·.1) = false := by rfl) :
    DE X Γ W (.Call (.Name "abs" p) [a] [] pos) (bR (int1G absI) ρ) :=
  de_bltn call_abs abs_s hm (by decide +kernel) ha hg (pe_callB call_abs hg hm (by decide +kernel) ha.run (by decide) (by decide) he hpl)
def int2G (g : Int → Int → Int) : List D → (D → Prop) → Prop
  | [.int i, .int j], P => P (.int (g i j))
  | _, _ => False
theorem int2G_mono {g : Int → Int → Int} : ∀ ds P P', (∀ d, P d → P' d) → int2G g ds P → int2G g ds P' := by
  intro ds P P' hp q
  cases ds with
  | nil => exact q
  | cons d t => cases t with
    | nil => cases d <;> exact q
    | cons e t => cases t with
      | nil => cases d <;> cases e <;> first | exact hp _ q | exact q
      | cons f t => cases d <;> cases e <;> exact q
theorem int2G_s {g : Int → Int → Int} : CalS K (fun xs H Q => ∃ i j, xs = [.int i, .int j] ∧ Q (.int (g i j)) H) (int2G g) := by
  refine ⟨?_, int2G_mono⟩
  intro vs ds H G P Q s h q k
  cases h with
  | nil => exact q.elim
  | cons h t =>
    cases t with
    | nil => cases h <;> exact q.elim
    | cons h2 t =>
      cases t with
      | cons h3 t => cases h <;> cases h2 <;> exact q.elim
      | nil => cases h with
        | int i => cases h2 with
          | int j => exact ⟨i, j, rfl, k _ _ H G q (.refl s) (.int _)⟩
          | _ => exact q.elim
        | _ => exact q.elim
def max2 (i j : Int) : Int := if j > i then j else i
def min2 (i j : Int) : Int := if j < i then j else i
theorem de_max2 (hm : X.mg "max" = none) (ha : DA X Γ W [a, b] ρ) (hc : X.calm = true := by rfl) (hg : Gl X "max" := by rfl) (he : starEach (a :: [b]) X.env = (false, eval a X.env) :: starEach [b] X.env := by rfl) (hpl : (backTo pos (starEach [b] X.env)).any (·.1) = false := by rfl) :
    DE X Γ W (.Call (.Name "max" p) [a, b] [] pos) (bR (int2G max2) ρ) :=
  de_bltn (call_max2 hc) (int2G_s (g := max2)) hm (by decide +kernel) ha hg (pe_callB (call_max2 hc) hg hm (by decide +kernel) ha.run (by decide) (by decide) he hpl)
theorem de_min2 (hm : X.mg "min" = none) (ha : DA X Γ W [a, b] ρ) (hc : X.calm = true := by rfl) (hg : Gl X "min" := by rfl) (he : starEach (a :: [b]) X.env = (false, eval a X.env) :: starEach [b] X.env := by rfl) (hpl : (backTo pos (starEach [b] X.env)).any (·.1) = false := by rfl) :
    DE X Γ W (.Call (.Name "min" p) [a, b] [] pos) (bR (int2G min2) ρ) :=
  de_bltn (call_min2 hc) (int2G_s (g := min2)) hm (by decide +kernel) ha hg (pe_callB (call_min2 hc) hg hm (by decide +kernel) ha.run (by decide) (by decide) he hpl)
/-- lists of ints, of truths -/
def intsD : List D → Option (List Int)
  | [] => some []
  | .int i :: r => (intsD r).map (i :: ·)
  | _ => none
theorem ints_V {G : Hp} : ∀ {vs : List V} {ds : List D} {ns : List Int}, Dts K G vs ds → intsD ds = some ns → vs = ns.map V.int
  | _, _, _, .nil, e => by cases e; rfl
  | _, _, _, .cons h t, e => by
    cases h with
    | int i =>
      obtain ⟨ms, e1, e2⟩ := Option.map_eq_some_iff.mp e
      subst e2
      rw [ints_V t e1]
      rfl
    | _ => cases e
theorem intsD_map (ns : List Int) : intsD (ns.map PyData.int) = some ns := by
  induction ns with
  | nil => rfl
  | cons i r ih => show (intsD (r.map PyData.int)).map (i :: ·) = _; rw [ih]; rfl
def boolsD : List D → Option (List Bool)
  | [] => some []
  | .bool i :: r => (boolsD r).map (i :: ·)
  | _ => none
theorem bools_V {G : Hp} : ∀ {vs : List V} {ds : List D} {ns : List Bool}, Dts K G vs ds → boolsD ds = some ns → vs = ns.map V.bl
  | _, _, _, .nil, e => by cases e; rfl
  | _, _, _, .cons h t, e => by
    cases h with
    | bl i =>
      obtain ⟨ms, e1, e2⟩ := Option.map_eq_some_iff.mp e
      subst e2
      rw [bools_V t e1]
      rfl
    | _ => cases e
theorem boolsD_map (ns : List Bool) : boolsD (ns.map PyData.bool) = some ns := by
  induction ns with
  | nil => rfl
  | cons i r ih => show (boolsD (r.map PyData.bool)).map (i :: ·) = _; rw [ih]; rfl
def sumG : List D → (D → Prop) → Prop
  | [.list ds], P => optK (intsD ds) fun ns => P (.int ns.sum)
  | _, _ => False
def maxG : List D → (D → Prop) → Prop
  | [.list ds], P => optK (intsD ds) fun ns => 0 < ns.length ∧ ∀ m, m ∈ ns → (∀ y, y ∈ ns → y ≤ m) → P (.int m)
  | _, _ => False
def minG : List D → (D → Prop) → Prop
  | [.list ds], P => optK (intsD ds) fun ns => 0 < ns.length ∧ ∀ m, m ∈ ns → (∀ y, y ∈ ns → m ≤ y) → P (.int m)
  | _, _ => False
def allG : List D → (D → Prop) → Prop
  | [.list ds], P => optK (boolsD ds) fun ns => P (.bool (ns.all id))
  | _, _ => False
def anyG : List D → (D → Prop) → Prop
  | [.list ds], P => optK (boolsD ds) fun ns => P (.bool (ns.any id))
  | _, _ => False
theorem onelist {g : List D → (D → Prop) → Prop} {r : List V → Hp → VK → Prop} (f : List D → (D → Prop) → Prop) (e : ∀ ds P, g [.list ds] P = f ds P) (e0 : ∀ ds P, (∀ x, ds ≠ [.list x]) → g ds P = False)
    (ok : ∀ a xs ds H G P Q, Same G H → Rd G a (.lst xs) → Dts K G xs ds → f ds P → (∀ d v H' G', P d → Grow [] H G H' G' → Dt K G' v d → Q v H') → r [.ref a] H Q) (m : ∀ ds P P', (∀ d, P d → P' d) → f ds P → f ds P') : CalS K r g := by
  refine ⟨fun vs ds H G P Q s h q k => ?_, fun ds P P' hp q => ?_⟩
  · by_cases c : ∃ x, ds = [.list x]
    · obtain ⟨x, rfl⟩ := c
      obtain ⟨v, rfl, hv⟩ := dts1 h
      rw [e] at q
      cases hv with
      | lst hr ha => exact ok _ _ _ H G P Q s hr ha q k
    · rw [e0 ds P fun x z => c ⟨x, z⟩] at q
      exact q.elim
  · by_cases c : ∃ x, ds = [.list x]
    · obtain ⟨x, rfl⟩ := c
      rw [e] at q ⊢
      exact m _ _ _ hp q
    · rw [e0 ds P fun x z => c ⟨x, z⟩] at q
      exact q.elim
theorem sum_s : CalS K (rSum K) sumG := by
  refine onelist (fun ds P => optK (intsD ds) fun ns => P (.int ns.sum)) (fun _ _ => rfl) (fun ds P n => ?_) (fun a xs ds H G P Q s hr ha q k => ?_) fun ds P P' hp q => optK_mono (fun ns q => hp _ q) q
  · unfold sumG; split <;> first | rfl | (exact absurd rfl (n _))
  · obtain ⟨ns, e, q⟩ := optK_get q
    rw [ints_V ha e] at hr
    exact ⟨a, ns, rfl, sql_of_rd (Same.rd s hr), k _ _ H G q (.refl s) (.int _)⟩
theorem max_s : CalS K (rMax K) maxG := by
  refine onelist (fun ds P => optK (intsD ds) fun ns => 0 < ns.length ∧ ∀ m, m ∈ ns → (∀ y, y ∈ ns → y ≤ m) → P (.int m)) (fun _ _ => rfl) (fun ds P n => ?_) (fun a xs ds H G P Q s hr ha q k => ?_) fun ds P P' hp q => optK_mono (fun ns q => ⟨q.1, fun m h1 h2 => hp _ (q.2 m h1 h2)⟩) q
  · unfold maxG; split <;> first | rfl | (exact absurd rfl (n _))
  · obtain ⟨ns, e, l, q⟩ := optK_get q
    rw [ints_V ha e] at hr
    exact ⟨a, ns, rfl, sql_of_rd (Same.rd s hr), l, fun m h1 h2 => k _ _ H G (q m h1 h2) (.refl s) (.int _)⟩
theorem min_s : CalS K (rMin K) minG := by
  refine onelist (fun ds P => optK (intsD ds) fun ns => 0 < ns.length ∧ ∀ m, m ∈ ns → (∀ y, y ∈ ns → m ≤ y) → P (.int m)) (fun _ _ => rfl) (fun ds P n => ?_) (fun a xs ds H G P Q s hr ha q k => ?_) fun ds P P' hp q => optK_mono (fun ns q => ⟨q.1, fun m h1 h2 => hp _ (q.2 m h1 h2)⟩) q
  · unfold minG; split <;> first | rfl | (exact absurd rfl (n _))
  · obtain ⟨ns, e, l, q⟩ := optK_get q
    rw [ints_V ha e] at hr
    exact ⟨a, ns, rfl, sql_of_rd (Same.rd s hr), l, fun m h1 h2 => k _ _ H G (q m h1 h2) (.refl s) (.int _)⟩
theorem all_s : CalS K (rAll K) allG := by
  refine onelist (fun ds P => optK (boolsD ds) fun ns => P (.bool (ns.all id))) (fun _ _ => rfl) (fun ds P n => ?_) (fun a xs ds H G P Q s hr ha q k => ?_) fun ds P P' hp q => optK_mono (fun ns q => hp _ q) q
  · unfold allG; split <;> first | rfl | (exact absurd rfl (n _))
  · obtain ⟨ns, e, q⟩ := optK_get q
    rw [bools_V ha e] at hr
    exact ⟨a, ns, rfl, sql_of_rd (Same.rd s hr), k _ _ H G q (.refl s) (.bl _)⟩
theorem any_s : CalS K (rAny K) anyG := by
  refine onelist (fun ds P => optK (boolsD ds) fun ns => P (.bool (ns.any id))) (fun _ _ => rfl) (fun ds P n => ?_) (fun a xs ds H G P Q s hr ha q k => ?_) fun ds P P' hp q => optK_mono (fun ns q => hp _ q) q
  · unfold anyG; split <;> first | rfl | (exact absurd rfl (n _))
  · obtain ⟨ns, e, q⟩ := optK_get q
    rw [bools_V ha e] at hr
    exact ⟨a, ns, rfl, sql_of_rd (Same.rd s hr), k _ _ H G q (.refl s) (.bl _)⟩
theorem de_sum (hm : X.mg "sum" = none) (ha : DA X Γ W [a] ρ) (hc : X.calm = true := by rfl) (hg : Gl X "sum" := by rfl) (he : starEach (a :: []) X.env = (false, eval a X.env) :: starEach [] X.env := by rfl) (hpl : (backTo pos (starEach [] X.env)).any (·.1) = false := by rfl) :
    DE X Γ W (.Call (.Name "sum" p) [a] [] pos) (bR sumG ρ) := de_bltn (cr_sum hc) sum_s hm (by decide +kernel) ha hg (pe_callB (cr_sum hc) hg hm (by decide +kernel) ha.run (by decide) (by decide) he hpl)
theorem de_maxL (hm : X.mg "max" = none) (ha : DA X Γ W [a] ρ) (hc : X.calm = true := by rfl) (hg : Gl X "max" := by rfl) (he : starEach (a :: []) X.env = (false, eval a X.env) :: starEach [] X.env := by rfl) (hpl : (backTo pos (starEach [] X.env)).any (·.1) = false := by rfl) :
    DE X Γ W (.Call (.Name "max" p) [a] [] pos) (bR maxG ρ) := de_bltn (cr_max hc) max_s hm (by decide +kernel) ha hg (pe_callB (cr_max hc) hg hm (by decide +kernel) ha.run (by decide) (by decide) he hpl)
theorem de_minL (hm : X.mg "min" = none) (ha : DA X Γ W [a] ρ) (hc : X.calm = true := by rfl) (hg : Gl X "min" := by rfl) (he : starEach (a :: []) X.env = (false, eval a X.env) :: starEach [] X.env := by rfl) (hpl : (backTo pos (starEach [] X.env)).any (·.1) = false := by rfl) :
    DE X Γ W (.Call (.Name "min" p) [a] [] pos) (bR minG ρ) := de_bltn (cr_min hc) min_s hm (by decide +kernel) ha hg (pe_callB (cr_min hc) hg hm (by decide +kernel) ha.run (by decide) (by decide) he hpl)
theorem de_all (hm : X.mg "all" = none) (ha : DA X Γ W [a] ρ) (hc : X.calm = true := by rfl) (hg : Gl X "all" := by rfl) (he : starEach (a :: []) X.env = (false, eval a X.env) :: starEach [] X.env := by rfl) (hpl : (backTo pos (starEach [] X.env)).any (·.1) = false := by rfl) :
    DE X Γ W (.Call (.Name "all" p) [a] [] pos) (bR allG ρ) := de_bltn (cr_all hc) all_s hm (by decide +kernel) ha hg (pe_callB (cr_all hc) hg hm (by decide +kernel) ha.run (by decide) (by decide) he hpl)
theorem de_any (hm : X.mg "any" = none) (ha : DA X Γ W [a] ρ) (hc : X.calm = true := by rfl) (hg : Gl X "any" := by rfl) (he : starEach (a :: []) X.env = (false, eval a X.env) :: starEach [] X.env := by rfl) (hpl : (backTo pos (starEach [] X.env)).any (·.1) = false := by rfl) :
    DE X Γ W (.Call (.Name "any" p) [a] [] pos) (bR anyG ρ) := de_bltn (cr_any hc) any_s hm (by decide +kernel) ha hg (pe_callB (cr_any hc) hg hm (by decide +kernel) ha.run (by decide) (by decide) he hpl)
/-! ### built-in classes called -/
theorem de_ty {r : List V → Hp → VK → Prop} {g : List D → (D → Prop) → Prop} {T : String} {x : Str} (s : CalS X.K r g) (ha : DA X Γ W (a :: es) ρ) (pe : PE X (.Call (.Name x p) (a :: es) [] pos) (tCB r (LA X.K Γ W ρ))) : DE X Γ W (.Call (.Name x p) (a :: es) [] pos) (bR g ρ) :=
  de_mk pe (fun _ _ _ _ _ he hp q => ha.mono _ _ _ _ _ he (fun _ _ z => s.mono _ _ _ (fun _ => hp _ _) z) q) (bR_go s ha)
def strG : List D → (D → Prop) → Prop
  | [.int i], P => i.natAbs.log2 < 1920 ∧ P (.str (toString i))
  | _, _ => False
theorem str_s : CalS K (fun xs H Q => ∃ i, xs = [.int i] ∧ i.natAbs.log2 < 1920 ∧ Q (.str (toString i)) H) strG := by
  refine ⟨?_, ?_⟩
  · intro vs ds H G P Q s h q k
    cases h with
    | nil => exact q.elim
    | cons h t =>
      cases t with
      | cons h2 t => cases h <;> exact q.elim
      | nil => cases h with
        | int i => exact ⟨i, rfl, q.1, k _ _ H G q.2 (.refl s) (.str _)⟩
        | _ => exact q.elim
  · intro ds P P' hp q
    cases ds with
    | nil => exact q
    | cons d t => cases t with
      | nil => cases d <;> first | exact ⟨q.1, hp _ q.2⟩ | exact q
      | cons e t => cases d <;> exact q
theorem de_strOf (hm : X.mg "str" = none) (ha : DA X Γ W [a] ρ) (hg : Gl X "str" := by rfl) (he : starEach (a :: []) X.env = (false, eval a X.env) :: starEach [] X.env := by rfl) (hpl : (backTo pos (starEach [] X.env)).any (·.1) = false := by rfl) :
    DE X Γ W (.Call (.Name "str" p) [a] [] pos) (bR strG ρ) := de_ty (T := "str") str_s ha (pe_callTy call_str_int hg hm (by decide +kernel) ha.run (by decide) (by decide) he hpl)
/-- int(n), int(flag), int(text) -/
def intG : List D → (D → Prop) → Prop
  | [.int i], P => P (.int i)
  | [.bool k], P => P (.int (if k then 1 else 0))
  | [.str z], P => ∃ n, PySem.intText? z = some n ∧ z.length ≤ 640 ∧ P (.int n)
  | _, _ => False
def rIntAll : List V → Hp → VK → Prop := fun xs H Q => ((∃ i, xs = [.int i] ∧ Q (.int i) H) ∨ ∃ k, xs = [.bl k] ∧ Q (.int (if k then 1 else 0)) H) ∨ ∃ a n, xs = [.str a] ∧ PySem.intText? a = some n ∧ a.length ≤ 640 ∧ Q (.int n) H
theorem call_intAll : CallR X (.type "int") rIntAll := call_int1.or call_int_str
theorem int_s : CalS K rIntAll intG := by
  refine ⟨?_, ?_⟩
  · intro vs ds H G P Q s h q k
    cases h with
    | nil => exact q.elim
    | cons h t =>
      cases t with
      | cons h2 t => cases h <;> exact q.elim
      | nil => cases h with
        | int i => exact .inl (.inl ⟨i, rfl, k _ _ H G q (.refl s) (.int _)⟩)
        | bl i => exact .inl (.inr ⟨i, rfl, k _ _ H G q (.refl s) (.int _)⟩)
        | str z =>
          obtain ⟨n, e, l, q⟩ := q
          exact .inr ⟨z, n, rfl, e, l, k _ _ H G q (.refl s) (.int _)⟩
        | _ => exact q.elim
  · intro ds P P' hp q
    cases ds with
    | nil => exact q
    | cons d t => cases t with
      | nil => cases d <;> first | exact hp _ q | (obtain ⟨n, e, l, q⟩ := q; exact ⟨n, e, l, hp _ q⟩) | exact q
      | cons e t => cases d <;> exact q
theorem de_intOf (hm : X.mg "int" = none) (ha : DA X Γ W [a] ρ) (hg : Gl X "int" := by rfl) (he : starEach (a :: []) X.env = (false, eval a X.env) :: starEach [] X.env := by rfl) (hpl : (backTo pos (starEach [] X.env)).any (·.1) = false := by rfl) :
    DE X Γ W (.Call (.Name "int" p) [a] [] pos) (bR intG ρ) := de_ty (T := "int") int_s ha (pe_callTy call_intAll hg hm (by decide +kernel) ha.run (by decide) (by decide) he hpl)
/-- list(x): a new list -/
def listN (φ : RE) : RN := fun δ E P => φ δ E fun x δ1 => match x with
  | .list ds => P (.lst ds) δ1
  | .tuple ds => P (.lst ds) δ1
  | _ => False
theorem dn_listOf (hm : X.mg "list" = none) (ha : DE X Γ W a φa) (hg : Gl X "list" := by rfl) (he : starEach (a :: []) X.env = (false, eval a X.env) :: starEach [] X.env := by rfl) (hpl : (backTo pos (starEach [] X.env)).any (·.1) = false := by rfl) :
    DN X Γ W (.Call (.Name "list" p) [a] [] pos) (listN φa) := by
  refine dn_mk (pe_callTy call_list_of hg hm (by decide +kernel) (pa_cons ha.run pa_nil he) (by decide) (by decide) he hpl) ?_ fun σ H Q hid δ G R q => ?_
  · intro δ E E' P P' he hp q
    refine ha.mono _ _ _ _ _ he (fun x δ1 q1 => ?_) q
    cases x <;> first | exact hp _ _ q1 | exact q1
  · refine ha.go R q fun d δ1 v H1 G1 q1 R1 s1 d1 => ?_
    cases d1 with
    | @lst a1 xs1 ds1 h1 hd => exact ⟨_, _, rfl, .inl (sql_of_rd (Same.rd R1.sub h1)), fun l nl => q1 _ _ _ (R1.grow (Grow.newO (o := .lst xs1) R1.sub nl)) s1 (.of R1 nl ⟨_, upd_same, hd⟩)⟩
    | @tup a1 xs1 ds1 h1 hd => exact ⟨_, _, rfl, .inr (Same.seqT R1.sub h1), fun l nl => q1 _ _ _ (R1.grow (Grow.newO (o := .lst xs1) R1.sub nl)) s1 (.of R1 nl ⟨_, upd_same, hd⟩)⟩
    | _ => exact q1.elim
/-! ### isinstance of a built-in class -/
def tyD : D → String
  | .none => "NoneType" | .bool _ => "bool" | .int _ => "int" | .str _ => "str" | .list _ => "list" | .tuple _ => "tuple" | .dict _ => "dict"
def isiD (T : String) (x : D) : Bool := (kitB (tyD x) T).getD false
/-- an object of a class of the program's own -/
def isObjD : D → Bool
  | .dict ((.bool _, _) :: _) => false
  | .dict _ => true
  | _ => false
def isiR (T : String) (φ : RE) : RE := fun δ E P => φ δ E fun x δ1 => bifP (isObjD x) False (P (.bool (isiD T x)) δ1)
theorem isi_of {x : D} {A : Prop} (h : isObjD x = false) (a : A) : bifP (isObjD x) False A := by rw [h]; exact a
theorem dt_tyx {H : Hp} {v : V} {d : D} (h : Dt K H v d) (ho : isObjD d = false) : TyX K H v (.type (tyD d)) := by
  cases h with
  | obj _ => cases ho
  | ins _ _ _ _ _ => cases ho
  | dct h _ _ =>
    rcases h with h | ⟨o, h⟩
    · exact .base (.dK h)
    · exact .fDict h
  | non => exact .base .non
  | bl b => exact .base (.bl b)
  | int i => exact .base (.int i)
  | str x => exact .base (.str x)
  | lst h ha =>
    rcases h with h | ⟨o, h⟩
    · exact .base (.lst h)
    · exact .base (.frz h)
  | tup h ha =>
    rcases h with (h | ⟨o, h⟩) | h
    · exact .base (.tup h)
    · exact .fTuple h
    · obtain ⟨o, its, n, e, c, _⟩ := h
      exact .kTuple e c
theorem kit_some (T : String) (hT : T ∈ (["int", "bool", "str", "list", "tuple", "dict"] : List String)) (d : D) : kitB (tyD d) T = some (isiD T d) := by
  have h : ∀ a ∈ (["NoneType", "bool", "int", "str", "list", "tuple", "dict"] : List String), ∀ t ∈ (["int", "bool", "str", "list", "tuple", "dict"] : List String), (kitB a t).isSome = true := by decide +kernel
  have h2 := h (tyD d) (by cases d <;> simp [tyD]) T hT
  unfold isiD
  cases e : kitB (tyD d) T with
  | none => rw [e] at h2; cases h2
  | some b => rfl
theorem de_isi {T : String} {x : Str} {p2 : Pos} (hT : T ∈ (["int", "bool", "str", "list", "tuple", "dict"] : List String)) (hm : X.mg "isinstance" = none) (hx : X.mg x = none) (hv : bootBuiltins x = some (.type T)) (ha : DE X Γ W a φa) (hg : Gl X "isinstance" := by rfl) (hg2 : Gl X x := by rfl) (hn : x ≠ "__name__" := by decide) (hdb : (x == ("__debug__" : Str)) = false := by decide)
    (he : starEach (a :: [.Name x p2]) X.env = (false, eval a X.env) :: starEach [.Name x p2] X.env := by rfl) (he2 : starEach (.Name x p2 :: []) X.env = (false, eval (.Name x p2) X.env) :: starEach [] X.env := by rfl) (hpl : (backTo pos (starEach [.Name x p2] X.env)).any (·.1) = false := by rfl) :
    DE X Γ W (.Call (.Name "isinstance" p) [a, .Name x p2] [] pos) (isiR T φa) := by
  refine de_mk (pe_callB call_isi hg hm (by decide +kernel) (pa_cons ha.run (pa_cons (pe_bltn (v := .ty T) hg2 hx hv rfl hn hdb) pa_nil he2) he) (by decide) (by decide) he hpl) (fun _ _ _ _ _ he hp q => ha.mono _ _ _ _ _ he (fun _ _ z => bif_mono id (hp _ _) z) q) fun σ H Q hid δ G R q => ?_
  refine ha.go R q fun d δ1 v H1 G1 q1 R1 s1 d1 => ?_
  cases eo : isObjD d with
  | true => rw [eo] at q1; exact q1.elim
  | false =>
    rw [eo] at q1
    exact ⟨v, .ty T, _, _, isiD T d, rfl, .ty T, dt_tyx (dp_mono R1.sub d1) eo, kit_ty (kit_some T hT d), q1 _ H1 G1 R1 s1 (.bl _)⟩
end
end DL

/-! Statements. -/
namespace DL
open PySem PySem.Spec PyProof.Rows L2 NX
variable [TabsC]
inductive Fw where | nx | bk | ct | rt (d : D) | rtO (o : MO)
abbrev RB := DS → KE → (Fw → DS → Prop) → Prop
section
variable (K : PySem.W.Frag) (Γ : Ga) (W : WX)
def KF (hid : Hd) (Dn : Ends) : Fw → DS → Prop := fun fl δ => match fl with
  | .nx => ∀ σ H G, Rel K Γ hid σ H δ G → Dn.nx σ H
  | .bk => ∀ σ H G, Rel K Γ hid σ H δ G → Dn.bk σ H
  | .ct => ∀ σ H G, Rel K Γ hid σ H δ G → Dn.ct σ H
  | .rt d => ∀ v σ H G, Rel K Γ hid σ H δ G → Dt K G v d → Dn.rt v H
  | .rtO o => ∀ p σ H G, Rel K Γ hid σ H δ G → New K Γ hid σ H δ G p o → Dn.rt (.ref p) H
def LS (ψ : RB) : TS := fun Dn σ H => ∃ hid δ G, Rel K Γ hid σ H δ G ∧ ψ δ (EK K Γ W hid) (KF K Γ hid Dn)
end
structure DP (X : Cx) (Γ : Ga) (W : WX) (st : Stmt) (ψ : RB) : Prop where
  run : PS X st (LS X.K Γ W ψ)
  mono : Mono ψ
structure DB (X : Cx) (Γ : Ga) (W : WX) (st : List Stmt) (ψ : RB) : Prop where
  run : PSs X st (LS X.K Γ W ψ)
  mono : Mono ψ
theorem PS.imp {X : Cx} {e : Stmt} {t t' : TS} (h : PS X e t) (i : ∀ D σ H, t' D σ H → t D σ H) : PS X e t' := ⟨fun pins s σ H D I q => h.run pins s σ H D I (i D σ H q)⟩
theorem PSs.imp {X : Cx} {e : List Stmt} {t t' : TS} (h : PSs X e t) (i : ∀ D σ H, t' D σ H → t D σ H) : PSs X e t' := ⟨fun pins s σ H D I q => h.run pins s σ H D I (i D σ H q)⟩
section
variable {X : Cx} {Γ : Ga} {W : WX} {a b c : Expr} {φa φb φc : RE} {pos p : Pos} {es : List Expr} {ρ : RA} {st : Stmt} {sts : List Stmt} {ψ ψ1 ψ2 : RB} {τ : RT}
theorem dp_mk {t : TS} (h : PS X st t) (m : Mono ψ) (i : ∀ Dn σ H hid δ G, Rel X.K Γ hid σ H δ G → ψ δ (EK X.K Γ W hid) (KF X.K Γ hid Dn) → t Dn σ H) : DP X Γ W st ψ :=
  ⟨PS.imp h fun Dn σ H ⟨hid, δ, G, R, q⟩ => i Dn σ H hid δ G R q, m⟩
theorem db_mk {t : TS} (h : PSs X sts t) (m : Mono ψ) (i : ∀ Dn σ H hid δ G, Rel X.K Γ hid σ H δ G → ψ δ (EK X.K Γ W hid) (KF X.K Γ hid Dn) → t Dn σ H) : DB X Γ W sts ψ :=
  ⟨PSs.imp h fun Dn σ H ⟨hid, δ, G, R, q⟩ => i Dn σ H hid δ G R q, m⟩
def nxR : RB := fun δ _ P => P .nx δ
def seqK (ψ : RB) (E : KE) (P : Fw → DS → Prop) : Fw → DS → Prop := fun fl δ => match fl with
  | .nx => ψ δ E P
  | .bk => P .bk δ
  | .ct => P .ct δ
  | .rt d => P (.rt d) δ
  | .rtO o => P (.rtO o) δ
def seqR (ψ1 ψ2 : RB) : RB := fun δ E P => ψ1 δ E (seqK ψ2 E P)
theorem seqK_mono (m : Mono ψ) {E E' : KE} {P P' : Fw → DS → Prop} (he : ∀ x δ, E x δ → E' x δ) (hp : ∀ a δ, P a δ → P' a δ) : ∀ fl δ, seqK ψ E P fl δ → seqK ψ E' P' fl δ := fun fl δ q => by
  cases fl <;> first | exact m _ _ _ _ _ he hp q | exact hp _ _ q
theorem db_nil : DB X Γ W [] nxR := db_mk pss_nil (fun _ _ _ _ _ _ hp q => hp _ _ q) fun Dn σ H hid δ G R q => q σ H G R
theorem db_cons (h1 : DP X Γ W st ψ1) (h2 : DB X Γ W sts ψ2) : DB X Γ W (st :: sts) (seqR ψ1 ψ2) :=
  db_mk (pss_cons h1.run h2.run) (fun _ _ _ _ _ he hp q => h1.mono _ _ _ _ _ he (seqK_mono h2.mono he hp) q) fun Dn σ H hid δ G R q =>
    ⟨hid, δ, G, R, h1.mono _ _ _ _ _ (fun _ _ z => z) (fun fl δ1 q1 => by
      cases fl with
      | nx => exact fun σ H G R => ⟨hid, δ1, G, R, q1⟩
      | _ => exact q1) q⟩
theorem db_one (h1 : DP X Γ W st ψ1) : DB X Γ W [st] ψ1 := ⟨pss_one h1.run, h1.mono⟩
theorem dp_pass : DP X Γ W (.Pass pos) nxR := dp_mk ps_pass (fun _ _ _ _ _ _ hp q => hp _ _ q) fun Dn σ H hid δ G R q => q σ H G R
def bkR : RB := fun δ _ P => P .bk δ
def ctR : RB := fun δ _ P => P .ct δ
theorem dp_break : DP X Γ W (.Break pos) bkR := dp_mk ps_break (fun _ _ _ _ _ _ hp q => hp _ _ q) fun Dn σ H hid δ G R q => q σ H G R
theorem dp_continue : DP X Γ W (.Continue pos) ctR := dp_mk ps_continue (fun _ _ _ _ _ _ hp q => hp _ _ q) fun Dn σ H hid δ G R q => q σ H G R
/-! ### stores -/
/-- slot i gets s; a lent slot is never stored -/
def setK (o : Option Sl) (i : Nat) (s : Sl) (δ : DS) (P : DS → Prop) : Prop := match o with
  | some (.io _) => False
  | some (.ow _) => P (List.set δ i (some s))
  | some (.sh _) => P (List.set δ i (some s))
  | none => P (List.set δ i (some s))
theorem setK_mono {o : Option Sl} {i : Nat} {s : Sl} {δ : DS} {P P' : DS → Prop} (h : ∀ δ, P δ → P' δ) (q : setK o i s δ P) : setK o i s δ P' := by
  cases o with
  | none => exact h _ q
  | some o => cases o <;> first | exact h _ q | exact q
theorem setK_go {i : Nat} {s : Sl} {δ : DS} {P : DS → Prop} (q : setK (δ.get i) i s δ P) : (∀ o, δ.get i ≠ some (.io o)) ∧ P (List.set δ i (some s)) := by
  cases e : δ.get i with
  | none => rw [e] at q; exact ⟨fun o z => (by cases z), q⟩
  | some o => rw [e] at q; cases o <;> first | exact ⟨fun o z => (by cases z), q⟩ | exact q.elim
theorem Rel.setD' {K : PySem.W.Frag} {hid : Hd} {σ : L2.St} {H : Hp} {δ : DS} {G : Hp} (R : Rel K Γ hid σ H δ G) {i : Nat} {v : V} {d : D} (hio : ∀ o, δ.get i ≠ some (.io o)) (h : Dt K G v d) :
    Rel K Γ hid (σ.set i (some v)) H (List.set δ i (some (.sh d))) G := by
  by_cases hi : i < δ.length
  · exact R.setD hi hio h
  · rw [List.set_eq_of_length_le (by have := R.len; omega), List.set_eq_of_length_le (by omega)]
    exact R
theorem Rel.setO' {K : PySem.W.Frag} {hid : Hd} {σ : L2.St} {H : Hp} {δ : DS} {G : Hp} (R : Rel K Γ hid σ H δ G) {i : Nat} {p : Addr} {o : MO} (hio : ∀ o, δ.get i ≠ some (.io o)) (n : New K Γ hid σ H δ G p o) :
    Rel K Γ hid (σ.set i (some (.ref p))) H (List.set δ i (some (.ow o))) G := by
  by_cases hi : i < δ.length
  · exact R.setO hi hio n.g n.h0 n.hd n.ow n.mo
  · rw [List.set_eq_of_length_le (by have := R.len; omega), List.set_eq_of_length_le (by omega)]
    exact R
def setR (i : Nat) (φ : RE) : RB := fun δ E P => φ δ E fun d δ1 => setK (δ1.get i) i (.sh d) δ1 (P .nx)
def setNR (i : Nat) (φ : RN) : RB := fun δ E P => φ δ E fun o δ1 => setK (δ1.get i) i (.ow o) δ1 (P .nx)
theorem dp_set (i : Nat) {x : Str} {pos' : Pos} (hN : X.N.Nodup) (ha : DE X Γ W a φa) (hi : X.N[i]? = some x := by rfl) (hx : Loc X.env.scope x := by first | exact .inl rfl | exact .inr rfl) (hs : swapsWith a (some (.Name x pos')) pos.line X.env = pure false := by rfl)
    (hf : X.fn x = true ∨ X.env.scope.names.lookup x = some .local := by first | exact .inl rfl | exact .inr rfl) : DP X Γ W (.Assign [.Name x pos'] a pos) (setR i φa) :=
  dp_mk (ps_set (i := i) hN hi hx ha.run hs hf) (fun _ _ _ _ _ he hp q => ha.mono _ _ _ _ _ he (fun _ _ z => setK_mono (fun _ => hp _ _) z) q) fun Dn σ H hid δ G R q => ha.go R q fun d δ1 v H1 G1 q1 R1 s1 d1 => by
    obtain ⟨n, q2⟩ := setK_go q1
    exact q2 _ H1 G1 (R1.setD' n d1)
theorem DN.go {σ : L2.St} {H : Hp} {hid : Hd} {δ : DS} {G : Hp} {Q : VK} {φ : RN} {P : MO → DS → Prop} (h : DN X Γ W a φ) (R : Rel X.K Γ hid σ H δ G) (q : φ δ (EK X.K Γ W hid) P)
    (k : ∀ o δ1 p H1 G1, P o δ1 → Rel X.K Γ hid σ H1 δ1 G1 → Same G G1 → New X.K Γ hid σ H1 δ1 G1 p o → Q (.ref p) H1) : LN X.K Γ W φ σ H Q :=
  ⟨hid, δ, G, R, h.mono _ _ _ _ _ (fun _ _ z => z) (fun o δ1 p v H1 G1 R1 s1 => k o δ1 v H1 G1 p R1 s1) q⟩
theorem dp_setN (i : Nat) {x : Str} {pos' : Pos} {φ : RN} (hN : X.N.Nodup) (ha : DN X Γ W a φ) (hi : X.N[i]? = some x := by rfl) (hx : Loc X.env.scope x := by first | exact .inl rfl | exact .inr rfl) (hs : swapsWith a (some (.Name x pos')) pos.line X.env = pure false := by rfl)
    (hf : X.fn x = true ∨ X.env.scope.names.lookup x = some .local := by first | exact .inl rfl | exact .inr rfl) : DP X Γ W (.Assign [.Name x pos'] a pos) (setNR i φ) :=
  dp_mk (ps_set (i := i) hN hi hx ha.run hs hf) (fun _ _ _ _ _ he hp q => ha.mono _ _ _ _ _ he (fun _ _ z => setK_mono (fun _ => hp _ _) z) q) fun Dn σ H hid δ G R q => ha.go R q fun o δ1 v H1 G1 q1 R1 s1 n1 => by
    obtain ⟨n, q2⟩ := setK_go q1
    exact q2 _ H1 G1 (R1.setO' n n1)
/-- a, b = x, y -/
def parR (i j : Nat) (φ1 φ2 : RE) : RB := fun δ E P => φ1 δ E fun d δ1 => φ2 δ1 E fun e δ2 => setK (δ2.get i) i (.sh d) δ2 fun δ3 => setK (δ3.get j) j (.sh e) δ3 (P .nx)
theorem dp_par (i j : Nat) {x y : Str} {px py pt : Pos} {kt k2 pt2} (hN : X.N.Nodup) (ha : DE X Γ W a φa) (hb : DE X Γ W b φb)
    (ps : ∀ {ta : TA}, PA X [a, b] ta → PS X (.Assign [.Tuple [.Name x px, .Name y py] kt pt] (.Tuple [a, b] k2 pt2) pos) (tPar i j ta)) (he1 : starEach (a :: [b]) X.env = (false, eval a X.env) :: starEach [b] X.env := by rfl) (he2 : starEach (b :: []) X.env = (false, eval b X.env) :: starEach [] X.env := by rfl) :
    DP X Γ W (.Assign [.Tuple [.Name x px, .Name y py] kt pt] (.Tuple [a, b] k2 pt2) pos) (parR i j φa φb) :=
  dp_mk (ps (pa_cons ha.run (pa_cons hb.run pa_nil he2) he1)) (fun _ _ _ _ _ he hp q => ha.mono _ _ _ _ _ he (fun _ _ z => hb.mono _ _ _ _ _ he (fun _ _ z2 => setK_mono (fun _ z3 => setK_mono (fun _ => hp _ _) z3) z2) z) q)
    fun Dn σ H hid δ G R q => ha.go R q fun d δ1 v H1 G1 q1 R1 s1 d1 => hb.go R1 q1 fun e δ2 u H2 G2 q2 R2 s2 d2 => by
      obtain ⟨n1, q3⟩ := setK_go q2
      obtain ⟨n2, q4⟩ := setK_go q3
      exact ⟨v, u, rfl, q4 _ H2 G2 ((R2.setD' n1 (dp_mono s2 d1)).setD' n2 d2)⟩
/-- x += e -/
def augR (i : Nat) (f : OpD) (φ : RE) : RB := fun δ E P => varK (δ.get i) i δ fun x δ0 => φ δ0 E fun y δ1 => f x y fun d => setK (δ1.get i) i (.sh d) δ1 (P .nx)
/-! ### targets -/
/-- what a target does with a datum -/
abbrev RG := D → DS → (DS → Prop) → Prop
def LG (K : PySem.W.Frag) (Γ : Ga) (vs : List Nat) (γ : RG) : TG := fun v σ H Q => ∃ hid δ G d, Rel K Γ hid σ H δ G ∧ Dt K G v d ∧ γ d δ fun δ' => ∀ σ', Rel K Γ hid σ' H δ' G → wipe σ' vs = wipe σ vs → Q σ' H
structure DG (X : Cx) (Γ : Ga) (tg : Expr) (vs : List Nat) (γ : RG) : Prop where
  run : PG X tg (LG X.K Γ vs γ)
  mono : ∀ d δ P P', (∀ δ, P δ → P' δ) → γ d δ P → γ d δ P'
theorem PG.imp {e : Expr} {t t' : TG} (h : PG X e t) (i : ∀ v σ H Q, t' v σ H Q → t v σ H Q) : PG X e t' := ⟨fun pins s σ H x u Q I r q => h.run pins s σ H x u Q I r (i _ σ H Q q)⟩
def nameG (i : Nat) : RG := fun d δ P => setK (δ.get i) i (.sh d) δ P
theorem wipe_set {σ : L2.St} {i : Nat} {o : Option V} : ∀ {vs : List Nat}, i ∈ vs → wipe (σ.set i o) vs = wipe σ vs
  | v :: vs, h => by
    unfold wipe
    by_cases c : i ∈ vs
    · rw [wipe_set c]
    · have e : i = v := by
        rcases List.mem_cons.mp h with z | z
        · exact z
        · exact absurd z c
      subst e
      have comm : ∀ ws : List Nat, i ∉ ws → wipe (σ.set i o) ws = (wipe σ ws).set i o := by
        intro ws
        induction ws with
        | nil => intro _; rfl
        | cons w ws ih =>
          intro hn
          unfold wipe
          have h1 : i ≠ w := fun z => hn (by rw [z]; exact List.mem_cons_self)
          rw [ih fun z => hn (List.mem_cons_of_mem _ z), List.set_comm _ _ h1]
      rw [comm vs c, List.set_set]
theorem dg_name (i : Nat) {vs : List Nat} {x : Str} (hN : X.N.Nodup) (hv : i ∈ vs := by decide) (hi : X.N[i]? = some x := by rfl) (hx : Loc X.env.scope x := by first | exact .inl rfl | exact .inr rfl)
    (hf : X.fn x = true ∨ X.env.scope.names.lookup x = some .local := by first | exact .inl rfl | exact .inr rfl) : DG X Γ (.Name x pos) vs (nameG i) :=
  ⟨PG.imp (pg_name (i := i) hN hi hx hf) fun v σ H Q ⟨hid, δ, G, d, R, hd, q⟩ => by
    obtain ⟨n, q2⟩ := setK_go q
    exact q2 _ (R.setD' n hd) (wipe_set hv), fun _ _ _ _ h q => setK_mono h q⟩
abbrev RGs := List D → DS → (DS → Prop) → Prop
def LGs (K : PySem.W.Frag) (Γ : Ga) (vs : List Nat) (γ : RGs) : TGs := fun us σ H Q => ∃ hid δ G ds, Rel K Γ hid σ H δ G ∧ Dts K G us ds ∧ γ ds δ fun δ' => ∀ σ', Rel K Γ hid σ' H δ' G → wipe σ' vs = wipe σ vs → Q σ' H
structure DGs (X : Cx) (Γ : Ga) (tg : List Expr) (vs : List Nat) (γ : RGs) : Prop where
  run : PGs X tg (LGs X.K Γ vs γ)
  mono : ∀ d δ P P', (∀ δ, P δ → P' δ) → γ d δ P → γ d δ P'
theorem PGs.imp {e : List Expr} {t t' : TGs} (h : PGs X e t) (i : ∀ v σ H Q, t' v σ H Q → t v σ H Q) : PGs X e t' := ⟨fun pins s σ H x u Q I r q => h.run pins s σ H x u Q I r (i _ σ H Q q)⟩
def nilG : RGs := fun ds δ P => match ds with
  | [] => P δ
  | _ :: _ => False
def consG (γ : RG) (γs : RGs) : RGs := fun ds δ P => match ds with
  | [] => False
  | d :: r => γ d δ fun δ1 => γs r δ1 P
theorem dgs_nil {vs : List Nat} : DGs X Γ [] vs nilG :=
  ⟨PGs.imp pgs_nil fun us σ H Q ⟨hid, δ, G, ds, R, hd, q⟩ => by
    cases hd with
    | nil => exact ⟨rfl, q σ R rfl⟩
    | cons _ _ => exact q.elim, fun d _ _ _ h q => by cases d <;> first | exact h _ q | exact q⟩
theorem dgs_cons {e : Expr} {vs : List Nat} {γ : RG} {γs : RGs} (h1 : DG X Γ e vs γ) (h2 : DGs X Γ es vs γs) (pc : ∀ {t : TG} {u : TGs}, PG X e t → PGs X es u → PGs X (e :: es) (gCons t u)) : DGs X Γ (e :: es) vs (consG γ γs) :=
  ⟨PGs.imp (pc h1.run h2.run) fun us σ H Q ⟨hid, δ, G, ds, R, hd, q⟩ => by
    cases hd with
    | nil => exact q.elim
    | cons h t => exact ⟨_, _, rfl, hid, δ, G, _, R, h, h1.mono _ _ _ _ (fun δ1 q1 σ1 R1 w1 => ⟨hid, δ1, G, _, R1, t, h2.mono _ _ _ _ (fun δ2 q2 σ2 R2 w2 => q2 σ2 R2 (w2.trans w1)) q1⟩) q⟩,
    fun d _ _ _ h q => by cases d with
      | nil => exact q
      | cons d r => exact h1.mono _ _ _ _ (fun _ z => h2.mono _ _ _ _ h z) q⟩
/-- a, b = a tuple -/
def tupG (n : Nat) (γs : RGs) : RG := fun d δ P => match d with
  | .tuple ds => ds.length = n ∧ γs ds δ P
  | _ => False
theorem dg_tup {n : Nat} {vs : List Nat} {γs : RGs} {kk : Nat} {tpos : Pos} (h : DGs X Γ es vs γs) (pt : ∀ {t : TGs}, PGs X es t → PG X (.Tuple es kk tpos) (gTup X.K n t)) : DG X Γ (.Tuple es kk tpos) vs (tupG n γs) :=
  ⟨PG.imp (pt h.run) fun v σ H Q ⟨hid, δ, G, d, R, hd, q⟩ => by
    cases hd with
    | tup hs ha => exact ⟨_, _, rfl, Same.seqT R.sub hs, by rw [dpa_length ha]; exact q.1, hid, δ, G, _, R, ha, q.2⟩
    | _ => exact q.elim, fun d _ _ _ hp q => by cases d <;> first | exact ⟨q.1, h.mono _ _ _ _ hp q.2⟩ | exact q⟩
def unpR (γ : RG) (φ : RE) : RB := fun δ E P => φ δ E fun d δ1 => γ d δ1 (P .nx)
theorem dp_asg {tg : Expr} {vs : List Nat} {γ : RG} (ha : DE X Γ W a φa) (hg : DG X Γ tg vs γ) (hs : swapsWithSole [tg] a pos.line X.env = pure false := by rfl) (hw : swappedStores [tg] a X.env = pure none := by rfl)
    (ps : PS X (.Assign [tg] a pos) (tAsg (LE X.K Γ W φa) (LG X.K Γ vs γ))) : DP X Γ W (.Assign [tg] a pos) (unpR γ φa) :=
  dp_mk ps (fun _ _ _ _ _ he hp q => ha.mono _ _ _ _ _ he (fun _ _ z => hg.mono _ _ _ _ (fun _ => hp _ _) z) q) fun Dn σ H hid δ G R q => ha.go R q fun d δ1 v H1 G1 q1 R1 s1 d1 =>
    ⟨hid, δ1, G1, d, R1, d1, hg.mono _ _ _ _ (fun δ2 q2 σ2 R2 _ => q2 σ2 H1 G1 R2) q1⟩
/-! ### if, return, expressions -/
def ifS (t : RT) (ψ1 ψ2 : RB) : RB := fun δ E P => t δ E fun c δ1 => bifP c (ψ1 δ1 E P) (ψ2 δ1 E P)
theorem dp_if {s1 s2 : List Stmt} (ht : DT X Γ W c τ) (h1 : DB X Γ W s1 ψ1) (h2 : DB X Γ W s2 ψ2) : DP X Γ W (.If c s1 s2 pos) (ifS τ ψ1 ψ2) := by
  refine dp_mk (ps_if ht.run h1.run h2.run) ?_ fun Dn σ H hid δ G R q => ht.go R q fun t δ1 H1 G1 q1 R1 s1 => ?_
  · intro δ E E' P P' he hp q
    refine ht.mono _ _ _ _ _ he (fun t δ1 q1 => ?_) q
    cases t with
    | true => exact h1.mono _ _ _ _ _ he hp q1
    | false => exact h2.mono _ _ _ _ _ he hp q1
  · cases t with
    | true => exact iteT ⟨hid, δ1, G1, R1, q1⟩
    | false => exact iteF ⟨hid, δ1, G1, R1, q1⟩
def retR (φ : RE) : RB := fun δ E P => φ δ E fun d δ1 => P (.rt d) δ1
theorem dp_ret (ha : DE X Γ W a φa) : DP X Γ W (.Return (some a) pos) (retR φa) :=
  dp_mk (ps_ret ha.run) (fun _ _ _ _ _ he hp q => ha.mono _ _ _ _ _ he (fun _ _ => hp _ _) q) fun Dn σ H hid δ G R q => ha.go R q fun d δ1 v H1 G1 q1 R1 s1 d1 => q1 v σ H1 G1 R1 d1
def retNR : RB := fun δ _ P => P (.rt .none) δ
theorem dp_retN : DP X Γ W (.Return none pos) retNR := dp_mk ps_retN (fun _ _ _ _ _ _ hp q => hp _ _ q) fun Dn σ H hid δ G R q => q .non σ H G R .non
/-- return of a new object -/
def retO (φ : RN) : RB := fun δ E P => φ δ E fun d δ1 => P (.rtO d) δ1
theorem dp_retO {φ : RN} (ha : DN X Γ W a φ) : DP X Γ W (.Return (some a) pos) (retO φ) :=
  dp_mk (ps_ret ha.run) (fun _ _ _ _ _ he hp q => ha.mono _ _ _ _ _ he (fun _ _ => hp _ _) q) fun Dn σ H hid δ G R q => ha.go R q fun d δ1 v H1 G1 q1 R1 s1 d1 => q1 v σ H1 G1 R1 d1
def exprR (φ : RE) : RB := fun δ E P => φ δ E fun _ δ1 => P .nx δ1
theorem dp_expr (ha : DE X Γ W a φa) (hs : swapsWith a none pos.line X.env = pure false := by rfl) : DP X Γ W (.Expr a pos) (exprR φa) :=
  dp_mk (ps_expr ha.run hs) (fun _ _ _ _ _ he hp q => ha.mono _ _ _ _ _ he (fun _ _ => hp _ _) q) fun Dn σ H hid δ G R q => ha.go R q fun d δ1 v H1 G1 q1 R1 s1 d1 => q1 σ H1 G1 R1
/-! ### while -/
def whK (Wd : Nat → DS → Prop) (m : Nat) (P : Fw → DS → Prop) : Fw → DS → Prop := fun fl δ => match fl with
  | .nx => ∃ m', m' < m ∧ Wd m' δ
  | .ct => ∃ m', m' < m ∧ Wd m' δ
  | .bk => P .nx δ
  | .rt d => P (.rt d) δ
  | .rtO d => P (.rtO d) δ
def whileR (c : RT) (b : RB) : RB := fun δ E P => ∃ Wd : Nat → DS → Prop, (∃ m, Wd m δ) ∧ ∀ m δ, Wd m δ → c δ E fun t δ1 => bifP t (b δ1 E (whK Wd m P)) (P .nx δ1)
theorem dp_while (hp : PassesOwn (model X.prog X.w) X.A X.env X.xe) (ht : DT X Γ W c τ) (hb : DB X Γ W sts ψ) : DP X Γ W (.While c sts [] pos) (whileR τ ψ) := by
  refine dp_mk (ps_while hp ht.run hb.run) ?_ fun Dn σ H hid δ G R q => ?_
  · intro δ E E' P P' he hp ⟨Wd, h0, q⟩
    refine ⟨Wd, h0, fun m δ w => ht.mono _ _ _ _ _ he (fun t δ1 q1 => ?_) (q m δ w)⟩
    cases t with
    | true => exact hb.mono _ _ _ _ _ he (fun fl δ2 q2 => by cases fl <;> first | exact hp _ _ q2 | exact q2) q1
    | false => exact hp _ _ q1
  · obtain ⟨Wd, ⟨m0, w0⟩, q⟩ := q
    refine ⟨fun m σ H => ∃ δ G, Rel X.K Γ hid σ H δ G ∧ Wd m δ, ⟨m0, δ, G, R, w0⟩, fun m σ1 H1 ⟨δ1, G1, R1, w1⟩ => ht.go R1 (q m δ1 w1) fun t δ2 H2 G2 q2 R2 s2 => ?_⟩
    cases t with
    | true =>
      refine iteT ⟨fun σ H => ∃ δ G, Rel X.K Γ hid σ H δ G ∧ ∃ m', m' < m ∧ Wd m' δ, fun σ' H' ⟨δ', G', R', m', hm, w'⟩ => ⟨m', hm, δ', G', R', w'⟩, hid, δ2, G2, R2, hb.mono _ _ _ _ _ (fun _ _ z => z) (fun fl δ3 q3 => ?_) q2⟩
      cases fl with
      | nx => exact fun σ H G R => ⟨δ3, G, R, q3⟩
      | ct => exact fun σ H G R => ⟨δ3, G, R, q3⟩
      | bk => exact q3
      | rt d => exact q3
      | rtO d => exact q3
    | false => exact iteF (q2 σ1 H2 G2 R2)
/-! ### for -/
abbrev RI := DS → KE → (List D → DS → Prop) → Prop
/-- an iterator that draws the data ds -/
structure ItD (K : PySem.W.Frag) (G : Hp) (J : It) (ds : List D) : Prop where
  item : ∀ i d H G1, Same G G1 → Same G1 H → ds[i]? = some d → J.go i H ∧ ∀ x H', J.yld i H x H' → ∃ G2, Grow [] H G1 H' G2 ∧ Dt K G2 x d
  stop : ∀ H G1, Same G G1 → Same G1 H → J.stop ds.length H
def LI (K : PySem.W.Frag) (Γ : Ga) (W : WX) (φ : RI) : TI := fun σ H R => ∃ hid δ G, Rel K Γ hid σ H δ G ∧ φ δ (EK K Γ W hid) fun ds δ' => ∀ J H' G', Rel K Γ hid σ H' δ' G' → Same G G' → ItD K G' J ds → R J H'
structure DI (X : Cx) (Γ : Ga) (W : WX) (tg iter : Expr) (φ : RI) : Prop where
  run : PI X tg iter (LI X.K Γ W φ)
  mono : Mono φ
theorem PI.imp {tg e : Expr} {t t' : TI} (h : PI X tg e t) (i : ∀ σ H Q, t' σ H Q → t σ H Q) : PI X tg e t' := ⟨fun pins s σ H Q I q => h.run pins s σ H Q I (i σ H Q q)⟩
theorem di_mk {tg e : Expr} {t : TI} {φ : RI} (h : PI X tg e t) (m : Mono φ) (i : ∀ σ H R hid δ G, Rel X.K Γ hid σ H δ G → φ δ (EK X.K Γ W hid) (fun ds δ' => ∀ J H' G', Rel X.K Γ hid σ H' δ' G' → Same G G' → ItD X.K G' J ds → R J H') → t σ H R) : DI X Γ W tg e φ :=
  ⟨PI.imp h fun σ H Q ⟨hid, δ, G, R, q⟩ => i σ H Q hid δ G R q, m⟩
def listI (φ : RE) : RI := fun δ E P => φ δ E fun d δ1 => match d with
  | .list ds => P ds δ1
  | _ => False
def tupI (φ : RE) : RI := fun δ E P => φ δ E fun d δ1 => match d with
  | .tuple ds => P ds δ1
  | _ => False
def strI (φ : RE) : RI := fun δ E P => φ δ E fun d δ1 => match d with
  | .str z => P (z.cps.toList.map fun c => .str ⟨#[c]⟩) δ1
  | _ => False
theorem di_list {tg : Expr} (ha : DE X Γ W a φa) : DI X Γ W tg a (listI φa) := by
  refine di_mk (pi_list ha.run) ?_ fun σ H Q hid δ G R q => ha.go R q fun d δ1 v H1 G1 q1 R1 s1 d1 => ?_
  · intro δ E E' P P' he hp q
    refine ha.mono _ _ _ _ _ he (fun x δ1 q1 => ?_) q
    cases x <;> first | exact hp _ _ q1 | exact q1
  · cases d1 with
    | lst h hd =>
      refine ⟨_, rfl, ⟨_, sql_of_rd (Same.rd R1.sub h)⟩, q1 _ H1 G1 R1 s1 ⟨fun i d H2 G2 sG sH e => ?_, fun H2 G2 sG sH => ⟨_, sql_of_rd (Same.rd (sG.trans sH) h), by rw [dpa_length hd]; exact Nat.le_refl _⟩⟩⟩
      obtain ⟨x, ex, dx⟩ := dpa_get hd e
      have hq := sql_of_rd (K := X.K) (Same.rd (sG.trans sH) h)
      exact ⟨⟨_, x, hq, ex⟩, fun y H3 ⟨e3, hy⟩ => ⟨G2, by rw [e3]; exact .refl sH, by have := (hy _ hq).symm.trans ex; cases this; exact dp_mono sG dx⟩⟩
    | _ => exact q1.elim
theorem di_tup {tg : Expr} (ha : DE X Γ W a φa) : DI X Γ W tg a (tupI φa) := by
  refine di_mk (pi_tup ha.run) ?_ fun σ H Q hid δ G R q => ha.go R q fun d δ1 v H1 G1 q1 R1 s1 d1 => ?_
  · intro δ E E' P P' he hp q
    refine ha.mono _ _ _ _ _ he (fun x δ1 q1 => ?_) q
    cases x <;> first | exact hp _ _ q1 | exact q1
  · cases d1 with
    | tup h hd =>
      refine ⟨_, rfl, ⟨_, Same.seqT R1.sub h⟩, q1 _ H1 G1 R1 s1 ⟨fun i d H2 G2 sG sH e => ?_, fun H2 G2 sG sH => ⟨_, Same.seqT (sG.trans sH) h, by rw [dpa_length hd]; exact Nat.le_refl _⟩⟩⟩
      obtain ⟨x, ex, dx⟩ := dpa_get hd e
      have hq := Same.seqT (K := X.K) (sG.trans sH) h
      exact ⟨⟨_, x, hq, ex⟩, fun y H3 ⟨e3, hy⟩ => ⟨G2, by rw [e3]; exact .refl sH, by have := (hy _ hq).symm.trans ex; cases this; exact dp_mono sG dx⟩⟩
    | _ => exact q1.elim
theorem di_str {tg : Expr} (ha : DE X Γ W a φa) : DI X Γ W tg a (strI φa) := by
  refine di_mk (pi_str ha.run) ?_ fun σ H Q hid δ G R q => ha.go R q fun d δ1 v H1 G1 q1 R1 s1 d1 => ?_
  · intro δ E E' P P' he hp q
    refine ha.mono _ _ _ _ _ he (fun x δ1 q1 => ?_) q
    cases x <;> first | exact hp _ _ q1 | exact q1
  · cases d1 with
    | str z =>
      refine ⟨z, rfl, q1 _ H1 G1 R1 s1 ⟨fun i d H2 G2 sG sH e => ?_, fun H2 G2 sG sH => by show z.cps.size ≤ _; rw [List.length_map, Array.length_toList]; exact Nat.le_refl _⟩⟩
      rw [List.getElem?_map] at e
      obtain ⟨c, ec, ed⟩ := Option.map_eq_some_iff.mp e
      rw [Array.getElem?_toList] at ec
      refine ⟨(Array.getElem?_eq_some_iff.mp ec).1, fun y H3 ⟨e3, c', ec', ey⟩ => ⟨G2, by rw [e3]; exact .refl sH, ?_⟩⟩
      rw [ec] at ec'
      cases ec'
      rw [ey, ← ed]
      exact .str _
    | _ => exact q1.elim
/-- ints from lo on, n of them -/
def rangeL (lo : Int) (n : Nat) : List D := (List.range n).map fun i => .int (lo + (i : Nat))
theorem itd_range {K : PySem.W.Frag} {G : Hp} (lo : Int) (n : Nat) : ItD K G (Itr lo n) (rangeL lo n) := by
  refine ⟨fun i d H2 G2 sG sH e => ?_, fun H2 G2 sG sH => by show n ≤ _; unfold rangeL; rw [List.length_map, List.length_range]; exact Nat.le_refl _⟩
  unfold rangeL at e
  rw [List.getElem?_map] at e
  obtain ⟨j, ej, ed⟩ := Option.map_eq_some_iff.mp e
  obtain ⟨hl, e2⟩ := List.getElem?_eq_some_iff.mp ej
  rw [List.length_range] at hl
  rw [List.getElem_range] at e2
  subst e2
  exact ⟨hl, fun y H3 ⟨e3, ey⟩ => ⟨G2, by rw [e3]; exact .refl sH, by rw [ey, ← ed]; exact .int _⟩⟩
def range1I (φ : RE) : RI := fun δ E P => φ δ E fun d δ1 => match d with
  | .int j => (-(2 ^ 62) ≤ j ∧ j < 2 ^ 62) ∧ P (rangeL 0 j.toNat) δ1
  | _ => False
theorem di_range1 {tg : Expr} (hm : X.mg "range" = none) (ha : DE X Γ W a φa) (hg : Gl X "range" := by rfl) (hs : starEach [a] X.env = [(false, eval a X.env)] := by rfl) : DI X Γ W tg (.Call (.Name "range" p) [a] [] pos) (range1I φa) := by
  refine di_mk (pi_range1 hg hm (pa_cons ha.run pa_nil hs) hs) ?_ fun σ H Q hid δ G R q => ha.go R q fun d δ1 v H1 G1 q1 R1 s1 d1 => ?_
  · intro δ E E' P P' he hp q
    refine ha.mono _ _ _ _ _ he (fun x δ1 q1 => ?_) q
    cases x <;> first | exact ⟨q1.1, hp _ _ q1.2⟩ | exact q1
  · cases d1 with
    | int j => exact ⟨j, rfl, q1.1.1, q1.1.2, q1.2 _ H1 G1 R1 s1 (itd_range 0 _)⟩
    | _ => exact q1.elim
def range2I (φ φ' : RE) : RI := fun δ E P => φ δ E fun d δ1 => φ' δ1 E fun e δ2 => match d, e with
  | .int i, .int j => (-(2 ^ 62) ≤ i ∧ i < 2 ^ 62 ∧ -(2 ^ 62) ≤ j ∧ j < 2 ^ 62) ∧ P (rangeL i (j - i).toNat) δ2
  | _, _ => False
theorem di_range2 {tg : Expr} (hm : X.mg "range" = none) (ha : DE X Γ W a φa) (hb : DE X Γ W b φb) (pi : ∀ {ta : TA}, PA X [a, b] ta → PI X tg (.Call (.Name "range" p) [a, b] [] pos) (iRng2 ta)) (hs : starEach (a :: [b]) X.env = (false, eval a X.env) :: starEach [b] X.env := by rfl) (hs2 : starEach (b :: []) X.env = (false, eval b X.env) :: starEach [] X.env := by rfl) : DI X Γ W tg (.Call (.Name "range" p) [a, b] [] pos) (range2I φa φb) := by
  refine di_mk (pi (pa_cons ha.run (pa_cons hb.run pa_nil hs2) hs)) ?_ fun σ H Q hid δ G R q => ha.go R q fun d δ1 v H1 G1 q1 R1 s1 d1 => hb.go R1 q1 fun e δ2 u H2 G2 q2 R2 s2 d2 => ?_
  · intro δ E E' P P' he hp q
    refine ha.mono _ _ _ _ _ he (fun x δ1 q1 => hb.mono _ _ _ _ _ he (fun y δ2 q2 => ?_) q1) q
    cases x <;> cases y <;> first | exact ⟨q2.1, hp _ _ q2.2⟩ | exact q2
  · cases d1 with
    | int i =>
      cases d2 with
      | int j => exact ⟨i, j, rfl, q2.1, q2.2 _ H2 G2 R2 (s1.trans s2) (itd_range i _)⟩
      | _ => exact q2.elim
    | _ => cases e <;> exact q2.elim
/-- enumerate(list), zip(list, list) -/
def enumL (ds : List D) : List D := (ds.zipIdx 0).map fun p => .tuple [.int (p.2 : Nat), p.1]
def enumI (φ : RE) : RI := fun δ E P => φ δ E fun d δ1 => match d with
  | .list ds => P (enumL ds) δ1
  | _ => False
theorem di_enum {elts : List Expr} {kk : Nat} {tpos : Pos} (hm : X.mg "enumerate" = none) (ha : DE X Γ W a φa) (hg : Gl X "enumerate" := by rfl) (hs : starEach [a] X.env = [(false, eval a X.env)] := by rfl) : DI X Γ W (.Tuple elts kk tpos) (.Call (.Name "enumerate" p) [a] [] pos) (enumI φa) := by
  refine di_mk (pi_enum hg hm (pa_cons ha.run pa_nil hs) hs) ?_ fun σ H Q hid δ G R q => ha.go R q fun d δ1 v H1 G1 q1 R1 s1 d1 => ?_
  · intro δ E E' P P' he hp q
    refine ha.mono _ _ _ _ _ he (fun x δ1 q1 => ?_) q
    cases x <;> first | exact hp _ _ q1 | exact q1
  · cases d1 with
    | lst h hd =>
      refine ⟨_, _, rfl, sql_of_rd (Same.rd R1.sub h), q1 _ H1 G1 R1 s1 ⟨fun i d H2 G2 sG sH e => ?_, fun H2 G2 sG sH => ⟨_, sql_of_rd (Same.rd (sG.trans sH) h), by unfold enumL; rw [List.length_map, List.length_zipIdx, dpa_length hd]; exact Nat.le_refl _⟩⟩⟩
      unfold enumL at e
      rw [List.getElem?_map, List.getElem?_zipIdx] at e
      obtain ⟨pr, ep, ed⟩ := Option.map_eq_some_iff.mp e
      obtain ⟨d0, e0, epr⟩ := Option.map_eq_some_iff.mp ep
      subst epr
      obtain ⟨x, ex, dx⟩ := dpa_get hd e0
      have hq := sql_of_rd (K := X.K) (Same.rd (sG.trans sH) h)
      refine ⟨⟨_, x, hq, ex⟩, fun y H3 ⟨T, x', ey, nT, e3, hy⟩ => ?_⟩
      have := (hy _ hq).symm.trans ex
      cases this
      have g := Grow.new (o := .tup [.int (i : Nat), x]) sH nT
      refine ⟨_, by rw [e3]; exact g, ?_⟩
      rw [ey, ← ed]
      refine .tup (.of upd_same) (.cons ?_ (.cons (dp_mono (sG.trans g.data) dx) .nil))
      rw [Nat.zero_add]
      exact .int _
    | _ => exact q1.elim
def zipL (ds es : List D) : List D := (ds.zip es).map fun p => .tuple [p.1, p.2]
def zipI (φ φ' : RE) : RI := fun δ E P => φ δ E fun d δ1 => φ' δ1 E fun e δ2 => match d, e with
  | .list ds, .list es => P (zipL ds es) δ2
  | _, _ => False
theorem di_zip {elts : List Expr} {kk : Nat} {tpos : Pos} (ha : DE X Γ W a φa) (hb : DE X Γ W b φb) (pi : ∀ {ta : TA}, PA X [a, b] ta → PI X (.Tuple elts kk tpos) (.Call (.Name "zip" p) [a, b] [] pos) (iZip X.K ta)) (hs : starEach (a :: [b]) X.env = (false, eval a X.env) :: starEach [b] X.env := by rfl) (hs2 : starEach (b :: []) X.env = (false, eval b X.env) :: starEach [] X.env := by rfl) :
    DI X Γ W (.Tuple elts kk tpos) (.Call (.Name "zip" p) [a, b] [] pos) (zipI φa φb) := by
  refine di_mk (pi (pa_cons ha.run (pa_cons hb.run pa_nil hs2) hs)) ?_ fun σ H Q hid δ G R q => ha.go R q fun d δ1 v H1 G1 q1 R1 s1 d1 => hb.go R1 q1 fun e δ2 u H2 G2 q2 R2 s2 d2 => ?_
  · intro δ E E' P P' he hp q
    refine ha.mono _ _ _ _ _ he (fun x δ1 q1 => hb.mono _ _ _ _ _ he (fun y δ2 q2 => ?_) q1) q
    cases x <;> cases y <;> first | exact hp _ _ q2 | exact q2
  · cases d1 with
    | lst h hd =>
      cases d2 with
      | lst h2 hd2 =>
        refine ⟨_, _, _, _, rfl, sql_of_rd (Same.rd (s2.trans R2.sub) h), sql_of_rd (Same.rd R2.sub h2), q2 _ H2 G2 R2 (s1.trans s2) ⟨fun i d H3 G3 sG sH e => ?_, fun H3 G3 sG sH => ⟨_, _, sql_of_rd (Same.rd ((s2.trans sG).trans sH) h), sql_of_rd (Same.rd (sG.trans sH) h2), ?_⟩⟩⟩
        · unfold zipL at e
          rw [List.getElem?_map] at e
          obtain ⟨pr, ep, ed⟩ := Option.map_eq_some_iff.mp e
          obtain ⟨e1, e2⟩ := List.getElem?_zip_eq_some.mp ep
          obtain ⟨x, ex, dx⟩ := dpa_get hd e1
          obtain ⟨y, ey, dy⟩ := dpa_get hd2 e2
          have hq := sql_of_rd (K := X.K) (Same.rd ((s2.trans sG).trans sH) h)
          have hq2 := sql_of_rd (K := X.K) (Same.rd (sG.trans sH) h2)
          refine ⟨⟨_, _, x, y, hq, hq2, ex, ey⟩, fun z H3 ⟨T, x', y', ez, nT, e3, hx, hy⟩ => ?_⟩
          have := (hx _ hq).symm.trans ex
          cases this
          have := (hy _ hq2).symm.trans ey
          cases this
          have g := Grow.new (o := .tup [x, y]) sH nT
          refine ⟨_, by rw [e3]; exact g, ?_⟩
          rw [ez, ← ed]
          exact .tup (.of upd_same) (.cons (dp_mono ((s2.trans sG).trans g.data) dx) (.cons (dp_mono (sG.trans g.data) dy) .nil))
        · unfold zipL
          rw [List.length_map, List.length_zip, dpa_length hd, dpa_length hd2]
          omega
      | _ => exact q2.elim
    | _ => cases e <;> exact q2.elim
def foK (F : DS → Prop) (P : Fw → DS → Prop) : Fw → DS → Prop := fun fl δ => match fl with
  | .nx => F δ
  | .ct => F δ
  | .bk => P .nx δ
  | .rt d => P (.rt d) δ
  | .rtO d => P (.rtO d) δ
def forK (γ : RG) (b : RB) (E : KE) (P : Fw → DS → Prop) : List D → DS → Prop
  | [], δ => P .nx δ
  | d :: ds, δ => γ d δ fun δ1 => b δ1 E (foK (forK γ b E P ds) P)
def forR (it : RI) (γ : RG) (b : RB) : RB := fun δ E P => it δ E fun ds δ1 => forK γ b E P ds δ1
theorem foK_mono {F F' : DS → Prop} {P P' : Fw → DS → Prop} (hF : ∀ δ, F δ → F' δ) (hp : ∀ a δ, P a δ → P' a δ) : ∀ fl δ, foK F P fl δ → foK F' P' fl δ := fun fl δ q => by
  cases fl <;> first | exact hF _ q | exact hp _ _ q
theorem forK_mono {tg : Expr} {vs : List Nat} {γ : RG} (hg : DG X Γ tg vs γ) (hb : Mono ψ) {E E' : KE} {P P' : Fw → DS → Prop} (he : ∀ x δ, E x δ → E' x δ) (hp : ∀ a δ, P a δ → P' a δ) : ∀ ds δ, forK γ ψ E P ds δ → forK γ ψ E' P' ds δ
  | [], δ, q => hp _ _ q
  | d :: ds, δ, q => hg.mono _ _ _ _ (fun δ1 q1 => hb _ _ _ _ _ he (foK_mono (forK_mono hg hb he hp ds) hp) q1) q
theorem EK_up {K : PySem.W.Frag} {hid : Hd} {G1 : Hp} (s : Same hid.gb G1) : ∀ x δ, EK K Γ W hid x δ → EK K Γ W ⟨hid.ls, G1⟩ x δ := fun x δ h cls d σ H G R ex => h cls d σ H G (R.unbase s) ex
theorem New.rb {K : PySem.W.Frag} {hid : Hd} {G1 : Hp} {σ : L2.St} {H : Hp} {δ : DS} {G : Hp} {p : Addr} {o : MO} (n : New K Γ ⟨hid.ls, G1⟩ σ H δ G p o) : New K Γ hid σ H δ G p o := ⟨n.g, n.h0, n.hd, n.ow, n.mo⟩
theorem KF_up {K : PySem.W.Frag} {hid : Hd} {G1 : Hp} {Dn : Ends} (s : Same hid.gb G1) : ∀ fl δ, KF K Γ hid Dn fl δ → KF K Γ ⟨hid.ls, G1⟩ Dn fl δ := fun fl δ h => by
  cases fl with
  | nx => exact fun σ H G R => h σ H G (R.unbase s)
  | bk => exact fun σ H G R => h σ H G (R.unbase s)
  | ct => exact fun σ H G R => h σ H G (R.unbase s)
  | rt d => exact fun v σ H G R => h v σ H G (R.unbase s)
  | rtO o => exact fun v σ H G R n => h v σ H G (R.unbase s) n.rb
theorem dp_for {tg iter : Expr} {vs : List Nat} {γ : RG} {ι : RI} (hp : PassesOwn (model X.prog X.w) X.A X.env X.xe) (hi : DI X Γ W tg iter ι) (hg : DG X Γ tg vs γ) (hb : DB X Γ W sts ψ) (hc : X.calm = true := by rfl)
    (hs : ∀ x, foldedSetIterable iter X.env x = pure x := by intro _; rfl) : DP X Γ W (.For tg iter sts [] pos) (forR ι γ ψ) := by
  refine dp_mk (ps_for hp hc hi.run hg.run hb.run hs) ?_ fun Dn σ H hid δ G R q => ?_
  · exact fun _ _ _ _ _ he hp q => hi.mono _ _ _ _ _ he (fun ds δ1 q1 => forK_mono hg hb.mono he hp ds δ1 q1) q
  · refine ⟨hid, δ, G, R, hi.mono _ _ _ _ _ (fun _ _ z => z) (fun ds δ1 q1 J H1 G1 R1 s1 it => ?_) q⟩
    have q1' := forK_mono hg hb.mono (EK_up (W := W) R1.gb) (KF_up (Dn := Dn) R1.gb) ds δ1 q1
    have R1' := R1.rebase
    refine ⟨fun i m σ H => ∃ δ G2, Rel X.K Γ ⟨hid.ls, G1⟩ σ H δ G2 ∧ m = ds.length - i ∧ i ≤ ds.length ∧ forK γ ψ (EK X.K Γ W ⟨hid.ls, G1⟩) (KF X.K Γ ⟨hid.ls, G1⟩ Dn) (ds.drop i) δ, ⟨_, δ1, G1, R1', rfl, Nat.zero_le _, q1'⟩, ?_⟩
    rintro i m σ2 H2 ⟨δ2, G2, R2, rfl, hle, q2⟩
    by_cases hlt : i < ds.length
    · have hd : ds[i]? = some ds[i] := List.getElem?_eq_getElem hlt
      obtain ⟨go, yl⟩ := it.item i _ H2 G2 R2.gb R2.sub hd
      rw [List.drop_eq_getElem_cons hlt] at q2
      refine .inr ⟨go, fun σ H => ∃ δ G2, Rel X.K Γ ⟨hid.ls, G1⟩ σ H δ G2 ∧ forK γ ψ (EK X.K Γ W ⟨hid.ls, G1⟩) (KF X.K Γ ⟨hid.ls, G1⟩ Dn) (ds.drop (i + 1)) δ, fun σ' H' ⟨δ', G', R', q'⟩ => ⟨ds.length - (i + 1), by omega, δ', G', R', rfl, hlt, q'⟩, fun x H3 hy => ?_⟩
      obtain ⟨G3, g, dx⟩ := yl x H3 hy
      refine ⟨_, δ2, G3, ds[i], R2.grow g, dx, hg.mono _ _ _ _ (fun δ4 q4 σ4 R4 _ => ⟨_, δ4, G3, R4, hb.mono _ _ _ _ _ (fun _ _ z => z) (fun fl δ5 q5 => ?_) q4⟩) q2⟩
      cases fl with
      | nx => exact fun σ H G R => ⟨δ5, G, R, q5⟩
      | ct => exact fun σ H G R => ⟨δ5, G, R, q5⟩
      | bk => exact q5
      | rt d => exact q5
      | rtO d => exact q5
    · have e : i = ds.length := by omega
      subst e
      rw [List.drop_length] at q2
      exact .inl ⟨it.stop H2 G2 R2.gb R2.sub, q2 σ2 H2 G2 R2⟩
end
end DL

/-! Own lists, comprehensions, defs. -/
namespace DL
open PySem PySem.Spec PyProof.Rows L2 NX
variable [TabsC]
section
variable {K : PySem.W.Frag} {Γ : Ga} {hid : Hd} {σ σ' : L2.St} {H : Hp} {δ δ' : DS} {G : Hp}
theorem Rel.swap (R : Rel K Γ hid σ H δ G) (hl : δ'.length = σ'.length) (vs : List Nat) (out : ∀ j, j ∉ vs → σ'[j]? = σ[j]? ∧ δ'.get j = δ.get j)
    (ins : ∀ j, j ∈ vs → ∀ s, δ'.get j = some s → ∃ d v, s = .sh d ∧ σ'[j]? = some (some v) ∧ Dt K G v d) (io : ∀ j, j ∈ vs → ∀ o, δ.get j ≠ some (.io o)) : Rel K Γ hid σ' H δ' G := by
  have ow : ∀ j, Own δ' j → j ∉ vs ∧ Own δ j := fun j ⟨o, h⟩ => by
    by_cases c : j ∈ vs
    · rcases h with h | h
      · obtain ⟨d, v, e, _⟩ := ins j c _ h
        cases e
      · obtain ⟨d, v, e, _⟩ := ins j c _ h
        cases e
    · exact ⟨c, o, by rw [← (out j c).2]; exact h⟩
  refine ⟨R.sub, R.ext, R.old, R.fr, fun q hq => ?_, hl, fun j s e => ?_, fun j k p hj hk aj ak => ?_, R.hds, R.gb, R.tb⟩
  · obtain ⟨h1, h2, o, h3⟩ := R.prs q hq
    have c : q.1 ∉ vs := fun z => io _ z o h3
    exact ⟨by unfold At; rw [(out _ c).1]; exact h1, h2, o, by rw [(out _ c).2]; exact h3⟩
  · by_cases c : j ∈ vs
    · obtain ⟨d, v, rfl, e2, dd⟩ := ins j c s e
      exact ⟨v, e2, dd⟩
    · rw [(out j c).2] at e
      have q := R.sl j s e
      have ea := (out j c).1
      cases s with
      | sh d => obtain ⟨v, h1, h2⟩ := q; exact ⟨v, by rw [ea]; exact h1, h2⟩
      | ow o => obtain ⟨p, h1, h2⟩ := q; exact ⟨p, by unfold At; rw [ea]; exact h1, h2⟩
      | io o => obtain ⟨p, h1, h2⟩ := q; exact ⟨p, by unfold At; rw [ea]; exact h1, h2⟩
  · obtain ⟨c1, o1⟩ := ow j hj
    obtain ⟨c2, o2⟩ := ow k hk
    unfold At at aj ak
    rw [(out j c1).1] at aj
    rw [(out k c2).1] at ak
    exact R.dist j k p o1 o2 aj ak
def wipeD (δ : DS) : List Nat → DS
  | [] => δ
  | v :: vs => List.set (wipeD δ vs) v none
theorem wipeD_len (δ : DS) : ∀ vs, (wipeD δ vs).length = δ.length
  | [] => rfl
  | v :: vs => by unfold wipeD; rw [List.length_set, wipeD_len δ vs]
theorem wipeD_get (δ : DS) : ∀ (vs : List Nat) (j : Nat), (wipeD δ vs).get j = if j ∈ vs then none else δ.get j
  | [], j => by simp [wipeD]
  | v :: vs, j => by
    unfold wipeD
    rw [DS.get_set, wipeD_get δ vs j, wipeD_len]
    by_cases c : v = j
    · subst c
      by_cases h : v < δ.length
      · rw [if_pos ⟨rfl, h⟩, if_pos List.mem_cons_self]
      · rw [if_neg (fun z => h z.2)]
        have e : δ.get v = none := by
          cases q : δ.get v with
          | none => rfl
          | some s => exact absurd (DS.get_lt q) h
        rw [e, if_pos List.mem_cons_self]
        split <;> rfl
    · rw [if_neg (fun z => c z.1)]
      by_cases h : j ∈ vs
      · rw [if_pos h, if_pos (List.mem_cons_of_mem _ h)]
      · rw [if_neg h, if_neg (fun z => by rcases List.mem_cons.mp z with z | z; exact c z.symm; exact h z)]
def keepD : Option Sl → Option Sl
  | some (.sh d) => some (.sh d)
  | _ => none
/-- the block's own names as they stood ahead of it -/
def restD (δ0 : DS) : List Nat → DS → DS
  | [], δ => δ
  | v :: vs, δ => List.set (restD δ0 vs δ) v (keepD (δ0.get v))
theorem restD_len (δ0 δ : DS) : ∀ vs, (restD δ0 vs δ).length = δ.length
  | [] => rfl
  | v :: vs => by unfold restD; rw [List.length_set, restD_len δ0 δ vs]
theorem restD_get (δ0 δ : DS) (hl : δ0.length = δ.length) : ∀ (vs : List Nat) (j : Nat), (restD δ0 vs δ).get j = if j ∈ vs then keepD (δ0.get j) else δ.get j
  | [], j => by simp [restD]
  | v :: vs, j => by
    unfold restD
    rw [DS.get_set, restD_get δ0 δ hl vs j, restD_len]
    by_cases c : v = j
    · subst c
      by_cases h : v < δ.length
      · rw [if_pos ⟨rfl, h⟩, if_pos List.mem_cons_self]
      · rw [if_neg (fun z => h z.2)]
        have none_of : ∀ δ2 : DS, ¬ v < δ2.length → δ2.get v = none := fun δ2 h => by
          cases q : δ2.get v with
          | none => rfl
          | some s => exact absurd (DS.get_lt q) h
        rw [none_of δ h, none_of δ0 (by omega), if_pos List.mem_cons_self]
        split <;> rfl
    · rw [if_neg (fun z => c z.1)]
      by_cases h : j ∈ vs
      · rw [if_pos h, if_pos (List.mem_cons_of_mem _ h)]
      · rw [if_neg h, if_neg (fun z => by rcases List.mem_cons.mp z with z | z; exact c z.symm; exact h z)]
def noIo (vs : List Nat) (δ : DS) : Prop := ∀ j, j ∈ vs → ∀ o, δ.get j ≠ some (.io o)
def notIo : Option Sl → Bool
  | some (.io _) => false
  | _ => true
def noIoB (vs : List Nat) (δ : DS) : Bool := match vs with
  | [] => true
  | v :: vs => notIo (δ.get v) && noIoB vs δ
theorem noIo_of {δ : DS} : ∀ {vs : List Nat}, noIoB vs δ = true → noIo vs δ
  | [], _ => fun j hj => by cases hj
  | v :: vs, h => fun j hj o e => by
    obtain ⟨h1, h2⟩ := Bool.and_eq_true_iff.mp (show (notIo (δ.get v) && noIoB vs δ) = true from h)
    rcases List.mem_cons.mp hj with z | z
    · subst z; rw [e] at h1; cases h1
    · exact noIo_of h2 j z o e
/-- none of these slots is lent -/
def ioG (vs : List Nat) (δ : DS) (A : Prop) : Prop := bifP (noIoB vs δ) A False
theorem ioG_get {vs : List Nat} {δ : DS} {A : Prop} (h : ioG vs δ A) : noIo vs δ ∧ A := by
  unfold ioG at h
  cases e : noIoB vs δ with
  | true => rw [e] at h; exact ⟨noIo_of e, h⟩
  | false => rw [e] at h; exact h.elim
theorem ioG_mono {vs : List Nat} {δ : DS} {A B : Prop} (i : A → B) (h : ioG vs δ A) : ioG vs δ B := bif_mono i id h
theorem Rel.wiped (R : Rel K Γ hid σ H δ G) {σ2 : L2.St} {vs : List Nat} (hw : wipe σ vs = wipe σ2 vs) (io : noIo vs δ) : Rel K Γ hid (wipe σ2 vs) H (wipeD δ vs) G := by
  refine R.swap (by rw [wipeD_len, ← hw, wipe_length]; exact R.len) vs (fun j hj => ⟨by rw [← hw]; exact wipe_out hj, by rw [wipeD_get, if_neg hj]⟩) (fun j hj s e => ?_) io
  rw [wipeD_get, if_pos hj] at e
  cases e
theorem Rel.push (R : Rel K Γ hid σ H δ G) {p : Addr} {u : HO} {o : MO} (n : New K Γ hid σ H δ G p o) (hp : H p = some u) (pu : Pl u := by exact ⟨(fun _ z => by cases z), (fun _ z => by cases z)⟩) : Rel K Γ ⟨(p, u) :: hid.ls, hid.gb⟩ σ H δ G := by
  refine ⟨R.sub, R.ext, R.old, R.fr, R.prs, R.len, fun j s e => ?_, R.dist, fun q hq => ?_, R.gb, R.tb⟩
  · have q := R.sl j s e
    cases s with
    | sh d => exact q
    | ow o =>
      obtain ⟨r, h1, h2, h3, h4, h5⟩ := q
      refine ⟨r, h1, h2, h3, fun q hq => ?_, h5⟩
      rcases List.mem_cons.mp hq with z | z
      · subst z; exact fun z => n.ow j ⟨o, .inl e⟩ (by rw [show p = r from z]; exact h1)
      · exact h4 q z
    | io o =>
      obtain ⟨r, h1, h2, h3, h4, h5⟩ := q
      refine ⟨r, h1, h2, h3, fun q hq => ?_, h5⟩
      rcases List.mem_cons.mp hq with z | z
      · subst z; exact fun z => n.ow j ⟨o, .inr e⟩ (by rw [show p = r from z]; exact h1)
      · exact h4 q z
  · rcases List.mem_cons.mp hq with z | z
    · subst z; exact ⟨hp, n.g, n.h0, pu⟩
    · exact R.hds q z
theorem Rel.hset {ls : List (Addr × HO)} {gb : Hp} {p : Addr} {u u' : HO} (R : Rel K Γ ⟨(p, u) :: ls, gb⟩ σ H δ G) (ne : ∀ q ∈ ls, q.1 ≠ p) (pu : Pl u' := by exact ⟨(fun _ z => by cases z), (fun _ z => by cases z)⟩) : Rel K Γ ⟨(p, u') :: ls, gb⟩ σ (upd H p u') δ G := by
  obtain ⟨hp, hg, h0, pl⟩ := R.hds (p, u) List.mem_cons_self
  refine ⟨fun a o e => by rw [upd_ne (ne_of_none e hg)]; exact R.sub a o e, R.ext, R.old, fun a o e n => by rw [upd_ne (ne_of_none e h0)]; exact R.fr a o e n, R.prs, R.len, fun j s e => ?_, R.dist, fun q hq => ?_, R.gb, R.tb.upd hp pl⟩
  · have q := R.sl j s e
    cases s with
    | sh d => exact q
    | ow o =>
      obtain ⟨r, h1, h2, h3, h4, h5⟩ := q
      have nr : r ≠ p := fun z => h4 (p, u) List.mem_cons_self z.symm
      exact ⟨r, h1, h2, h3, fun q hq => by rcases List.mem_cons.mp hq with z | z; exact z ▸ nr.symm; exact h4 q (List.mem_cons_of_mem _ z), h5.mono (Same.refl _) fun _ z => by rw [upd_ne nr]; exact z⟩
    | io o =>
      obtain ⟨r, h1, h2, h3, h4, h5⟩ := q
      have nr : r ≠ p := fun z => h4 (p, u) List.mem_cons_self z.symm
      exact ⟨r, h1, h2, h3, fun q hq => by rcases List.mem_cons.mp hq with z | z; exact z ▸ nr.symm; exact h4 q (List.mem_cons_of_mem _ z), h5.mono (Same.refl _) fun _ z => by rw [upd_ne nr]; exact z⟩
  · rcases List.mem_cons.mp hq with z | z
    · subst z; exact ⟨upd_same, hg, h0, pu⟩
    · obtain ⟨h1, h2, h3⟩ := R.hds q (List.mem_cons_of_mem _ z)
      exact ⟨by rw [upd_ne (ne q z)]; exact h1, h2, h3⟩
theorem Rel.pop {ls : List (Addr × HO)} {gb : Hp} {p : Addr} {u : HO} (R : Rel K Γ ⟨(p, u) :: ls, gb⟩ σ H δ G) : Rel K Γ ⟨ls, gb⟩ σ H δ G := by
  refine ⟨R.sub, R.ext, R.old, R.fr, R.prs, R.len, fun j s e => ?_, R.dist, fun q hq => R.hds q (List.mem_cons_of_mem _ hq), R.gb, R.tb⟩
  have q := R.sl j s e
  cases s with
  | sh d => exact q
  | ow o => obtain ⟨r, h1, h2, h3, h4, h5⟩ := q; exact ⟨r, h1, h2, h3, fun q hq => h4 q (List.mem_cons_of_mem _ hq), h5⟩
  | io o => obtain ⟨r, h1, h2, h3, h4, h5⟩ := q; exact ⟨r, h1, h2, h3, fun q hq => h4 q (List.mem_cons_of_mem _ hq), h5⟩
theorem Rel.pop_new {ls : List (Addr × HO)} {gb : Hp} {p : Addr} {vs : List V} {ds : List D} (R : Rel K Γ ⟨(p, .lst vs) :: ls, gb⟩ σ H δ G) (ne : ∀ q ∈ ls, q.1 ≠ p) (hd : Dts K G vs ds) : New K Γ ⟨ls, gb⟩ σ H δ G p (.lst ds) := by
  obtain ⟨hp, hg, h0, _⟩ := R.hds (p, .lst vs) List.mem_cons_self
  refine ⟨hg, h0, ne, fun j ⟨o, h⟩ a => ?_, vs, hp, hd⟩
  rcases h with h | h
  · obtain ⟨r, h1, h2, h3, h4, h5⟩ := R.sl j _ h
    exact h4 (p, .lst vs) List.mem_cons_self (a.inj h1)
  · obtain ⟨r, h1, h2, h3, h4, h5⟩ := R.sl j _ h
    exact h4 (p, .lst vs) List.mem_cons_self (a.inj h1)
end
def E0K : KE := fun _ _ => False
def W0 : WX := fun _ _ _ _ => False
/-! ### comprehensions -/
def lcK (vs : List Nat) (γ : RG) (t : RT) (e : RE) (P : List D → DS → Prop) : List D → List D → DS → Prop
  | [], acc, δ => P acc δ
  | d :: ds, acc, δ => γ d δ fun δ1 => t δ1 E0K fun b δ2 => bifP b (e δ2 E0K fun y δ3 => ioG vs δ3 (lcK vs γ t e P ds (acc ++ [y]) (wipeD δ3 vs)))
    (ioG vs δ2 (lcK vs γ t e P ds acc (wipeD δ2 vs)))
def lcN (vs : List Nat) (ι : RI) (γ : RG) (t : RT) (e : RE) : RN := fun δ E P => ι δ E fun ds δ1 => ds.length ≤ sizeLine ∧ ioG vs δ1 (lcK vs γ t e (fun acc δ2 => P (.lst acc) (restD δ1 vs δ2)) ds [] (wipeD δ1 vs))
def yesT : RT := fun δ _ P => P true δ
structure DTs (X : Cx) (Γ : Ga) (W : WX) (ifs : List Expr) (τ : RT) : Prop where
  run : PTs X ifs (LT X.K Γ W τ)
  mono : Mono τ
section
variable {X : Cx} {Γ : Ga} {W : WX} {a b c : Expr} {φa φb φc : RE} {pos p : Pos} {es : List Expr} {ρ : RA} {st : Stmt} {sts : List Stmt} {ψ ψ1 ψ2 : RB} {τ : RT}
theorem dts_nil : DTs X Γ W [] yesT := ⟨⟨fun pins s σ H Q I ⟨hid, δ, G, R, q⟩ => pts_nil.run pins s σ H Q I (q H G R (Same.refl _))⟩, fun _ _ _ _ _ _ hp q => hp _ _ q⟩
theorem dts_one (h : DT X Γ W c τ) : DTs X Γ W [c] τ := ⟨pts_one h.run, h.mono⟩
theorem lcK_mono {vs : List Nat} {γ : RG} {e : RE} (mg : ∀ d δ P P', (∀ δ, P δ → P' δ) → γ d δ P → γ d δ P') (mt : Mono τ) (me : Mono e) {P P' : List D → DS → Prop} (hp : ∀ a δ, P a δ → P' a δ) : ∀ ds acc δ, lcK vs γ τ e P ds acc δ → lcK vs γ τ e P' ds acc δ
  | [], acc, δ, q => hp _ _ q
  | d :: ds, acc, δ, q => mg _ _ _ _ (fun δ1 q1 => mt _ _ _ _ _ (fun _ _ z => z) (fun b δ2 q2 => by
    cases b with
    | true => exact me _ _ _ _ _ (fun _ _ z => z) (fun y δ3 q3 => ioG_mono (lcK_mono mg mt me hp ds _ _) q3) q2
    | false => exact ioG_mono (lcK_mono mg mt me hp ds _ _) q2) q1) q
theorem E0_up {K : PySem.W.Frag} {hid : Hd} : ∀ x δ, E0K x δ → EK K Γ W hid x δ := fun _ _ z => False.elim z
theorem lc_go {tg iter : Expr} {own : List (Str × Nat)} {ι : RI} {γ : RG} {κ : RE} (hi : DI X Γ W tg iter ι)
    (mg : ∀ d δ P P', (∀ δ, P δ → P' δ) → γ d δ P → γ d δ P') (mt : Mono τ) (me : Mono κ) :
    ∀ σ H Q hid δ G, Rel X.K Γ hid σ H δ G → lcN (own.map (·.2)) ι γ τ κ δ (EK X.K Γ W hid) (KN X.K Γ hid σ G Q) → tLc (LI X.K Γ W ι) (LG X.K Γ (own.map (·.2)) γ) (LT X.K Γ W0 τ) (LE X.K Γ W0 κ) (own.map (·.2)) σ H Q := by
  intro σ H Q hid δ G R q
  generalize hvs : own.map (·.2) = vs at q ⊢
  refine ⟨hid, δ, G, R, hi.mono _ _ _ _ _ (fun _ _ z => z) (fun ds δ1 q1 J H1 G1 R1 s1 it => ?_) q⟩
  intro Dd np
  obtain ⟨lds, q1⟩ := q1
  obtain ⟨io1, q1⟩ := ioG_get q1
  have n0 : New X.K Γ hid σ (upd H1 Dd (.lst [])) δ1 G1 Dd (.lst []) := .of R1 np ⟨[], upd_same, .nil⟩
  have R1a := R1.grow (Grow.newO (o := .lst []) R1.sub np)
  have R1b := (R1a.push n0 upd_same)
  have R1c := R1b.rebase
  have R1d : Rel X.K Γ ⟨(Dd, .lst []) :: hid.ls, G1⟩ (wipe σ vs) (upd H1 Dd (.lst [])) (wipeD δ1 vs) G1 := R1c.wiped rfl io1
  have neD : ∀ q ∈ hid.ls, q.1 ≠ Dd := n0.hd
  have widem : wipe (wipe σ vs) vs = wipe σ vs := by
    have : ∀ (vs ws : List Nat) (σ : L2.St), (∀ v ∈ vs, v ∈ ws) → wipe (wipe σ vs) ws = wipe σ ws := by
      intro vs
      induction vs with
      | nil => intro ws σ _; rfl
      | cons v vs ih =>
        intro ws σ h
        show wipe (List.set (wipe σ vs) v none) ws = wipe σ ws
        rw [wipe_set (h v List.mem_cons_self)]
        exact ih ws σ fun u hu => h u (List.mem_cons_of_mem _ hu)
    exact this vs vs σ fun _ h => h
  refine ⟨fun i m H => ∃ δ G2 acc va, Rel X.K Γ ⟨(Dd, .lst va) :: hid.ls, G1⟩ (wipe σ vs) H δ G2 ∧ Dts X.K G2 va acc ∧ acc.length ≤ i ∧ m = ds.length - i ∧ i ≤ ds.length ∧ lcK vs γ τ κ (fun acc δ2 => KN X.K Γ hid σ G Q (.lst acc) (restD δ1 vs δ2)) (ds.drop i) acc δ, ⟨_, _, G1, [], [], R1d, .nil, Nat.le_refl _, rfl, Nat.zero_le _, q1⟩, ?_⟩
  rintro i m H2 ⟨δ2, G2, acc, va, R2, hva, lacc, rfl, hle, q2⟩
  by_cases hlt : i < ds.length
  · have hd : ds[i]? = some ds[i] := List.getElem?_eq_getElem hlt
    obtain ⟨go, yl⟩ := it.item i _ H2 G2 R2.gb R2.sub hd
    rw [List.drop_eq_getElem_cons hlt] at q2
    refine .inr ⟨go, fun H => ∃ δ G2 acc va, Rel X.K Γ ⟨(Dd, .lst va) :: hid.ls, G1⟩ (wipe σ vs) H δ G2 ∧ Dts X.K G2 va acc ∧ acc.length ≤ i + 1 ∧ lcK vs γ τ κ (fun acc δ2 => KN X.K Γ hid σ G Q (.lst acc) (restD δ1 vs δ2)) (ds.drop (i + 1)) acc δ,
      fun H' ⟨δ', G', acc', va', R', hv', la', q'⟩ => ⟨ds.length - (i + 1), by omega, δ', G', acc', va', R', hv', la', rfl, hlt, q'⟩, fun x H3 hy => ?_⟩
    obtain ⟨G3, g, dx⟩ := yl x H3 hy
    refine ⟨_, δ2, G3, ds[i], R2.grow g, dx, mg _ _ _ _ (fun δ4 q4 σ4 R4 w4 => ⟨w4.trans widem, ⟨(Dd, .lst va) :: hid.ls, G1⟩, δ4, G3, R4, mt _ _ _ _ _ E0_up (fun bb δ5 q5 H5 G5 R5 s5 => ?_) q4⟩) q2⟩
    cases bb with
    | true =>
      refine iteT ⟨_, δ5, G5, R5, me _ _ _ _ _ E0_up (fun y δ6 q6 v H6 G6 R6 s6 d6 => ?_) q5⟩
      obtain ⟨io6, k6⟩ := ioG_get q6
      refine ⟨va, (R6.hds (Dd, .lst va) List.mem_cons_self).1, by rw [dpa_length hva]; omega, wipeD δ6 vs, G6, acc ++ [y], va ++ [v], ?_, dpa_append (dpa_mono ((g.data.trans s5).trans s6) hva) (.cons d6 .nil), by rw [List.length_append]; show acc.length + 1 ≤ i + 1; omega, k6⟩
      exact (R6.hset neD).wiped (w4.trans widem) io6
    | false =>
      obtain ⟨io5, k5⟩ := ioG_get q5
      refine iteF ⟨wipeD δ5 vs, G5, acc, va, R5.wiped (w4.trans widem) io5, dpa_mono (g.data.trans s5) hva, by omega, k5⟩
  · have e : i = ds.length := by omega
    subst e
    rw [List.drop_length] at q2
    refine .inl ⟨it.stop H2 G2 R2.gb R2.sub, ?_⟩
    have gl : δ2.length = δ1.length := by rw [R2.len, wipe_length, ← R1.len]
    have io2 : noIo vs δ2 := fun j hj o e => by
      obtain ⟨r, h1, _⟩ := R2.sl j _ e
      have : (wipe σ vs)[j]? = some (some (.ref r)) := h1
      exact (wipe_some this).2 hj
    have back : ∀ {h : Hd}, Rel X.K Γ h (wipe σ vs) H2 δ2 G2 → Rel X.K Γ h σ H2 (restD δ1 vs δ2) G2 := fun {h} R => by
      refine R.swap (by rw [restD_len, gl]; exact R1.len) vs (fun j hj => ⟨(wipe_out hj).symm, by rw [restD_get _ _ gl.symm, if_neg hj]⟩) (fun j hj s e => ?_) io2
      rw [restD_get _ _ gl.symm, if_pos hj] at e
      cases e1 : δ1.get j with
      | none => rw [e1] at e; cases e
      | some s1 =>
        rw [e1] at e
        cases s1 with
        | sh d =>
          cases e
          obtain ⟨v, h1, h2⟩ := R1.sl j _ e1
          exact ⟨d, v, rfl, h1, dp_mono R2.gb h2⟩
        | _ => cases e
    have R3 := back R2
    exact q2 Dd H2 G2 (R3.pop.unbase R1.gb) (s1.trans R2.gb) (R3.pop_new neD hva).rb
end
end DL

/-! Comprehensions as expressions and stored, own lists, defs. -/
namespace DL
open PySem PySem.Spec PyProof.Rows L2 NX
variable [TabsC]
section
variable {X : Cx} {Γ : Ga} {W : WX} {a b c : Expr} {φa φb φc : RE} {pos p : Pos} {es : List Expr} {ρ : RA} {st : Stmt} {sts : List Stmt} {ψ ψ1 ψ2 : RB} {τ : RT}
theorem mono_lcN {vs : List Nat} {ι : RI} {γ : RG} {κ : RE} (mi : Mono ι) (mg : ∀ d δ P P', (∀ δ, P δ → P' δ) → γ d δ P → γ d δ P') (mt : Mono τ) (me : Mono κ) : Mono (lcN vs ι γ τ κ) :=
  fun _ _ _ _ _ he hp q => mi _ _ _ _ _ he (fun ds δ1 z => ⟨z.1, ioG_mono (lcK_mono mg mt me (fun _ _ => hp _ _) _ _ _) z.2⟩) q
theorem dn_lc {elt tg iter : Expr} {ifs : List Expr} {scope : Scope} (own : List (Str × Nat)) {ι : RI} {γ : RG} {κ : RE} (hN : X.N.Nodup) (hi : DI X Γ W tg iter ι) (ok : BlkOk X.N X.env.scope scope own)
    (hg : ∀ (s : Shared) (H : Hp) (C : Addr) (cl : List (Str × Addr)) (fp : List Addr), DG (X.blk s H scope (compEnvC scope cl C X.env) fp) Γ tg (own.map (·.2)) γ) (ht : ∀ (s : Shared) (H : Hp) (C : Addr) (cl : List (Str × Addr)) (fp : List Addr), DTs (X.blk s H scope (compEnvC scope cl C X.env) fp) Γ W0 ifs τ)
    (he : ∀ (s : Shared) (H : Hp) (C : Addr) (cl : List (Str × Addr)) (fp : List Addr), DE (X.blk s H scope (compEnvC scope cl C X.env) fp) Γ W0 elt κ) (hc : X.calm = true := by rfl) (hs : ∀ x, foldedSetIterable iter X.env x = pure x := by intro _; rfl) :
    DN X Γ W (.ListComp elt [⟨tg, iter, ifs, 0⟩] scope pos) (lcN (own.map (·.2)) ι γ τ κ) :=
  have z := X.s_0
  dn_mk (pe_lc hc hN hi.run ok (fun s H C cl fp => (hg s H C cl fp).run) (fun s H C cl fp => (ht s H C cl fp).run) (fun s H C cl fp => (he s H C cl fp).run) hs) (mono_lcN hi.mono (hg z (fun _ => none) 0 [] []).mono (ht z (fun _ => none) 0 [] []).mono (he z (fun _ => none) 0 [] []).mono)
    (lc_go hi (hg z (fun _ => none) 0 [] []).mono (ht z (fun _ => none) 0 [] []).mono (he z (fun _ => none) 0 [] []).mono)
/-- y = [..], y data from then on -/
def setLR (i : Nat) (φ : RN) : RB := fun δ E P => φ δ E fun o δ1 => match o with
  | .lst ds => setK (δ1.get i) i (.sh (.list ds)) δ1 (P .nx)
theorem dp_setLcT {y : Str} {py : Pos} {elt tg iter : Expr} {ifs : List Expr} {scope : Scope} {own : List (Str × Nat)} {spos : Pos} {ι : RI} {γ : RG} {κ : RE} {i : Nat} (ps : PS X (.Assign [.Name y py] (.ListComp elt [⟨tg, iter, ifs, 0⟩] scope pos) spos) (tAsg (tLc (LI X.K Γ W ι) (LG X.K Γ (own.map (·.2)) γ) (LT X.K Γ W0 τ) (LE X.K Γ W0 κ) (own.map (·.2))) (gName i)))
    (hi : DI X Γ W tg iter ι) (mg : ∀ d δ P P', (∀ δ, P δ → P' δ) → γ d δ P → γ d δ P') (mt : Mono τ) (me : Mono κ) :
    DP X Γ W (.Assign [.Name y py] (.ListComp elt [⟨tg, iter, ifs, 0⟩] scope pos) spos) (setNR i (lcN (own.map (·.2)) ι γ τ κ)) ∧ DP X Γ W (.Assign [.Name y py] (.ListComp elt [⟨tg, iter, ifs, 0⟩] scope pos) spos) (setLR i (lcN (own.map (·.2)) ι γ τ κ)) := by
  have m := mono_lcN (vs := own.map (·.2)) hi.mono mg mt me
  refine ⟨dp_mk ps (fun _ _ _ _ _ he hp q => m _ _ _ _ _ he (fun _ _ z => setK_mono (fun _ => hp _ _) z) q) fun Dn σ H hid δ G R q => ?_, dp_mk ps (fun _ _ _ _ _ he hp q => m _ _ _ _ _ he (fun o _ z => by cases o; exact setK_mono (fun _ => hp _ _) z) q) fun Dn σ H hid δ G R q => ?_⟩
  · refine lc_go hi mg mt me σ H _ hid δ G R (m _ _ _ _ _ (fun _ _ z => z) (fun o δ1 q1 p H1 G1 R1 s1 n1 => ?_) q)
    obtain ⟨n, q2⟩ := setK_go q1
    exact q2 _ H1 G1 (R1.setO' n n1)
  · refine lc_go hi mg mt me σ H _ hid δ G R (m _ _ _ _ _ (fun _ _ z => z) (fun o δ1 q1 p H1 G1 R1 s1 n1 => ?_) q)
    cases o with
    | lst ds =>
      obtain ⟨n, q2⟩ := setK_go q1
      obtain ⟨G2, R2, s2, d2⟩ := R1.newData n1
      exact q2 _ H1 G2 (R2.setD' n d2)
theorem dp_setLc2 {y : Str} {py : Pos} {elt tg iter : Expr} {ifs : List Expr} {scope : Scope} {spos : Pos} (i : Nat) (own : List (Str × Nat)) {ι : RI} {γ : RG} {κ : RE} (hN : X.N.Nodup) (hi : DI X Γ W tg iter ι) (ok : BlkOk X.N X.env.scope scope own)
    (hg : ∀ (s : Shared) (H : Hp) (C : Addr) (cl : List (Str × Addr)) (fp : List Addr), DG (X.blk s H scope (compEnvC scope cl C X.env) fp) Γ tg (own.map (·.2)) γ) (ht : ∀ (s : Shared) (H : Hp) (C : Addr) (cl : List (Str × Addr)) (fp : List Addr), DTs (X.blk s H scope (compEnvC scope cl C X.env) fp) Γ W0 ifs τ)
    (he : ∀ (s : Shared) (H : Hp) (C : Addr) (cl : List (Str × Addr)) (fp : List Addr), DE (X.blk s H scope (compEnvC scope cl C X.env) fp) Γ W0 elt κ) (hy : X.N[i]? = some y := by rfl) (hyl : X.env.scope.names.lookup y = some .local := by rfl)
    (hsw : swapsWith (.ListComp elt [⟨tg, iter, ifs, 0⟩] scope pos) (some (.Name y py)) spos.line X.env = pure true := by exact sw_true rfl rfl rfl (by decide +kernel)) (hc : X.calm = true := by rfl) (hs : ∀ x, foldedSetIterable iter X.env x = pure x := by intro _; rfl) :
    DP X Γ W (.Assign [.Name y py] (.ListComp elt [⟨tg, iter, ifs, 0⟩] scope pos) spos) (setNR i (lcN (own.map (·.2)) ι γ τ κ)) ∧ DP X Γ W (.Assign [.Name y py] (.ListComp elt [⟨tg, iter, ifs, 0⟩] scope pos) spos) (setLR i (lcN (own.map (·.2)) ι γ τ κ)) :=
  have z := X.s_0
  dp_setLcT (ps_setLc (i := i) hc hN hy hyl hsw hi.run ok (fun s H C cl fp => (hg s H C cl fp).run) (fun s H C cl fp => (ht s H C cl fp).run) (fun s H C cl fp => (he s H C cl fp).run) hs) hi (hg z (fun _ => none) 0 [] []).mono (ht z (fun _ => none) 0 [] []).mono (he z (fun _ => none) 0 [] []).mono
/-! ### own lists -/
/-- the list of slot i, as it stands -/
def ownL : Option Sl → Option (List D)
  | some (.ow (.lst ds)) => some ds
  | some (.io (.lst ds)) => some ds
  | some (.sh (.list ds)) => some ds
  | _ => none
def ownO : Option Sl → Option (List D)
  | some (.ow (.lst ds)) => some ds
  | some (.io (.lst ds)) => some ds
  | _ => none
def putO (δ : DS) (i : Nat) (ds : List D) : DS := match δ.get i with
  | some s => List.set δ i (some (s.put (.lst ds)))
  | none => δ
theorem own_at {K : PySem.W.Frag} {hid : Hd} {σ : L2.St} {H : Hp} {δ : DS} {G : Hp} {i : Nat} {ds : List D} (R : Rel K Γ hid σ H δ G) (e : ownO (δ.get i) = some ds) :
    ∃ p vs s, δ.get i = some s ∧ (s = .ow (.lst ds) ∨ s = .io (.lst ds)) ∧ At σ i p ∧ H p = some (.lst vs) ∧ Dts K G vs ds := by
  cases q : δ.get i with
  | none => rw [q] at e; cases e
  | some s =>
    rw [q] at e
    cases s with
    | sh d => cases e
    | ow o => cases o with | lst ds' => cases e; obtain ⟨p, h1, _, _, _, vs, h5, h6⟩ := R.sl i _ q; exact ⟨p, vs, _, rfl, .inl rfl, h1, h5, h6⟩
    | io o => cases o with | lst ds' => cases e; obtain ⟨p, h1, _, _, _, vs, h5, h6⟩ := R.sl i _ q; exact ⟨p, vs, _, rfl, .inr rfl, h1, h5, h6⟩
theorem own_put {K : PySem.W.Frag} {hid : Hd} {σ : L2.St} {H : Hp} {δ : DS} {G : Hp} {i : Nat} {ds ds' : List D} {p : Addr} {vs' : List V} (R : Rel K Γ hid σ H δ G) (e : ownO (δ.get i) = some ds) (at1 : At σ i p) (hd : Dts K G vs' ds') :
    Rel K Γ hid σ (upd H p (.lst vs')) (putO δ i ds') G := by
  obtain ⟨p', vs, s, hs, c, at2, _, _⟩ := own_at R e
  unfold putO
  rw [hs]
  exact R.chg hs at1 ⟨vs', upd_same, hd⟩ c
def appR (i : Nat) (φ : RE) : RB := fun δ E P => optK (ownO (δ.get i)) fun _ => φ δ E fun d δ1 => optK (ownO (δ1.get i)) fun ds => ds.length < sizeLine ∧ P .nx (putO δ1 i (ds ++ [d]))
theorem dp_app (i : Nat) {x : Str} {xp apos cpos : Pos} (pe : ∀ {t : TA}, PA X [a] t → PE X (.Call (.Attribute (.Name x xp) "append" apos) [a] [] cpos) (tBM X.K "list" rAppend (tVar i) t)) (ha : DE X Γ W a φa) (he : starEach (a :: []) X.env = (false, eval a X.env) :: starEach [] X.env := by rfl)
    (hs : swapsWith (.Call (.Attribute (.Name x xp) "append" apos) [a] [] cpos) none pos.line X.env = pure false := by rfl) : DP X Γ W (.Expr (.Call (.Attribute (.Name x xp) "append" apos) [a] [] cpos) pos) (appR i φa) := by
  refine dp_mk (ps_expr (pe (pa_cons ha.run pa_nil he)) hs) (fun _ _ _ _ _ he hp q => optK_mono (fun _ q => ha.mono _ _ _ _ _ he (fun _ _ z => optK_mono (fun _ z => ⟨z.1, hp _ _ z.2⟩) z) q) q) fun Dn σ H hid δ G R q => ?_
  obtain ⟨ds0, e0, q⟩ := optK_get q
  obtain ⟨p, vs, s, hs1, c, at1, hp, hd⟩ := own_at R e0
  refine ⟨.ref p, at1, .inl ⟨rfl, _, .inl (.inl hp)⟩, ha.go R q fun d δ1 v H1 G1 q1 R1 s1 d1 => ?_⟩
  obtain ⟨ds, e1, l1, q1⟩ := optK_get q1
  obtain ⟨p', vs', s', hs', c', at', hp', hd'⟩ := own_at R1 e1
  cases at1.inj at'
  exact ⟨_, _, v, rfl, rfl, hp', by rw [dpa_length hd']; exact l1, q1 σ _ G1 (own_put R1 e1 at1 (dpa_append hd' (.cons d1 .nil)))⟩
/-- x[j] = e -/
def setIxR (i : Nat) (φe φj : RE) : RB := fun δ E P => φe δ E fun d δ1 => optK (ownO (δ1.get i)) fun _ => φj δ1 E fun x δ2 => match x with
  | .int k => optK (ownO (δ2.get i)) fun ds => optK (ixN ds.length k) fun m => P .nx (putO δ2 i (ds.set m d))
  | _ => False
theorem dp_setIx (i : Nat) {x : Str} {xp spos : Pos} (hx : PE X (.Name x xp) (tVar i)) (ha : DE X Γ W a φa) (hb : DE X Γ W b φb) (pg : ∀ {to ti : TE}, PE X (.Name x xp) to → PE X b ti → PG X (.Subscript (.Name x xp) b spos) (gSub to ti rSetL))
    (ps : ∀ {te : TE} {g : TG}, PE X a te → PG X (.Subscript (.Name x xp) b spos) g → PS X (.Assign [.Subscript (.Name x xp) b spos] a pos) (tAsg te g)) : DP X Γ W (.Assign [.Subscript (.Name x xp) b spos] a pos) (setIxR i φa φb) := by
  refine dp_mk (ps ha.run (pg hx hb.run)) ?_ fun Dn σ H hid δ G R q => ha.go R q fun d δ1 v H1 G1 q1 R1 s1 d1 => ?_
  · intro δ E E' P P' he hp q
    refine ha.mono _ _ _ _ _ he (fun d δ1 q1 => optK_mono (fun _ q1 => hb.mono _ _ _ _ _ he (fun y δ2 q2 => ?_) q1) q1) q
    cases y <;> first | exact optK_mono (fun _ z => optK_mono (fun _ z => hp _ _ z) z) q2 | exact q2
  · -- the object first, then the place
    obtain ⟨ds9, e9, q1⟩ := optK_get q1
    have key : ∀ {Q : VK}, (∀ w H2 G2 δ2 y, Rel X.K Γ hid σ H2 δ2 G2 → Same G1 G2 → Dt X.K G2 w y → (match y with | .int k => optK (ownO (δ2.get i)) fun ds => optK (ixN ds.length k) fun m => KF X.K Γ hid Dn .nx (putO δ2 i (ds.set m d)) | _ => False) → Q w H2) → LE X.K Γ W φb σ H1 Q := fun {Q} k =>
      hb.go R1 q1 fun y δ2 w H2 G2 q2 R2 s2 d2 => k w H2 G2 δ2 y R2 s2 d2 q2
    obtain ⟨p, vs0, s0, hs0, c0, at1, hp0, hd0⟩ := own_at R1 e9
    refine ⟨.ref p, at1, key fun w H2 G2 δ2 y R2 s2 d2 q2 => ?_⟩
    cases d2 with
    | int k =>
      obtain ⟨ds, e1, q3⟩ := optK_get q2
      obtain ⟨m, e2, q3⟩ := optK_get q3
      obtain ⟨p', vs', s', hs', c', at', hp', hd'⟩ := own_at R2 e1
      cases at1.inj at'
      exact ⟨p, vs', k, m, rfl, rfl, hp', by rw [dpa_length hd']; exact e2, q3 σ _ G2 (own_put R2 e1 at1 (dpa_set (dp_mono s2 d1) m hd'))⟩
    | _ => exact q2.elim
end
end DL

/-! Reading own lists; what a def's body shows. -/
namespace DL
open PySem PySem.Spec PyProof.Rows L2 NX
variable [TabsC]
section
variable {X : Cx} {Γ : Ga} {W : WX} {a b c : Expr} {φa φb φc : RE} {pos p : Pos} {es : List Expr} {ρ : RA}
theorem own_rd {K : PySem.W.Frag} {hid : Hd} {σ : L2.St} {H : Hp} {δ : DS} {G : Hp} {i : Nat} {ds : List D} (R : Rel K Γ hid σ H δ G) (e : ownL (δ.get i) = some ds) :
    ∃ p vs, At σ i p ∧ Rd H p (.lst vs) ∧ Dts K G vs ds := by
  cases q : δ.get i with
  | none => rw [q] at e; cases e
  | some s =>
    rw [q] at e
    cases s with
    | sh d =>
      cases d with
      | list ds' =>
        cases e
        obtain ⟨v, h1, h2⟩ := R.sl i _ q
        cases h2 with
        | lst h ha => exact ⟨_, _, h1, Same.rd R.sub h, ha⟩
      | _ => cases e
    | ow o => cases o with | lst ds' => cases e; obtain ⟨p, h1, _, _, _, vs, h5, h6⟩ := R.sl i _ q; exact ⟨p, vs, h1, .inl h5, h6⟩
    | io o => cases o with | lst ds' => cases e; obtain ⟨p, h1, _, _, _, vs, h5, h6⟩ := R.sl i _ q; exact ⟨p, vs, h1, .inl h5, h6⟩
def peekLenR (i : Nat) : RE := fun δ _ P => optK (ownL (δ.get i)) fun ds => P (.int ds.length) δ
theorem de_lenO (i : Nat) {x : Str} {xp : Pos} (hm : X.mg "len" = none) (hx : PE X (.Name x xp) (tVar i)) (hg : Gl X "len" := by rfl) (he : starEach (.Name x xp :: []) X.env = (false, eval (.Name x xp) X.env) :: starEach [] X.env := by rfl) (hpl : (backTo pos (starEach [] X.env)).any (·.1) = false := by rfl) :
    DE X Γ W (.Call (.Name "len" p) [.Name x xp] [] pos) (peekLenR i) :=
  de_mk (pe_callB call_len hg hm PySem.boot_len (pa_cons hx pa_nil he) (by decide) (by decide) he hpl) (fun _ _ _ _ _ he hp q => optK_mono (fun _ => hp _ _) q) fun σ H Q hid δ G R q => by
    obtain ⟨ds, e, q⟩ := optK_get q
    obtain ⟨p, vs, at1, h1, h2⟩ := own_rd R e
    exact ⟨.ref p, at1, .ref p, _, rfl, .inl ⟨_, sql_of_rd h1, rfl⟩, by rw [dpa_length h2]; exact q _ H G R (Same.refl _) (.int _)⟩
def peekIxR (i : Nat) (φ : RE) : RE := fun δ E P => optK (ownL (δ.get i)) fun _ => φ δ E fun x δ1 => match x with
  | .int k => optK (ownL (δ1.get i)) fun ds => optK (atI ds k) fun d => P d δ1
  | _ => False
theorem de_ixO (i : Nat) {x : Str} {xp : Pos} (hx : PE X (.Name x xp) (tVar i)) (hb : DE X Γ W b φb) (hs : PlainIx b := by exact fun _ _ => rfl) : DE X Γ W (.Subscript (.Name x xp) b pos) (peekIxR i φb) := by
  refine de_mk (pe_ix ix_list hx hb.run hs) ?_ fun σ H Q hid δ G R q => ?_
  · intro δ E E' P P' he hp q
    refine optK_mono (fun _ q => hb.mono _ _ _ _ _ he (fun x δ1 q1 => ?_) q) q
    cases x <;> first | exact optK_mono (fun _ z => optK_mono (fun _ z => hp _ _ z) z) q1 | exact q1
  · obtain ⟨ds0, e0, q⟩ := optK_get q
    obtain ⟨p, vs, at1, _, _⟩ := own_rd R e0
    refine ⟨.ref p, at1, hb.go R q fun y δ1 w H1 G1 q1 R1 s1 d1 => ?_⟩
    cases d1 with
    | int k =>
      obtain ⟨ds, e1, q2⟩ := optK_get q1
      obtain ⟨d, e2, q2⟩ := optK_get q2
      obtain ⟨p', vs', at', h1, h2⟩ := own_rd R1 e1
      cases at1.inj at'
      obtain ⟨v, ev, dv⟩ := atI_D h2 e2
      exact ⟨p, vs', k, v, rfl, rfl, sql_of_rd h1, ev, q2 v H1 G1 R1 s1 dv⟩
    | _ => exact q1.elim
/-- the own list of slot i leaves: return x -/
def moveN (i : Nat) : RN := fun δ _ P => match δ.get i with
  | some (.ow o) => P o (List.set δ i none)
  | _ => False
theorem dn_move (i : Nat) {x : Str} (hx : PE X (.Name x pos) (tVar i)) : DN X Γ W (.Name x pos) (moveN i) := by
  refine dn_mk hx ?_ fun σ H Q hid δ G R q => ?_
  · intro δ E E' P P' he hp q
    unfold moveN at q ⊢
    cases e : δ.get i with
    | none => rw [e] at q; exact q
    | some s => rw [e] at q; cases s <;> first | exact hp _ _ q | exact q
  · unfold moveN at q
    cases e : δ.get i with
    | none => rw [e] at q; exact q.elim
    | some s =>
      rw [e] at q
      cases s with
      | ow o =>
        obtain ⟨p, at1, hG, h0, hh, hm⟩ := R.sl i _ e
        have gi : DS.get (List.set δ i none) i = none := by rw [DS.get_set]; split <;> first | rfl | (rename_i h; exact absurd ⟨rfl, DS.get_lt e⟩ h)
        have R' : Rel X.K Γ hid σ H (List.set δ i none) G := R.swap (by rw [List.length_set]; exact R.len) [i] (fun j hj => ⟨rfl, by rw [DS.get_set, if_neg (fun z => hj (by rw [z.1]; exact List.mem_singleton_self _))]⟩)
          (fun j hj s e => by rw [List.mem_singleton.mp hj, gi] at e; cases e) (fun j hj o2 e2 => by rw [List.mem_singleton.mp hj, e] at e2; cases e2)
        refine ⟨.ref p, at1, q p H G R' (Same.refl _) ⟨hG, h0, hh, fun j hj a => ?_, hm⟩⟩
        by_cases c : i = j
        · subst c
          obtain ⟨o2, h⟩ := hj
          rw [gi] at h
          rcases h with h | h <;> cases h
        · have oj : Own δ j := by
            obtain ⟨o2, h⟩ := hj
            rw [DS.get_set, if_neg (fun z => c z.1)] at h
            exact ⟨o2, h⟩
          exact c (R.dist i j p ⟨o, .inl e⟩ oj at1 a)
      | _ => exact q.elim
end
/-! ### defs -/
def startD (N : List Str) (ds : List D) : DS := ds.map (fun d => some (.sh d)) ++ List.replicate (N.length - ds.length) none
def retK (P : D → Prop) : Fw → DS → Prop := fun fl _ => match fl with
  | .nx => P .none
  | .rt d => P d
  | .rtO (.lst ds) => P (.list ds)
  | _ => False
theorem get_map_sh : ∀ (ds : List D) (r : DS) (i : Nat) (s : Sl), (∀ j, r.get j = none) → DS.get (ds.map (fun d => some (.sh d)) ++ r) i = some s → ∃ d, ds[i]? = some d ∧ s = .sh d
  | [], r, i, s, hr, h => by rw [List.map_nil, List.nil_append, hr] at h; cases h
  | d :: ds, r, 0, s, hr, h => by cases h; exact ⟨d, rfl, rfl⟩
  | d :: ds, r, i + 1, s, hr, h => get_map_sh ds r i s hr h
theorem get_rep : ∀ (n j : Nat), DS.get (List.replicate n none) j = none
  | 0, j => rfl
  | n + 1, 0 => rfl
  | n + 1, j + 1 => get_rep n j
theorem rel_start {K : PySem.W.Frag} {G H : Hp} {N : List Str} {vs : List V} {ds : List D} (s : Same G H) (hd : Dts K G vs ds) (gd : Good H ∧ GN G) : Rel K ⟨H, G, []⟩ ⟨[], G⟩ (L2.start N vs) H (startD N ds) G := by
  have own : ∀ i, ¬ Own (startD N ds) i := fun i ⟨o, h⟩ => by
    rcases h with h | h
    · obtain ⟨d, _, e⟩ := get_map_sh _ _ _ _ (get_rep _) h
      cases e
    · obtain ⟨d, _, e⟩ := get_map_sh _ _ _ _ (get_rep _) h
      cases e
  refine ⟨s, Same.refl _, fun _ _ => rfl, fun a o h _ _ => h, fun q hq => (by cases hq), ?_, fun i s e => ?_, fun i j p hi => absurd hi (own i), fun q hq => (by cases hq), Same.refl _, ⟨gd.1, gd.2, fun _ h => h, fun _ _ h => h⟩⟩
  · unfold startD L2.start
    rw [List.length_append, List.length_append, List.length_map, List.length_map, List.length_replicate, List.length_replicate, dpa_length hd]
  · obtain ⟨d, e1, rfl⟩ := get_map_sh _ _ _ _ (get_rep _) e
    obtain ⟨v, e2, dv⟩ := dpa_get hd e1
    refine ⟨v, ?_, dv⟩
    unfold L2.start
    have hl : i < vs.length := (List.getElem?_eq_some_iff.mp e2).1
    rw [List.getElem?_append_left (by rw [List.length_map]; exact hl), List.getElem?_map, e2]
    rfl
theorem Rel.grown {K : PySem.W.Frag} {H0 G0 : Hp} {hid : Hd} {σ : L2.St} {H : Hp} {δ : DS} {G : Hp} (R : Rel K ⟨H0, G0, []⟩ hid σ H δ G) : Grow [] H0 G0 H G :=
  ⟨fun a o _ h => R.fr a o h (fun q hq => (by cases hq)), fun a h => R.here h, R.ext, R.sub, R.old, fun _ => R.tb.good, R.tb.own, fun _ => R.tb.gn⟩
section
variable {P : Program} {w : World} {K : PySem.W.Frag} {mg : Str → Option Value} {base : Heap}
theorem read_D {ψ : RB} {N : List Str} {S : SP} {W : WX} (mS : MonoS S) (m : Mono ψ) {vs : List V} {H : Hp} {Q : VK} {E : XK} (h : spD K S vs H Q E) (hW : ∀ cls d σ H, E cls d H → W cls d σ H) (hψ : ∀ ds E P, S ds E P → ψ (startD N ds) (fun x _ => E x) (retK P)) :
    ∃ Γ : Ga, LS K Γ W ψ { nx := fun _ H' => Q .non H', rt := Q } (L2.start N vs) H := by
  obtain ⟨G, ds, s, hd, gd, q⟩ := h
  refine ⟨⟨H, G, []⟩, ⟨[], G⟩, startD N ds, G, rel_start s hd gd, m _ _ _ _ _ (fun x δ h1 cls d σ H1 G1 R1 ex => ?_) (fun fl δ h1 => ?_) (hψ ds _ _ q)⟩
  · exact hW _ _ _ _ (h1 cls d H1 G1 R1.grown ex)
  · cases fl with
    | nx => exact fun σ H1 G1 R1 => h1 _ H1 G1 R1.grown .non
    | bk => exact h1.elim
    | ct => exact h1.elim
    | rt d => exact fun v σ H1 G1 R1 dv => h1 v H1 G1 R1.grown dv
    | rtO o => cases o with
      | lst ds =>
        exact fun p σ H1 G1 R1 n => by
          obtain ⟨G2, R2, s2, d2⟩ := R1.newData n
          exact h1 _ H1 G2 R2.grown d2
/-- THE RULE for a def of plain data -/
theorem fnD {x qual : Str} {st : Stmt} {f : Addr} {fd : FuncData} {N ps : List Str} {k : Nat} {S : SP} (F : Fun K x qual st f fd) (sc : FnScope N ps (defScope st)) (mS : MonoS S) (len : ∀ ds E P, S ds E P → ds.length = ps.length)
    (hbody : ∀ (cdv : Value) (A : Around) (outer : List Env) (s : Shared) (H : Hp) (E : XK), Room k (A.deeper (envOfC qual (defScope st) s.heap.objs.size f cdv)) → ∀ Γ : Ga,
      ∃ ψ, DB (cxOf CX0 P w K mg base N qual (defScope st) f cdv A outer s H E).nox Γ W0 (defBody st) ψ ∧ ∀ ds E P, S ds E P → ψ (startD N ds) E0K (retK P)) : FnOk P w K mg base CX0 (k + 1) f fd ps (spD K S) := by
  refine F.ok sc (fun vs H Q E h => ?_) (fun cdv A outer s H vs Q E hr h => ?_)
  · obtain ⟨G, ds, _, hd, _, q⟩ := h
    rw [dpa_length hd]
    exact len _ _ _ q
  · obtain ⟨G, ds, sG, hd, gd, q⟩ := h
    obtain ⟨ψ, dr, hψ⟩ := hbody cdv A outer s H E hr ⟨H, G, []⟩
    refine ⟨_, dr.run, ⟨[], G⟩, startD N ds, G, rel_start sG hd gd, dr.mono _ _ _ _ _ E0_up (fun fl δ h1 => ?_) (hψ ds _ _ q)⟩
    cases fl with
    | nx => exact fun σ H1 G1 R1 => h1 _ H1 G1 R1.grown .non
    | bk => exact h1.elim
    | ct => exact h1.elim
    | rt d => exact fun v σ H1 G1 R1 dv => h1 v H1 G1 R1.grown dv
    | rtO o => cases o with
      | lst ds =>
        exact fun p σ H1 G1 R1 n => by
          obtain ⟨G2, R2, s2, d2⟩ := R1.newData n
          exact h1 _ H1 G2 R2.grown d2
/-- .. that may raise -/
theorem fnX {x qual : Str} {st : Stmt} {f : Addr} {fd : FuncData} {N ps : List Str} {k : Nat} {S : SP} (F : Fun K x qual st f fd) (sc : FnScope N ps (defScope st)) (mS : MonoS S) (len : ∀ ds E P, S ds E P → ds.length = ps.length)
    (hbody : ∀ (cdv : Value) (A : Around) (outer : List Env) (s : Shared) (H : Hp) (E : XK), Room k (A.deeper (envOfC qual (defScope st) s.heap.objs.size f cdv)) → ∀ Γ : Ga,
      ∃ ψ, DB (cxOf (L2.CX P w) P w K mg base N qual (defScope st) f cdv A outer s H E) Γ (fun cls d _ H => E cls d H) (defBody st) ψ ∧ ∀ ds E P, S ds E P → ψ (startD N ds) (fun x _ => E x) (retK P)) : FnOk P w K mg base (L2.CX P w) (k + 1) f fd ps (spD K S) := by
  refine F.okX sc (fun vs H Q E h => ?_) (fun cdv A outer s H vs Q E hr h => ?_)
  · obtain ⟨G, ds, _, hd, _, q⟩ := h
    rw [dpa_length hd]
    exact len _ _ _ q
  · obtain ⟨G, ds, sG, hd, gd, q⟩ := h
    obtain ⟨ψ, dr, hψ⟩ := hbody cdv A outer s H E hr ⟨H, G, []⟩
    refine ⟨_, dr.run, ⟨[], G⟩, startD N ds, G, rel_start sG hd gd, dr.mono _ _ _ _ _ (fun x δ h1 cls d σ H1 G1 R1 ex => h1 cls d H1 G1 R1.grown ex) (fun fl δ h1 => ?_) (hψ ds _ _ q)⟩
    cases fl with
    | nx => exact fun σ H1 G1 R1 => h1 _ H1 G1 R1.grown .non
    | bk => exact h1.elim
    | ct => exact h1.elim
    | rt d => exact fun v σ H1 G1 R1 dv => h1 v H1 G1 R1.grown dv
    | rtO o => cases o with
      | lst ds =>
        exact fun p σ H1 G1 R1 n => by
          obtain ⟨G2, R2, s2, d2⟩ := R1.newData n
          exact h1 _ H1 G2 R2.grown d2
end
end DL

/-! The top's facts, the end. -/
namespace DL
open PySem PySem.Spec PyProof.Rows L2 NX
variable [TabsC]
def isListO (o : Obj) : Bool := match o.cls with
  | .type c => decide (c = "list")
  | _ => false
def frL (g : Addr → Option Obj) (as : List Addr) : PySem.W.Frag := (He.frG g as).filter fun q => !isListO q.2
theorem mem_frG {g : Addr → Option Obj} {as : List Addr} {a : Addr} {o : Obj} (h : (a, o) ∈ He.frG g as) : g a = some o := by
  unfold He.frG at h
  obtain ⟨b, _, e⟩ := List.mem_filterMap.mp h
  cases hb : g b with
  | none => rw [hb] at e; cases e
  | some u =>
    rw [hb] at e
    have e2 : (b, u) = (a, o) := Option.some.inj e
    injection e2 with e3 e4
    rw [← e3, ← e4]
    exact hb
theorem mem_of_lookup {a : Addr} {o : Obj} : ∀ {l : List (Addr × Obj)}, l.lookup a = some o → (a, o) ∈ l
  | [], h => by cases h
  | (b, u) :: r, h => by
    have h2 : (match a == b with | true => some u | false => r.lookup a) = some o := h
    cases q : (a == b) with
    | true =>
      rw [q] at h2
      have e : u = o := Option.some.inj h2
      rw [beq_iff_eq.mp q, e]
      exact List.mem_cons_self
    | false =>
      rw [q] at h2
      exact List.mem_cons_of_mem _ (mem_of_lookup h2)
theorem frL_in {as : List Addr} {h : Heap} : (frL h.get? as).In h := fun _ _ e => mem_frG (List.mem_filter.mp (mem_of_lookup e)).1
def NoList (K : PySem.W.Frag) : Prop := ∀ a o, K.lookup a = some o → o.cls ≠ .type "list"
theorem frL_no {g : Addr → Option Obj} {as : List Addr} : NoList (frL g as) := fun a o e c => by
  have h : (!isListO o) = true := (List.mem_filter.mp (mem_of_lookup e)).2
  unfold isListO at h
  rw [c] at h
  cases h
theorem NoList.rd {K : PySem.W.Frag} {H : Hp} {a : Addr} {xs : List V} (n : NoList K) (h : SqL K H a xs) : Rd H a (.lst xs) := by
  rcases h with h | ⟨o, its, m, e, c, _⟩
  · exact h
  · exact absurd c (n a o e)
abbrev AlM : Type := He.AlD × Bool
def obsM (fa : List He.Fa) (fn : List He.DefD) (ex : PySem.W.Frag → Bool) (K : PySem.W.Frag) : AlM := (He.obsD fa fn K, ex K)
def obsMG (n : Nat) (fa : List He.Fa) (fn : List He.DefD) (ex : PySem.W.Frag → Bool) (g : Addr → Option Obj) : AlM := obsM fa fn ex (frL g (He.asD g n))
structure SaysM (fa : List He.Fa) (fn : List He.DefD) (ex : PySem.W.Frag → Bool) (K : PySem.W.Frag) : Prop where
  d : He.SaysD fa fn K
  x : ex K = true
  no : NoList K
def hookM (n : Nat) (fa : List He.Fa) (fn : List He.DefD) (ex : PySem.W.Frag → Bool) : PySem.W.Hook where
  α := AlM
  obs := fun s => obsMG n fa fn ex s.heap.get?
  val := fun _ => (He.valD fn, true)
  says := fun _ h => ∃ K : PySem.W.Frag, K.In h ∧ SaysM fa fn ex K
  of := fun _ _ e => ⟨_, frL_in, congrArg (fun z : AlM => z.1) e, congrArg (fun z : AlM => z.2) e, frL_no⟩
  keeps := fun _ _ _ ⟨K, hK, c⟩ k => ⟨K, PySem.W.Frag.In.keeps hK k, c⟩
theorem obsMG_eq {n : Nat} {fa : List He.Fa} {fn : List He.DefD} {ex : PySem.W.Frag → Bool} {g : Addr → Option Obj} {s : Shared} (h : ∀ a, g a = s.heap.get? a) : obsMG n fa fn ex g = (hookM n fa fn ex).obs s := by
  have e : g = s.heap.get? := funext h
  rw [e] <;> rfl
/-- a def as the hand layer's Fun -/
theorem fun_ofD {K : PySem.W.Frag} {x qual : Str} {st : Stmt} {kws : List (Str × V)} {f : Addr} {fd : FuncData} (F : FunD K x qual (defArgs st) (defBody st) (defScope st) [] kws f fd) : Fun K x qual st f fd := by
  obtain ⟨oc, od, dV, kV, doc, pm, an, cdv, ct, osl, rfl, lk, hcd, hD, hK⟩ := F.ex
  rcases hD with ⟨_, rfl⟩ | ⟨e, _⟩
  · exact ⟨⟨oc, od, kV, doc, pm, an, cdv, ct, osl, rfl, lk, hcd⟩, F.kp⟩
  · exact absurd rfl e
def lawS (n : Nat) : SP := fun ds _ P => ∃ ns : List Int, ds = [.list (ns.map PyData.int)] ∧ ns.length ≤ n ∧ (∀ z ∈ ns, Builtin.Int.intBits z ≤ 1048576) ∧ P (.bool true)
theorem dts_ints {K : PySem.W.Frag} {H : Hp} : ∀ ns : List Int, Dts K H (ns.map V.int) (ns.map PyData.int)
  | [] => .nil
  | n :: r => .cons (.int n) (dts_ints r)
theorem good_start {H : Hp} (h : ∀ p ∈ TabsC.T, H p.1 = some (.tbl #[])) (u : ∀ p ∈ TabsC.T, ∀ p' ∈ TabsC.T, p.1 = p'.1 → TabsC.nm p.2 = TabsC.nm p'.2) : Good H := by
  have own : ∀ P q, Owner H P q → (P, q) ∈ TabsC.T := by
    intro P q o
    induction o with
    | top m => exact m
    | sub _ h1 h2 _ ih =>
      have e := h _ ih
      rw [h1] at e
      cases e
      cases h2
  exact ⟨fun P q o => ⟨#[], h _ (own P q o), trivial, fun pos cv z => by cases z⟩, fun P q q' o o' => u _ (own P q o) _ (own P q' o') rfl⟩
/-- what is told of the law's promise at the head's heap h: the defs whose bodies make defs are cs, their code objects and tables -/
structure LawD (P : Program) (w : World) (mg : Str → Option Value) (CX : CXT) (k n : Nat) (x : Str) (fa : Addr) (h : Heap) (TC : TabsC) (K : PySem.W.Frag) (fd : FuncData) (cs : List (Addr × Addr)) : Prop where
  kin : K.In h
  no : NoList K
  bd : ∀ (s : Shared) (u : Value), BindsTo s fd ⟨[u], []⟩ [(x, u)]
  tab : ∀ p ∈ cs, h.get? p.2 = some { cls := .none, data := .fields #[] }
  out : ∀ p ∈ cs, K.lookup p.2 = none
  code : ∀ p ∈ cs, PySem.W.CodeHd h p.1 p.2
  inT : ∀ p ∈ TC.T, p.1 ∈ cs.map (·.2)
  uni : ∀ p ∈ TC.T, ∀ p' ∈ TC.T, p.1 = p'.1 → TC.nm p.2 = TC.nm p'.2
  ok : ∀ base : Heap, K.In base → base.Ns mainGlobals mg → (∀ p ∈ cs, LamX.TabB base mg p.1 p.2) → FnOk P w K mg base CX k fa fd [x] (@spD TC K (lawS n))
omit [TabsC] in
theorem one_obj {H : Hp} {a : Addr} {o : HO} (h : H a = some o) (n : NT o) : Same (upd (fun _ => none) a o) H ∧ GN (upd (fun _ => none) a o) := by
  refine ⟨fun b u e => ?_, fun b u e => ?_⟩
  · by_cases c : b = a
    · rw [c, upd_same] at e; rw [c]; cases e; exact h
    · rw [upd_ne c] at e; cases e
  · by_cases c : b = a
    · rw [c, upd_same] at e; cases e; exact n
    · rw [upd_ne c] at e; cases e
omit [TabsC] in
theorem walk_T {l : PySem.W.OpenLaw} {n k : Nat} {q : Program} {loose : List Str} {XP : (Str → Option Value) → Heap → Prop} {YP : World → Heap → Prop} {d : DefRec} {CX : CXT} {x : Str}
    (hn : l.most = some n) (hn2 : n ≤ sizeLine) (hdf : d.params.defaults = []) (hr : Room k callerA)
    (F : ∀ (w : World) (mg : Str → Option Value) (fa : Addr) (h : Heap), YP w h → h.Ns mainGlobals mg → mg d.name = some (.ref fa) → ∃ (TC : TabsC) (K : PySem.W.Frag) (fd : FuncData) (cs : List (Addr × Addr)), LawD l.prog w mg CX k n x fa h TC K fd cs)
    (hCX : ∀ (H : Hp) (s : Shared) (e : Value) (s' : Shared), CX [] H s (fun _ _ _ => False) e s' → False) :
    PySem.W.WalkO q loose XP YP l.row.toRowW d [] (fun f vs => PySem.call f vs) := by
  refine Att.attach_callB hn hdf fun w s₀ s₁ mg mb fa o pm cd doc a vs ns G Y ho hd hcd hmg hobj hints hlen hbits hg => ?_
  obtain ⟨TC, K, fd, cs, L⟩ := F w mg fa _ Y G.T.g hmg
  refine LamX.law_callTs L.kin G.T.g G.T.b G.T.builtins G.T.nolimit hg L.tab L.out L.code G.T.bmain hobj hints (Nat.le_trans hlen hn2) hr L.ok L.bd (fun H hH hS => ?_) fun H e s' => hCX H s₁ e s'
  have gd : @Good TC H := @good_start TC H (fun p hp => by
    obtain ⟨p', h1, h2⟩ := List.mem_map.mp (L.inT p hp)
    rw [← h2]
    exact hH p' h1) L.uni
  have rd := L.no.rd hS
  obtain ⟨G, sG, gG, rG⟩ : ∃ G : Hp, Same G H ∧ GN G ∧ Rd G a (.lst (ns.map V.int)) := by
    rcases rd with rd | ⟨o, rd⟩
    · exact ⟨_, (one_obj rd fun _ z => by cases z).1, (one_obj rd fun _ z => by cases z).2, .inl upd_same⟩
    · exact ⟨_, (one_obj rd fun _ z => by cases z).1, (one_obj rd fun _ z => by cases z).2, .inr ⟨o, upd_same⟩⟩
  exact ⟨G, [.list (ns.map PyData.int)], sG, .cons (.lst rG (dts_ints ns)) .nil, ⟨gd, gG⟩, ns, rfl, hlen, hbits, fun v H' G' g dv => by cases dv; rfl⟩
omit [TabsC] in
/-- .. without such defs -/
theorem walk_D {l : PySem.W.OpenLaw} {n k : Nat} {q : Program} {loose : List Str} {XP : (Str → Option Value) → Heap → Prop} {YP : World → Heap → Prop} {d : DefRec} {CX : CXT} {x : Str}
    (hn : l.most = some n) (hn2 : n ≤ sizeLine) (hdf : d.params.defaults = []) (hr : Room k callerA)
    (F : ∀ (w : World) (mg : Str → Option Value) (fa : Addr) (h : Heap), YP w h → h.Ns mainGlobals mg → mg d.name = some (.ref fa) →
      ∃ (K : PySem.W.Frag) (fd : FuncData), K.In h ∧ NoList K ∧ (∀ (s : Shared) (u : Value), BindsTo s fd ⟨[u], []⟩ [(x, u)]) ∧
        ∀ base : Heap, K.In base → base.Ns mainGlobals mg → FnOk l.prog w K mg base CX k fa fd [x] (@spD ⟨[], id⟩ K (lawS n)))
    (hCX : ∀ (H : Hp) (s : Shared) (e : Value) (s' : Shared), CX [] H s (fun _ _ _ => False) e s' → False) :
    PySem.W.WalkO q loose XP YP l.row.toRowW d [] (fun f vs => PySem.call f vs) := by
  refine walk_T (x := x) hn hn2 hdf hr (fun w mg fa h Y hm hd => ?_) hCX
  obtain ⟨K, fd, KX, no, hb, hF⟩ := F w mg fa h Y hm hd
  exact ⟨⟨[], id⟩, K, fd, [], KX, no, hb, (fun _ z => nomatch z), (fun _ z => nomatch z), (fun _ z => nomatch z), (fun _ z => nomatch z), (fun _ z => nomatch z), fun base h1 h2 _ => hF base h1 h2⟩
/-- a def that may be called: where it stands, what it promises -/
structure CalD (P : Program) (w : World) (K : PySem.W.Frag) (mg : Str → Option Value) (base : Heap) (CX : CXT) (k : Nat) (x : Str) (ps : List Str) (S : SP) : Prop where
  ex : ∃ (f : Addr) (fd : FuncData), FnOk P w K mg base CX k f fd ps (spD K S) ∧ mg x = some (.ref f) ∧ PySem.W.keepIn K (.ref f) = true ∧ Binds K fd ps [] ∧ ∃ (oc : Value) (od : Option Addr) (osl : Array (Option Value)), K.lookup f = some ⟨oc, od, .func fd, osl⟩
  mono : MonoS S
theorem _root_.L2.Fun.lk {K : PySem.W.Frag} {x qual : Str} {st : Stmt} {f : Addr} {fd : FuncData} (F : Fun K x qual st f fd) : ∃ (oc : Value) (od : Option Addr) (osl : Array (Option Value)), K.lookup f = some ⟨oc, od, .func fd, osl⟩ := by
  obtain ⟨oc, od, _, _, _, _, _, _, osl, _, lk, _⟩ := F.ex
  exact ⟨oc, od, osl, lk⟩
/-- where a def stands -/
structure DefAt (K : PySem.W.Frag) (mg : Str → Option Value) (x : Str) (st : Stmt) (ps : List Str) : Prop where
  ex : ∃ (f : Addr) (fd : FuncData), Fun K x x st f fd ∧ mg x = some (.ref f) ∧ Binds K fd ps []
section
variable {P : Program} {w : World} {K : PySem.W.Frag} {mg : Str → Option Value} {base : Heap}
theorem calD {x : Str} {st : Stmt} {N ps : List Str} {k : Nat} {S : SP} (A : DefAt K mg x st ps) (sc : FnScope N ps (defScope st)) (mS : MonoS S) (len : ∀ ds E P, S ds E P → ds.length = ps.length)
    (hbody : ∀ (f : Addr) (cdv : Value) (A : Around) (outer : List Env) (s : Shared) (H : Hp) (E : XK), Room k (A.deeper (envOfC x (defScope st) s.heap.objs.size f cdv)) → ∀ Γ : Ga,
      ∃ ψ, DB (cxOf CX0 P w K mg base N x (defScope st) f cdv A outer s H E).nox Γ W0 (defBody st) ψ ∧ ∀ ds E P, S ds E P → ψ (startD N ds) E0K (retK P)) : CalD P w K mg base CX0 (k + 1) x ps S := by
  obtain ⟨f, fd, F, hm, hb⟩ := A.ex
  exact ⟨⟨f, fd, fnD F sc mS len (hbody f), hm, F.kp, hb, F.lk⟩, mS⟩
theorem calX {x : Str} {st : Stmt} {N ps : List Str} {k : Nat} {S : SP} (A : DefAt K mg x st ps) (sc : FnScope N ps (defScope st)) (mS : MonoS S) (len : ∀ ds E P, S ds E P → ds.length = ps.length)
    (hbody : ∀ (f : Addr) (cdv : Value) (A : Around) (outer : List Env) (s : Shared) (H : Hp) (E : XK), Room k (A.deeper (envOfC x (defScope st) s.heap.objs.size f cdv)) → ∀ Γ : Ga,
      ∃ ψ, DB (cxOf (L2.CX P w) P w K mg base N x (defScope st) f cdv A outer s H E) Γ (fun cls d _ H => E cls d H) (defBody st) ψ ∧ ∀ ds E P, S ds E P → ψ (startD N ds) (fun x _ => E x) (retK P)) : CalD P w K mg base (L2.CX P w) (k + 1) x ps S := by
  obtain ⟨f, fd, F, hm, hb⟩ := A.ex
  exact ⟨⟨f, fd, fnX F sc mS len (hbody f), hm, F.kp, hb, F.lk⟩, mS⟩
theorem defAt {x : Str} {st : Stmt} {ps : List Str} {f : Addr} {fd : FuncData} {kws : List (Str × V)} (F : FunD K x x (defArgs st) (defBody st) (defScope st) [] kws f fd) (hm : mg x = some (.ref f))
    (h : ∀ (kV doc pm : Value) (an : Option Addr) (cdv ct : Value) (us : List Value), us.length = ps.length → bindArgs (PySem.W.fnOf x x (defArgs st) (defBody st) (defScope st) .none kV doc pm an cdv ct) ⟨us, []⟩ = pure (ps.zip us)) : DefAt K mg x st ps :=
  ⟨f, fd, fun_ofD F, hm, F.bindsN h⟩
end
section
variable {X : Cx} {Γ : Ga} {W : WX} {a : Expr} {es : List Expr} {ρ : RA} {x : Str} {p pos : Pos} {CX : CXT} {k j : Nat} {ps : List Str} {S : SP}
theorem de_cal (c : CalD X.prog X.w X.K X.mg X.base CX k x ps S) (hr : Room j X.A) (hk : k ≤ j) (hx : ∀ σ, PassesAt CX X σ (WE W σ)) (ha : DA X Γ W (a :: es) ρ) (hg : Gl X x := by rfl) (hdb : (x == ("__debug__" : Str)) = false := by decide)
    (he : starEach (a :: es) X.env = (false, eval a X.env) :: starEach es X.env := by rfl) (hpl : (backTo pos (starEach es X.env)).any (·.1) = false := by rfl) : DE X Γ W (.Call (.Name x p) (a :: es) [] pos) (callR S ρ) := by
  obtain ⟨f, fd, F, hm, hk2, hb, _⟩ := c.ex
  exact de_call F c.mono (hr.mono hk) hm hk2 hb hx ha hg hdb he hpl
end
theorem law_fn {P : Program} {w : World} {K : PySem.W.Frag} {mg : Str → Option Value} {base : Heap} {CX : CXT} {k : Nat} {x : Str} {st : Stmt} {ps : List Str} {S : SP} {kws : List (Str × V)} {f : Addr} {fd : FuncData} (F : FunD K x x (defArgs st) (defBody st) (defScope st) [] kws f fd)
    (c : CalD P w K mg base CX k x ps S) (hm : mg x = some (.ref f)) : FnOk P w K mg base CX k f fd ps (spD K S) := by
  obtain ⟨f', fd', F', hm', _, _, oc, od, osl, lk⟩ := c.ex
  have e := hm.symm.trans hm'
  cases e
  obtain ⟨oc2, od2, osl2, lk2⟩ := (fun_ofD F).lk
  rw [lk] at lk2
  cases lk2
  exact F'
/-! ### constants of the top -/
section
variable {K : PySem.W.Frag} {h : Heap} {mg : Str → Option Value}
theorem gloI (X : K.In h) (G : h.Ns mainGlobals mg) {x : Str} {i : Int} (c : (He.Fa.int x i).ok K = true) : ∃ u v, mg x = some u ∧ RelV v u ∧ ∀ G, Dt K G v (.int i) := by
  obtain ⟨t, e⟩ := He.int_ok X G c
  exact ⟨_, .int i, e, ⟨t, rfl⟩, fun _ => .int i⟩
theorem gloS (X : K.In h) (G : h.Ns mainGlobals mg) {x z : Str} (c : (He.Fa.str x z).ok K = true) : ∃ u v, mg x = some u ∧ RelV v u ∧ ∀ G, Dt K G v (.str z) := by
  obtain ⟨t, e⟩ := He.str_ok X G c
  exact ⟨_, .str z, e, ⟨t, rfl⟩, fun _ => .str z⟩
/-- flat things as values -/
def flV : D → Option V
  | .none => some .non
  | .bool b => some (.bl b)
  | .int i => some (.int i)
  | .str x => some (.str x)
  | _ => none
def flVs : List D → Option (List V)
  | [] => some []
  | d :: r => match flV d, flVs r with
    | some v, some vs => some (v :: vs)
    | _, _ => none
/-- the module's name x is a tuple of flat things -/
def tupC (K : PySem.W.Frag) (x : Str) (d : D) : Bool := match d with
  | .tuple ds => (match flVs ds with
    | some vs => (match K.lookup (He.ga K x) with
      | some ⟨.type c, _, .seq its _, _⟩ => decide (c = "tuple") && (decide (its.size ≤ sizeLine) && He.relAll vs its.toList)
      | _ => false)
    | none => false)
  | _ => false
theorem flV_dt {G : Hp} {d : D} {v : V} (h : flV d = some v) : Dt K G v d := by
  cases d <;> first | (cases h; done) | (cases h; first | exact .non | exact .bl _ | exact .int _ | exact .str _)
theorem flVs_dt {G : Hp} : ∀ {ds : List D} {vs : List V}, flVs ds = some vs → Dts K G vs ds
  | [], _, h => by cases h; exact .nil
  | d :: r, vs, h => by
    unfold flVs at h
    cases e1 : flV d with
    | none => rw [e1] at h; cases h
    | some v =>
      cases e2 : flVs r with
      | none => rw [e1, e2] at h; cases h
      | some ws =>
        rw [e1, e2] at h
        cases h
        exact .cons (flV_dt e1) (flVs_dt e2)
theorem gloT (X : K.In h) (G : h.Ns mainGlobals mg) {x : Str} {d : D} (c : (He.Fa.glo x).ok K = true) (t : tupC K x d = true) : ∃ u v, mg x = some u ∧ RelV v u ∧ ∀ G, Dt K G v d := by
  refine ⟨_, .ref (He.ga K x), He.glo_ok X G c, rfl, fun G => ?_⟩
  cases d with
  | tuple ds =>
    have t2 : (match flVs ds with
      | some vs => (match K.lookup (He.ga K x) with
        | some ⟨.type c, _, .seq its _, _⟩ => decide (c = "tuple") && (decide (its.size ≤ sizeLine) && He.relAll vs its.toList)
        | _ => false)
      | none => false) = true := t
    cases e : flVs ds with
    | none => rw [e] at t2; cases t2
    | some vs =>
      rw [e] at t2
      cases q : K.lookup (He.ga K x) with
      | none => rw [q] at t2; cases t2
      | some o =>
        obtain ⟨oc, od, dt, osl⟩ := o
        rw [q] at t2
        cases oc with
        | type c =>
          cases dt with
          | seq its n =>
            obtain ⟨h1, h2⟩ := Bool.and_eq_true_iff.mp (show (decide (c = "tuple") && (decide (its.size ≤ sizeLine) && He.relAll vs its.toList)) = true from t2)
            obtain ⟨h3, h4⟩ := Bool.and_eq_true_iff.mp h2
            exact .tup (.inr ⟨_, its, n, q, congrArg Value.type (of_decide_eq_true h1), rfl, of_decide_eq_true h3, He.relAll_ok h4⟩) (flVs_dt e)
          | _ => cases t2
        | _ => cases dt <;> cases t2
  | _ => cases t
end
end DL

/-! Tests by comparisons, constants of the top, stores of several names, texts. -/
namespace DL
open PySem PySem.Spec PyProof.Rows L2 NX
variable [TabsC]
theorem hu64 {k : Nat} {A : Around} (hr : Room k A) : A.units + 64 < cLine := hr.units
theorem hu65 {k : Nat} {A : Around} (hr : Room k A) : A.units + 65 < cLine := by have := hr.un; omega
/-- a constant of the top -/
def GloD (K : PySem.W.Frag) (mg : Str → Option Value) (x : Str) (d : D) : Prop := ∃ u v, mg x = some u ∧ RelV v u ∧ ∀ G, Dt K G v d
section
variable {X : Cx} {Γ : Ga} {W : WX} {a b c : Expr} {φa φb φc : RE} {pos p : Pos} {es : List Expr} {ρ : RA} {st : Stmt} {sts : List Stmt} {ψ ψ1 ψ2 : RB} {τ : RT}
theorem de_con {x : Str} {d : D} (h : GloD X.K X.mg x d) (hg : Gl X x := by rfl) (hdb : (x == ("__debug__" : Str)) = false := by decide) : DE X Γ W (.Name x pos) (cR d) := by
  obtain ⟨u, v, hm, r, hd⟩ := h
  exact de_glob hm r hd hg hdb
theorem dt_eq (hu : X.A.units + 64 < cLine) (ha : DE X Γ W a φa) (hb : DE X Γ W b φb) : DT X Γ W (.Compare a [.Eq] [b] pos) (valT (opR eqD φa φb)) := dt_cmp (op_eqA hu) eqD_s ha hb (nomark _)
theorem dt_ne (hu : X.A.units + 64 < cLine) (ha : DE X Γ W a φa) (hb : DE X Γ W b φb) : DT X Γ W (.Compare a [.NotEq] [b] pos) (valT (opR neD φa φb)) := dt_cmp (op_neA hu) neD_s ha hb (nomark _)
theorem dt_lt (ha : DE X Γ W a φa) (hb : DE X Γ W b φb) : DT X Γ W (.Compare a [.Lt] [b] pos) (valT (opR ltD φa φb)) := dt_cmp op_ltO ordD_s ha hb (nomark _)
theorem dt_le (ha : DE X Γ W a φa) (hb : DE X Γ W b φb) : DT X Γ W (.Compare a [.LtE] [b] pos) (valT (opR leD φa φb)) := dt_cmp op_leO ordD_s ha hb (nomark _)
theorem dt_gt (ha : DE X Γ W a φa) (hb : DE X Γ W b φb) : DT X Γ W (.Compare a [.Gt] [b] pos) (valT (opR gtD φa φb)) := dt_cmp op_gtO ordD_s ha hb (nomark _)
theorem dt_ge (ha : DE X Γ W a φa) (hb : DE X Γ W b φb) : DT X Γ W (.Compare a [.GtE] [b] pos) (valT (opR geD φa φb)) := dt_cmp op_geO ordD_s ha hb (nomark _)
theorem dt_in (hu : X.A.units + 65 < cLine) (ha : DE X Γ W a φa) (hb : DE X Γ W b φb) (hm : behindInMarks .In b = false := by rfl) : DT X Γ W (.Compare a [.In] [b] pos) (valT (opR (inDD false) φa φb)) := dt_cmp (op_inA hu) inDD_s ha hb hm
theorem dt_notIn (hu : X.A.units + 65 < cLine) (ha : DE X Γ W a φa) (hb : DE X Γ W b φb) (hm : behindInMarks .NotIn b = false := by rfl) : DT X Γ W (.Compare a [.NotIn] [b] pos) (valT (opR (inDD true) φa φb)) := dt_cmp (op_notInA hu) inDD_s ha hb hm
theorem dt_isB (ha : DE X Γ W a φa) (hb : DE X Γ W b φb) : DT X Γ W (.Compare a [.Is] [b] pos) (valT (opR isBD φa φb)) := dt_cmp op_isBl isBD_s ha hb (nomark _)
theorem dt_isN {j p} (ha : DE X Γ W a φa) : DT X Γ W (.Compare a [.Is] [.Constant .none j p] pos) (valT (isNR φa)) :=
  dt_mk (pt_cmp (pc_isN ha.run) rfl) (mono_valT (mono_1 (f := fun x => .bool (isNone x)) ha.mono)) fun σ H Q hid δ G R q => ha.go R q fun d δ1 v H1 G1 q1 R1 s1 d1 => ⟨_, rfl, by rw [dt_none d1]; exact q1 H1 G1 R1 s1⟩
theorem dt_notN {j p} (ha : DE X Γ W a φa) : DT X Γ W (.Compare a [.IsNot] [.Constant .none j p] pos) (valT (notNR φa)) :=
  dt_mk (pt_cmp (pc_notN ha.run) rfl) (mono_valT (mono_1 (f := fun x => .bool (!isNone x)) ha.mono)) fun σ H Q hid δ G R q => ha.go R q fun d δ1 v H1 G1 q1 R1 s1 d1 => ⟨_, rfl, by rw [dt_none d1]; exact q1 H1 G1 R1 s1⟩
theorem dt_chain {op op' : CmpOp} {f g : Int → Int → Bool} {f' g' : List Nat → List Nat → Bool} (o : OpR X (compareOp op) (rOrd f f')) (o' : OpR X (compareOp op') (rOrd g g')) (ha : DE X Γ W a φa) (hb : DE X Γ W b φb) (hc : DE X Γ W c φc)
    (pt : ∀ {r r' : R2} {ta tb tc : TE}, OpR X (compareOp op) r → OpR X (compareOp op') r' → PE X a ta → PE X b tb → PE X c tc → PT X (.Compare a [op, op'] [b, c] pos) (tTest (tChain r r' ta tb tc))) (de : DE X Γ W (.Compare a [op, op'] [b, c] pos) (chainR (ordD f f') (ordD g g') φa φb φc)) :
    DT X Γ W (.Compare a [op, op'] [b, c] pos) (valT (chainR (ordD f f') (ordD g g') φa φb φc)) := by
  refine dt_mk (pt o o' ha.run hb.run hc.run) (mono_valT de.mono) fun σ H Q hid δ G R q => ?_
  refine ha.go R q fun dx δ1 v H1 G1 q1 R1 s1 d1 => hb.go R1 q1 fun dy δ2 u H2 G2 q2 R2 s2 d2 => ?_
  refine (ordD_s (K := X.K)).ok v u dx dy H2 G2 _ _ R2.sub (dp_mono s2 d1) d2 q2 fun t w H3 G3 p gw dd => ?_
  cases dd with
  | bl t =>
    refine ⟨t, rfl, ?_⟩
    have R3 := R2.grow gw
    cases t with
    | true =>
      refine iteT (hc.go (P := fun dz δ3 => ordD g g' dy dz fun d => boolK d fun t => KB X.K Γ hid σ G Q t δ3) R3 p fun dz δ3 z H4 G4 q4 R4 s4 d4 => (ordD_s (K := X.K)).ok u z dy dz H4 G4 _ _ R4.sub (dp_mono (gw.data.trans s4) d2) d4 q4 fun d w2 H5 G5 p5 g5 dd5 => ?_)
      obtain ⟨t, rfl, p6⟩ := dt_bool dd5 p5
      exact ⟨t, rfl, p6 H5 G5 (R4.grow g5) ((((s1.trans s2).trans gw.data).trans s4).trans g5.data)⟩
    | false => exact iteF ⟨false, rfl, p H3 G3 R3 ((s1.trans s2).trans gw.data)⟩
  | _ => exact p.elim
theorem dt_lele (ha : DE X Γ W a φa) (hb : DE X Γ W b φb) (hc : DE X Γ W c φc) (hm : lastMarks [.LtE, .LtE] [b, c] = false := by rfl) : DT X Γ W (.Compare a [.LtE, .LtE] [b, c] pos) (valT (chainR leD leD φa φb φc)) := dt_chain op_leO op_leO ha hb hc (fun o o' ha hb hc => pt_chain o o' ha hb hc hm) (de_lele ha hb hc hm)
theorem dt_lelt (ha : DE X Γ W a φa) (hb : DE X Γ W b φb) (hc : DE X Γ W c φc) (hm : lastMarks [.LtE, .Lt] [b, c] = false := by rfl) : DT X Γ W (.Compare a [.LtE, .Lt] [b, c] pos) (valT (chainR leD ltD φa φb φc)) := dt_chain op_leO op_ltO ha hb hc (fun o o' ha hb hc => pt_chain o o' ha hb hc hm) (de_lelt ha hb hc hm)
theorem dt_ltle (ha : DE X Γ W a φa) (hb : DE X Γ W b φb) (hc : DE X Γ W c φc) (hm : lastMarks [.Lt, .LtE] [b, c] = false := by rfl) : DT X Γ W (.Compare a [.Lt, .LtE] [b, c] pos) (valT (chainR ltD leD φa φb φc)) := dt_chain op_ltO op_leO ha hb hc (fun o o' ha hb hc => pt_chain o o' ha hb hc hm) (de_ltle ha hb hc hm)
theorem dt_ltlt (ha : DE X Γ W a φa) (hb : DE X Γ W b φb) (hc : DE X Γ W c φc) (hm : lastMarks [.Lt, .Lt] [b, c] = false := by rfl) : DT X Γ W (.Compare a [.Lt, .Lt] [b, c] pos) (valT (chainR ltD ltD φa φb φc)) := dt_chain op_ltO op_ltO ha hb hc (fun o o' ha hb hc => pt_chain o o' ha hb hc hm) (de_ltlt ha hb hc hm)
/-- xs[::-1] of a list -/
def revR (φ : RE) : RE := fun δ E P => φ δ E fun x δ1 => match x with
  | .list ds => P (.list ds.reverse) δ1
  | _ => False
theorem de_rev {k : Nat} {p1 p2 p3 : Pos} (ha : DE X Γ W a φa) : DE X Γ W (.Subscript a (.Slice none none (some (.UnaryOp .USub (.Constant (.int 1) k p1) p2)) p3) pos) (revR φa) := by
  refine de_mk (pe_revL ha.run) ?_ fun σ H Q hid δ G R q => ha.go R q fun d δ1 v H1 G1 q1 R1 s1 d1 => ?_
  · intro δ E E' P P' he hp q
    refine ha.mono _ _ _ _ _ he (fun x δ1 q1 => ?_) q
    cases x <;> first | exact hp _ _ q1 | exact q1
  · cases d1 with
    | @lst a1 xs1 ds1 h1 hd =>
      refine ⟨_, _, rfl, sql_of_rd (Same.rd R1.sub h1), fun p np => ?_⟩
      have g := Grow.new (o := .lst xs1.reverse) R1.sub np
      exact q1 _ _ _ (R1.grow g) (s1.trans g.data) (.lst (.inl upd_same) (dpa_rev (dpa_mono g.data hd)))
    | _ => exact q1.elim
/-! ### stores -/
theorem dp_unp {tg : Expr} {vs : List Nat} {γ : RG} (ha : DE X Γ W a φa) (hg : DG X Γ tg vs γ) (hs : swapsWithSole [tg] a pos.line X.env = pure false := by rfl) (hw : swappedStores [tg] a X.env = pure none := by rfl)
    (h1 : (assignEach [tg] X.env).map (·.2) = [assign tg X.env] := by rfl) : DP X Γ W (.Assign [tg] a pos) (unpR γ φa) := dp_asg ha hg hs hw (ps_asg ha.run hg.run hs hw h1)
theorem dgs_c {e : Expr} {vs : List Nat} {γ : RG} {γs : RGs} (h1 : DG X Γ e vs γ) (h2 : DGs X Γ es vs γs) (hs : (assignEach (e :: es) X.env).map (·.2) = assign e X.env :: (assignEach es X.env).map (·.2) := by rfl) : DGs X Γ (e :: es) vs (consG γ γs) :=
  dgs_cons h1 h2 fun a b => pgs_cons a b hs
theorem dg_t {n : Nat} {vs : List Nat} {γs : RGs} {kk : Nat} (h : DGs X Γ es vs γs) (hc : X.calm = true := by rfl) (hn : (assignEach es X.env).length = n := by rfl) (hst : (assignEach es X.env).findIdx? (·.1) = none := by rfl) : DG X Γ (.Tuple es kk pos) vs (tupG n γs) :=
  dg_tup h fun t => pg_tup hc t hn hst
theorem di_r2 {tg : Expr} (hm : X.mg "range" = none) (ha : DE X Γ W a φa) (hb : DE X Γ W b φb) (hg : Gl X "range" := by rfl) (hs : starEach [a, b] X.env = [(false, eval a X.env), (false, eval b X.env)] := by rfl) (hs2 : starEach [b] X.env = [(false, eval b X.env)] := by rfl)
    (hs3 : starEach (a :: [b]) X.env = (false, eval a X.env) :: starEach [b] X.env := by rfl) (hs4 : starEach (b :: []) X.env = (false, eval b X.env) :: starEach [] X.env := by rfl) : DI X Γ W tg (.Call (.Name "range" p) [a, b] [] pos) (range2I φa φb) :=
  di_range2 hm ha hb (fun h => pi_range2 hg hm h hs hs2) hs3 hs4
theorem di_z {elts : List Expr} {kk : Nat} {tpos : Pos} (hm : X.mg "zip" = none) (ha : DE X Γ W a φa) (hb : DE X Γ W b φb) (hg : Gl X "zip" := by rfl) (hs : starEach [a, b] X.env = (false, eval a X.env) :: starEach [b] X.env := by rfl) (hpl : (backTo pos (starEach [b] X.env)).any (·.1) = false := by rfl)
    (hs4 : starEach (b :: []) X.env = (false, eval b X.env) :: starEach [] X.env := by rfl) : DI X Γ W (.Tuple elts kk tpos) (.Call (.Name "zip" p) [a, b] [] pos) (zipI φa φb) :=
  di_zip ha hb (fun h => pi_zip hg hm h hs hpl) hs hs4
def par3R (i j l : Nat) (φ1 φ2 φ3 : RE) : RB := fun δ E P => φ1 δ E fun d δ1 => φ2 δ1 E fun e δ2 => φ3 δ2 E fun f δ3 => setK (δ3.get i) i (.sh d) δ3 fun δ4 => setK (δ4.get j) j (.sh e) δ4 fun δ5 => setK (δ5.get l) l (.sh f) δ5 (P .nx)
theorem dp_par3 (i j l : Nat) {x y z : Str} {px py pz pt : Pos} {kt k2 pt2} (ha : DE X Γ W a φa) (hb : DE X Γ W b φb) (hc : DE X Γ W c φc)
    (ps : ∀ {ta : TA}, PA X [a, b, c] ta → PS X (.Assign [.Tuple [.Name x px, .Name y py, .Name z pz] kt pt] (.Tuple [a, b, c] k2 pt2) pos) (tPar3 i j l ta)) (he1 : starEach (a :: [b, c]) X.env = (false, eval a X.env) :: starEach [b, c] X.env := by rfl) (he2 : starEach (b :: [c]) X.env = (false, eval b X.env) :: starEach [c] X.env := by rfl) (he3 : starEach (c :: []) X.env = (false, eval c X.env) :: starEach [] X.env := by rfl) :
    DP X Γ W (.Assign [.Tuple [.Name x px, .Name y py, .Name z pz] kt pt] (.Tuple [a, b, c] k2 pt2) pos) (par3R i j l φa φb φc) :=
  dp_mk (ps (pa_cons ha.run (pa_cons hb.run (pa_cons hc.run pa_nil he3) he2) he1)) (fun _ _ _ _ _ he hp q => ha.mono _ _ _ _ _ he (fun _ _ z => hb.mono _ _ _ _ _ he (fun _ _ z2 => hc.mono _ _ _ _ _ he (fun _ _ z5 => setK_mono (fun _ z3 => setK_mono (fun _ z4 => setK_mono (fun _ => hp _ _) z4) z3) z5) z2) z) q)
    fun Dn σ H hid δ G R q => ha.go R q fun d δ1 v H1 G1 q1 R1 s1 d1 => hb.go R1 q1 fun e δ2 u H2 G2 q2 R2 s2 d2 => hc.go R2 q2 fun f δ3 w H3 G3 q3 R3 s3 d3 => by
      obtain ⟨n1, q4⟩ := setK_go q3
      obtain ⟨n2, q5⟩ := setK_go q4
      obtain ⟨n3, q6⟩ := setK_go q5
      exact ⟨v, u, w, rfl, q6 _ H3 G3 (((R3.setD' n1 (dp_mono (s2.trans s3) d1)).setD' n2 (dp_mono s3 d2)).setD' n3 d3)⟩
def addIS : OpD := fun x y P => match x, y with
  | .int i, .int j => P (.int (i + j))
  | .str i, .str j => i.length + j.length ≤ sizeLine ∧ P (.str (i ++ j))
  | _, _ => False
def augAddR (i : Nat) (φ : RE) : RB := fun δ E P => match δ.get i with
  | some (.sh x) => φ δ E fun y δ1 => addIS x y fun d => setK (δ1.get i) i (.sh d) δ1 (P .nx)
  | _ => False
theorem dp_augAdd (i : Nat) {x : Str} {pos' : Pos} (hN : X.N.Nodup) (ha : DE X Γ W a φa) (hi : X.N[i]? = some x := by rfl) (hx : Loc X.env.scope x := by first | exact .inl rfl | exact .inr rfl)
    (hf : X.fn x = true ∨ X.env.scope.names.lookup x = some .local := by first | exact .inl rfl | exact .inr rfl) : DP X Γ W (.AugAssign (.Name x pos') .Add a pos) (augAddR i φa) := by
  refine dp_mk (ps_aug (i := i) hN hi hx ha.run (iop_add.or iop_add_str) hf) ?_ fun Dn σ H hid δ G R q => ?_
  · intro δ E E' P P' he hp q
    unfold augAddR at q ⊢
    cases e : δ.get i with
    | none => rw [e] at q; exact q
    | some s =>
      rw [e] at q
      cases s with
      | sh d =>
        refine ha.mono _ _ _ _ _ he (fun y δ1 q1 => ?_) q
        cases d <;> cases y <;> first | exact setK_mono (fun _ => hp _ _) q1 | exact ⟨q1.1, setK_mono (fun _ => hp _ _) q1.2⟩ | exact q1
      | _ => exact q
  · unfold augAddR at q
    cases e : δ.get i with
    | none => rw [e] at q; exact q.elim
    | some s =>
      rw [e] at q
      cases s with
      | sh d =>
        obtain ⟨v, h1, h2⟩ := R.sl i _ e
        refine ⟨v, h1, ha.go R q fun y δ1 u H1 G1 q1 R1 s1 d1 => ?_⟩
        cases h2 with
        | int i' => cases d1 with
          | int j' =>
            obtain ⟨n, q2⟩ := setK_go q1
            exact .inl ⟨i', j', rfl, rfl, q2 _ H1 G1 (R1.setD' n (.int _))⟩
          | _ => exact q1.elim
        | str i' => cases d1 with
          | str j' =>
            obtain ⟨n, q2⟩ := setK_go q1.2
            exact .inr ⟨i', j', rfl, rfl, q1.1, q2 _ H1 G1 (R1.setD' n (.str _))⟩
          | _ => exact q1.elim
        | _ => cases y <;> exact q1.elim
      | _ => exact q.elim
end
end DL

/-! Calls that lend lists; calls that hand back a new list. -/
namespace DL
open PySem PySem.Spec PyProof.Rows L2 NX
variable [TabsC]
/-- arguments; what the value and the lent lists must bear -/
abbrev SPI := List D → (D → List (List D) → Prop) → Prop
def MonoI (S : SPI) : Prop := ∀ ds (P P' : D → List (List D) → Prop), (∀ d l, P d l → P' d l) → S ds P → S ds P'
inductive ArgI (K : PySem.W.Frag) (G H : Hp) : Nat → List (Nat × Addr) → List V → List D → Prop
  | nil {k} : ArgI K G H k [] [] []
  | dat {k par v d vs ds} : Dt K G v d → ArgI K G H (k + 1) par vs ds → ArgI K G H k par (v :: vs) (d :: ds)
  | lent {k par p vc lc vs ds} : G p = none → H p = some (.lst vc) → Dts K G vc lc → ArgI K G H (k + 1) par vs ds → ArgI K G H k ((k, p) :: par) (.ref p :: vs) (.list lc :: ds)
def LOk (K : PySem.W.Frag) (H G : Hp) : List (Nat × Addr) → List (List D) → Prop
  | [], [] => True
  | q :: par, l :: ls => (∃ vc, H q.2 = some (.lst vc) ∧ Dts K G vc l) ∧ LOk K H G par ls
  | _, _ => False
def spI (K : PySem.W.Frag) (js : List Nat) (S : SPI) : Sp := fun vs H Q _ => ∃ G ds par, Same G H ∧ (Good H ∧ GN G) ∧ ArgI K G H 0 par vs ds ∧ par.map (·.1) = js ∧ (par.map (·.2)).Nodup ∧
  S ds fun d ls => ∀ v H' G', Grow (par.map (·.2)) H G H' G' → LOk K H' G' par ls → Dt K G' v d → Q v H'
section
variable {K : PySem.W.Frag} {G H : Hp}
theorem ArgI.len {k : Nat} {par : List (Nat × Addr)} {vs : List V} {ds : List D} (h : ArgI K G H k par vs ds) : vs.length = ds.length := by
  induction h with
  | nil => rfl
  | dat _ _ ih => simp [ih]
  | lent _ _ _ _ ih => simp [ih]
theorem ArgI.lo {k : Nat} {par : List (Nat × Addr)} {vs : List V} {ds : List D} (h : ArgI K G H k par vs ds) : ∀ q ∈ par, k ≤ q.1 := by
  induction h with
  | nil => intro q hq; cases hq
  | dat _ _ ih => intro q hq; have := ih q hq; omega
  | lent _ _ _ _ ih =>
    intro q hq
    rcases List.mem_cons.mp hq with rfl | hq
    · exact Nat.le_refl _
    · have := ih q hq; omega
theorem ArgI.at {k : Nat} {par : List (Nat × Addr)} {vs : List V} {ds : List D} (h : ArgI K G H k par vs ds) : ∀ i d, ds[i]? = some d →
    (∃ p vc lc, (k + i, p) ∈ par ∧ vs[i]? = some (.ref p) ∧ G p = none ∧ H p = some (.lst vc) ∧ Dts K G vc lc ∧ d = .list lc) ∨ ((∀ p, (k + i, p) ∉ par) ∧ ∃ v, vs[i]? = some v ∧ Dt K G v d) := by
  induction h with
  | nil => intro i d e; cases e
  | @dat k par v d0 vs ds hd ht ih =>
    intro i d e
    cases i with
    | zero => cases e; exact .inr ⟨fun p hp => by have h2 := ht.lo _ hp; have h3 : k + 1 ≤ k + 0 := h2; omega, v, rfl, hd⟩
    | succ i =>
      have ih := ih i d e
      rw [show k + 1 + i = k + (i + 1) by omega] at ih
      exact ih
  | @lent k par p vc lc vs ds h1 h2 h3 ht ih =>
    intro i d e
    cases i with
    | zero => cases e; exact .inl ⟨p, vc, lc, List.mem_cons_self, rfl, h1, h2, h3, rfl⟩
    | succ i =>
      have ih := ih i d e
      rw [show k + 1 + i = k + (i + 1) by omega] at ih
      rcases ih with ⟨p', vc', lc', a, b⟩ | ⟨a, b⟩
      · exact .inl ⟨p', vc', lc', List.mem_cons_of_mem _ a, b⟩
      · refine .inr ⟨fun p' hp' => ?_, b⟩
        rcases List.mem_cons.mp hp' with z | z
        · injection z with z1 z2; omega
        · exact a p' z
theorem ArgI.mem {k : Nat} {par : List (Nat × Addr)} {vs : List V} {ds : List D} (h : ArgI K G H k par vs ds) : ∀ q ∈ par, vs[q.1 - k]? = some (.ref q.2) ∧ ∃ lc, ds[q.1 - k]? = some (.list lc) := by
  induction h with
  | nil => intro q hq; cases hq
  | @dat k par v d0 vs ds hd ht ih =>
    intro q hq
    have h1 := ht.lo q hq
    have h2 := ih q hq
    rw [show q.1 - k = (q.1 - (k + 1)) + 1 by omega]
    exact h2
  | @lent k par p vc lc vs ds h1 h2 h3 ht ih =>
    intro q hq
    rcases List.mem_cons.mp hq with rfl | hq
    · rw [Nat.sub_self]; exact ⟨rfl, lc, rfl⟩
    · have h1 := ht.lo q hq
      have h2 := ih q hq
      rw [show q.1 - k = (q.1 - (k + 1)) + 1 by omega]
      exact h2
end
def lentSl : D → Option Sl
  | .list l => some (.io (.lst l))
  | _ => none
def slsI (js : List Nat) : Nat → List D → DS
  | _, [] => []
  | k, d :: ds => (bif js.elem k then lentSl d else some (.sh d)) :: slsI js (k + 1) ds
def startI (js : List Nat) (N : List Str) (ds : List D) : DS := slsI js 0 ds ++ List.replicate (N.length - ds.length) none
theorem slsI_len (js : List Nat) : ∀ (k : Nat) (ds : List D), (slsI js k ds).length = ds.length
  | _, [] => rfl
  | k, d :: ds => by unfold slsI; rw [List.length_cons, slsI_len js (k + 1) ds]; rfl
theorem slsI_get (js : List Nat) (r : DS) (hr : ∀ j, r.get j = none) : ∀ (ds : List D) (k i : Nat) (s : Sl), DS.get (slsI js k ds ++ r) i = some s → ∃ d, ds[i]? = some d ∧ (bif js.elem (k + i) then lentSl d else some (.sh d)) = some s
  | [], k, i, s, h => by
    have h2 : r.get i = some s := h
    rw [hr] at h2; cases h2
  | d :: ds, k, 0, s, h => ⟨d, rfl, h⟩
  | d :: ds, k, i + 1, s, h => by
    obtain ⟨d2, h1, h2⟩ := slsI_get js r hr ds (k + 1) i s h
    exact ⟨d2, h1, by rw [show k + (i + 1) = k + 1 + i by omega]; exact h2⟩
def lentO (δ : DS) : List Nat → Option (List (List D))
  | [] => some []
  | j :: js => match δ.get j with
    | some (.io (.lst l)) => (match lentO δ js with
      | some r => some (l :: r)
      | none => none)
    | _ => none
def retI (js : List Nat) (P : D → List (List D) → Prop) : Fw → DS → Prop := fun fl δ => match fl with
  | .nx => optK (lentO δ js) fun ls => P .none ls
  | .rt d => optK (lentO δ js) fun ls => P d ls
  | .rtO (.lst ds) => optK (lentO δ js) fun ls => P (.list ds) ls
  | _ => False
theorem slsI_at (js : List Nat) (r : DS) : ∀ (ds : List D) (k i : Nat) (d : D), ds[i]? = some d → DS.get (slsI js k ds ++ r) i = bif js.elem (k + i) then lentSl d else some (.sh d)
  | [], k, i, d, h => by cases h
  | d0 :: ds, k, 0, d, h => by cases h; rfl
  | d0 :: ds, k, i + 1, d, h => by
    have := slsI_at js r ds (k + 1) i d h
    rw [show k + (i + 1) = k + 1 + i by omega]
    exact this
theorem elem_iff {js : List Nat} {k : Nat} : js.elem k = true ↔ k ∈ js := by simp
theorem par_uniq {α : Type} : ∀ {par : List (Nat × α)} {j : Nat} {p q : α}, (par.map (·.1)).Nodup → (j, p) ∈ par → (j, q) ∈ par → p = q
  | [], _, _, _, _, h, _ => by cases h
  | (i, r) :: par, j, p, q, nd, h1, h2 => by
    rw [List.map_cons, List.nodup_cons] at nd
    rcases List.mem_cons.mp h1 with a | a
    · rcases List.mem_cons.mp h2 with b | b
      · injection a with a1 a2; injection b with b1 b2; rw [a2, b2]
      · injection a with a1 a2
        exact absurd (by rw [← a1]; exact List.mem_map.mpr ⟨_, b, rfl⟩) nd.1
    · rcases List.mem_cons.mp h2 with b | b
      · injection b with b1 b2
        exact absurd (by rw [← b1]; exact List.mem_map.mpr ⟨_, a, rfl⟩) nd.1
      · exact par_uniq nd.2 a b
theorem par_uniq2 {α β : Type} : ∀ {par : List (α × β)} {i j : α} {p : β}, (par.map (·.2)).Nodup → (i, p) ∈ par → (j, p) ∈ par → i = j
  | [], _, _, _, _, h, _ => by cases h
  | (a0, r) :: par, i, j, p, nd, h1, h2 => by
    rw [List.map_cons, List.nodup_cons] at nd
    rcases List.mem_cons.mp h1 with a | a
    · rcases List.mem_cons.mp h2 with b | b
      · injection a with a1 a2; injection b with b1 b2; rw [a1, b1]
      · injection a with a1 a2
        exact absurd (by rw [← a2]; exact List.mem_map.mpr ⟨_, b, rfl⟩) nd.1
    · rcases List.mem_cons.mp h2 with b | b
      · injection b with b1 b2
        exact absurd (by rw [← b2]; exact List.mem_map.mpr ⟨_, a, rfl⟩) nd.1
      · exact par_uniq2 nd.2 a b
theorem rel_startI {K : PySem.W.Frag} {G H : Hp} {N : List Str} {vs : List V} {ds : List D} {par : List (Nat × Addr)} {js : List Nat} (s : Same G H) (h : ArgI K G H 0 par vs ds) (hj : par.map (·.1) = js) (nd : (par.map (·.2)).Nodup) (gd : Good H ∧ GN G) :
    Rel K ⟨H, G, par⟩ ⟨[], G⟩ (L2.start N vs) H (startI js N ds) G := by
  have at_ : ∀ i v, vs[i]? = some v → (L2.start N vs)[i]? = some (some v) := fun i v e => by
    unfold L2.start
    rw [List.getElem?_append_left (by rw [List.length_map]; exact (List.getElem?_eq_some_iff.mp e).1), List.getElem?_map, e]
    rfl
  have inj : ∀ i p, (i, p) ∈ par → ∃ lc, ds[i]? = some (.list lc) ∧ vs[i]? = some (.ref p) := fun i p hp => by
    obtain ⟨h1, lc, h2⟩ := h.mem _ hp
    exact ⟨lc, h2, h1⟩
  have key : ∀ i s, DS.get (startI js N ds) i = some s → SlOk K ⟨H, G, par⟩ ⟨[], G⟩ (L2.start N vs) H G i s := fun i s e => by
    obtain ⟨d, e1, e2⟩ := slsI_get js _ (get_rep _) ds 0 i s e
    rw [Nat.zero_add] at e2
    rcases h.at i d e1 with ⟨p, vc, lc, h1, h2, h3, h4, h5, rfl⟩ | ⟨h1, v, h2, h3⟩
    · rw [Nat.zero_add] at h1
      have : js.elem i = true := elem_iff.mpr (by rw [← hj]; exact List.mem_map.mpr ⟨_, h1, rfl⟩)
      rw [this] at e2
      cases e2
      exact ⟨p, at_ _ _ h2, h3, h1, fun q hq => (by cases hq), vc, h4, h5⟩
    · have : js.elem i = false := by
        rw [Bool.eq_false_iff]
        intro z
        obtain ⟨q, hq, e⟩ := List.mem_map.mp (by rw [hj]; exact elem_iff.mp z)
        exact h1 q.2 (by rw [Nat.zero_add, ← e]; exact hq)
      rw [this] at e2
      cases e2
      exact ⟨v, at_ _ _ h2, h3⟩
  have own : ∀ i, Own (startI js N ds) i → ∃ p, (i, p) ∈ par ∧ At (L2.start N vs) i p := fun i ⟨o, ho⟩ => by
    rcases ho with ho | ho
    · obtain ⟨d, e1, e2⟩ := slsI_get js _ (get_rep _) ds 0 i _ ho
      cases q : js.elem (0 + i) <;> rw [q] at e2
      · cases e2
      · cases d <;> cases e2
    · obtain ⟨p, h1, h2, h3, _⟩ := key i _ ho
      exact ⟨p, h3, h1⟩
  refine ⟨s, Same.refl _, fun _ _ => rfl, fun a o h _ _ => h, fun q hq => ?_, ?_, key, fun i j p hi hj2 ai aj => ?_, fun q hq => (by cases hq), Same.refl _, ⟨gd.1, gd.2, fun _ h => h, fun _ _ h => h⟩⟩
  · obtain ⟨lc, h1, h2⟩ := inj q.1 q.2 hq
    refine ⟨at_ _ _ h2, ?_, .lst lc, ?_⟩
    · rcases h.at q.1 _ h1 with ⟨p, vc, lc', a1, a2, a3, a4, _⟩ | ⟨a1, _⟩
      · rw [h2] at a2
        cases a2
        exact ne_none_of a4
      · exact absurd hq (by have := a1 q.2; rw [Nat.zero_add] at this; exact this)
    · have e := slsI_at js (List.replicate (N.length - ds.length) none) ds 0 q.1 _ h1
      rw [Nat.zero_add] at e
      have : js.elem q.1 = true := elem_iff.mpr (by rw [← hj]; exact List.mem_map.mpr ⟨_, hq, rfl⟩)
      rw [this] at e
      exact e
  · unfold startI L2.start
    rw [List.length_append, List.length_append, slsI_len, List.length_map, List.length_replicate, List.length_replicate, h.len]
  · obtain ⟨p1, m1, a1⟩ := own i hi
    obtain ⟨p2, m2, a2⟩ := own j hj2
    cases ai.inj a1
    cases aj.inj a2
    exact par_uniq2 nd m1 m2
theorem LOk.lst {K : PySem.W.Frag} {H G : Hp} : ∀ {par : List (Nat × Addr)} {ls : List (List D)}, LOk K H G par ls → ∀ q ∈ par, ∃ vc, H q.2 = some (.lst vc)
  | [], _, _, q, hq => by cases hq
  | p :: par, l :: ls, h, q, hq => by
    rcases List.mem_cons.mp hq with z | z
    · subst z
      obtain ⟨⟨vc, e, _⟩, _⟩ := h
      exact ⟨vc, e⟩
    · exact LOk.lst h.2 q z
theorem Rel.grownI {K : PySem.W.Frag} {H0 G0 : Hp} {par : List (Nat × Addr)} {hid : Hd} {σ : L2.St} {H : Hp} {δ : DS} {G : Hp} (R : Rel K ⟨H0, G0, par⟩ hid σ H δ G) : Grow (par.map (·.2)) H0 G0 H G :=
  ⟨fun a o n h => R.fr a o h (fun q hq z => n (List.mem_map.mpr ⟨q, hq, z⟩)), fun a h => R.here h, R.ext, R.sub, R.old, fun _ => R.tb.good, R.tb.own, fun _ => R.tb.gn⟩
theorem Rel.lentI {K : PySem.W.Frag} {Γ : Ga} {hid : Hd} {σ : L2.St} {H : Hp} {δ : DS} {G : Hp} (R : Rel K Γ hid σ H δ G) : ∀ {par : List (Nat × Addr)} {ls : List (List D)}, (∀ q ∈ par, q ∈ Γ.par) → lentO δ (par.map (·.1)) = some ls → LOk K H G par ls
  | [], ls, _, e => by cases e; trivial
  | q :: par, ls, hm, e => by
    have e2 : (match δ.get q.1 with
      | some (.io (.lst l)) => (match lentO δ (par.map (·.1)) with
        | some r => some (l :: r)
        | none => none)
      | _ => none) = some ls := e
    cases q1 : δ.get q.1 with
    | none => rw [q1] at e2; cases e2
    | some s =>
      rw [q1] at e2
      cases s with
      | sh d => cases e2
      | ow o => cases e2
      | io o =>
        cases o with
        | lst l =>
          cases q2 : lentO δ (par.map (·.1)) with
          | none => rw [q2] at e2; cases e2
          | some r =>
            rw [q2] at e2
            cases e2
            refine ⟨?_, R.lentI (fun q hq => hm q (List.mem_cons_of_mem _ hq)) q2⟩
            obtain ⟨p, h1, h2, h3, h4, vs, h5, h6⟩ := R.sl q.1 _ q1
            have a := (R.prs q (hm q List.mem_cons_self)).1
            cases h1.inj a
            exact ⟨vs, h5, h6⟩
section
variable {P : Program} {w : World} {K : PySem.W.Frag} {mg : Str → Option Value} {base : Heap}
theorem fnI {x qual : Str} {st : Stmt} {f : Addr} {fd : FuncData} {N ps : List Str} {k : Nat} {js : List Nat} {S : SPI} (F : Fun K x qual st f fd) (sc : FnScope N ps (defScope st)) (mS : MonoI S) (len : ∀ ds P, S ds P → ds.length = ps.length)
    (hbody : ∀ (cdv : Value) (A : Around) (outer : List Env) (s : Shared) (H : Hp) (E : XK), Room k (A.deeper (envOfC qual (defScope st) s.heap.objs.size f cdv)) → ∀ Γ : Ga,
      ∃ ψ, DB (cxOf CX0 P w K mg base N qual (defScope st) f cdv A outer s H E).nox Γ W0 (defBody st) ψ ∧ ∀ ds P, S ds P → ψ (startI js N ds) E0K (retI js P)) : FnOk P w K mg base CX0 (k + 1) f fd ps (spI K js S) := by
  refine F.ok sc (fun vs H Q E h => ?_) (fun cdv A outer s H vs Q E hr h => ?_)
  · obtain ⟨G, ds, par, _, _, ha, _, _, q⟩ := h
    rw [ha.len]
    exact len _ _ q
  · obtain ⟨G, ds, par, sG, gd, ha, hj, nd, q⟩ := h
    obtain ⟨ψ, dr, hψ⟩ := hbody cdv A outer s H E hr ⟨H, G, par⟩
    have fin : ∀ {σ : L2.St} {H1 : Hp} {δ : DS} {G1 : Hp} {ls : List (List D)} {hid : Hd}, Rel K ⟨H, G, par⟩ hid σ H1 δ G1 → lentO δ js = some ls → LOk K H1 G1 par ls := fun R e => R.lentI (fun q hq => hq) (by rw [hj]; exact e)
    refine ⟨_, dr.run, ⟨[], G⟩, startI js N ds, G, rel_startI sG ha hj nd gd, dr.mono _ _ _ _ _ E0_up (fun fl δ h1 => ?_) (hψ ds _ q)⟩
    cases fl with
    | nx =>
      obtain ⟨ls, e, h1⟩ := optK_get h1
      exact fun σ H1 G1 R1 => h1 _ H1 G1 R1.grownI (fin R1 e) .non
    | bk => exact h1.elim
    | ct => exact h1.elim
    | rt d =>
      obtain ⟨ls, e, h1⟩ := optK_get h1
      exact fun v σ H1 G1 R1 dv => h1 v H1 G1 R1.grownI (fin R1 e) dv
    | rtO o => cases o with
      | lst ds =>
        obtain ⟨ls, e, h1⟩ := optK_get h1
        exact fun p σ H1 G1 R1 n => by
          obtain ⟨G2, R2, s2, d2⟩ := R1.newData n
          exact h1 _ H1 G2 R2.grownI (fin R2 e) d2
structure CalI (P : Program) (w : World) (K : PySem.W.Frag) (mg : Str → Option Value) (base : Heap) (CX : CXT) (k : Nat) (x : Str) (ps : List Str) (js : List Nat) (S : SPI) : Prop where
  ex : ∃ (f : Addr) (fd : FuncData), FnOk P w K mg base CX k f fd ps (spI K js S) ∧ mg x = some (.ref f) ∧ PySem.W.keepIn K (.ref f) = true ∧ Binds K fd ps []
  mono : MonoI S
theorem calI {x : Str} {st : Stmt} {N ps : List Str} {k : Nat} {js : List Nat} {S : SPI} (A : DefAt K mg x st ps) (sc : FnScope N ps (defScope st)) (mS : MonoI S) (len : ∀ ds P, S ds P → ds.length = ps.length)
    (hbody : ∀ (f : Addr) (cdv : Value) (A : Around) (outer : List Env) (s : Shared) (H : Hp) (E : XK), Room k (A.deeper (envOfC x (defScope st) s.heap.objs.size f cdv)) → ∀ Γ : Ga,
      ∃ ψ, DB (cxOf CX0 P w K mg base N x (defScope st) f cdv A outer s H E).nox Γ W0 (defBody st) ψ ∧ ∀ ds P, S ds P → ψ (startI js N ds) E0K (retI js P)) : CalI P w K mg base CX0 (k + 1) x ps js S := by
  obtain ⟨f, fd, F, hm, hb⟩ := A.ex
  exact ⟨⟨f, fd, fnI F sc mS len (hbody f), hm, F.kp, hb⟩, mS⟩
end
/-! ### the call -/
abbrev RAI := DS → KE → (List (Option D) → DS → Prop) → Prop
/-- arguments: data, lent slots (some i), new lists (none; their addresses fr) -/
inductive AOk (K : PySem.W.Frag) (Γ : Ga) (hid : Hd) (σ : L2.St) (H : Hp) (δ : DS) (G : Hp) : Nat → List (Nat × Addr) → List (Option Nat) → List V → List (Option D) → List Addr → Prop
  | nil {k} : AOk K Γ hid σ H δ G k [] [] [] [] []
  | dat {k par is v d vs ds fr} : Dt K G v d → AOk K Γ hid σ H δ G (k + 1) par is vs ds fr → AOk K Γ hid σ H δ G k par is (v :: vs) (some d :: ds) fr
  | lent {k par is i p vs ds fr} : At σ i p → AOk K Γ hid σ H δ G (k + 1) par is vs ds fr → AOk K Γ hid σ H δ G k ((k, p) :: par) (some i :: is) (.ref p :: vs) (none :: ds) fr
  | fresh {k par is p lc vs ds fr} : New K Γ hid σ H δ G p (.lst lc) → p ∉ fr → AOk K Γ hid σ H δ G (k + 1) par is vs ds fr → AOk K Γ hid σ H δ G k ((k, p) :: par) (none :: is) (.ref p :: vs) (some (.list lc) :: ds) (p :: fr)
theorem New.less {K : PySem.W.Frag} {Γ : Ga} {σ : L2.St} {H : Hp} {δ : DS} {G : Hp} {p : Addr} {o : MO} {q : Addr × HO} {ls : List (Addr × HO)} {gb : Hp} (n : New K Γ ⟨q :: ls, gb⟩ σ H δ G p o) : New K Γ ⟨ls, gb⟩ σ H δ G p o ∧ q.1 ≠ p :=
  ⟨⟨n.g, n.h0, fun z hz => n.hd z (List.mem_cons_of_mem _ hz), n.ow, n.mo⟩, n.hd q List.mem_cons_self⟩
theorem AOk.less {K : PySem.W.Frag} {Γ : Ga} {σ : L2.St} {H : Hp} {δ : DS} {G : Hp} {q : Addr × HO} {ls : List (Addr × HO)} {gb : Hp} {k : Nat} {par : List (Nat × Addr)} {is : List (Option Nat)} {vs : List V} {ds : List (Option D)} {fr : List Addr} (h : AOk K Γ ⟨q :: ls, gb⟩ σ H δ G k par is vs ds fr) :
    AOk K Γ ⟨ls, gb⟩ σ H δ G k par is vs ds fr ∧ q.1 ∉ fr := by
  induction h with
  | nil => exact ⟨.nil, fun z => nomatch z⟩
  | dat h _ ih => exact ⟨.dat h ih.1, ih.2⟩
  | lent h _ ih => exact ⟨.lent h ih.1, ih.2⟩
  | fresh n nf _ ih =>
    refine ⟨.fresh n.less.1 nf ih.1, fun z => ?_⟩
    rcases List.mem_cons.mp z with z | z
    · exact n.less.2 z
    · exact ih.2 z
section
variable {X : Cx} {Γ : Ga} {W : WX} {a : Expr} {es : List Expr} {φa : RE} {ρ : RAI} {x : Str} {p pos : Pos} {CX : CXT} {k j : Nat} {ps : List Str} {S : SPI} {js : List Nat} {is : List (Option Nat)}
def LAI (K : PySem.W.Frag) (Γ : Ga) (W : WX) (k : Nat) (js : List Nat) (is : List (Option Nat)) (ρ : RAI) : TA := fun σ H Q => ∃ hid δ G, Rel K Γ hid σ H δ G ∧ ρ δ (EK K Γ W hid) fun ds δ' => ∀ vs H' G' par fr, Rel K Γ hid σ H' δ' G' → Same G G' → AOk K Γ hid σ H' δ' G' k par is vs ds fr → par.map (·.1) = js → Q vs H'
structure DAI (X : Cx) (Γ : Ga) (W : WX) (k : Nat) (es : List Expr) (js : List Nat) (is : List (Option Nat)) (ρ : RAI) : Prop where
  run : PA X es (LAI X.K Γ W k js is ρ)
  mono : Mono ρ
def nilAI : RAI := fun δ _ P => P [] δ
def consAI (φ : RE) (ρ : RAI) : RAI := fun δ E P => φ δ E fun d δ1 => ρ δ1 E fun ds δ2 => P (some d :: ds) δ2
def lendAI (i : Nat) (ρ : RAI) : RAI := fun δ E P => optK (ownO (δ.get i)) fun _ => ρ δ E fun ds δ2 => P (none :: ds) δ2
def freshAI (φ : RN) (ρ : RAI) : RAI := fun δ E P => φ δ E fun o δ1 => match o with | .lst lc => ρ δ1 E fun ds δ2 => P (some (.list lc) :: ds) δ2
theorem dai_nil : DAI X Γ W k [] [] [] nilAI :=
  ⟨PA.imp pa_nil fun σ H Q ⟨hid, δ, G, R, q⟩ => q [] H G [] [] R (Same.refl _) .nil rfl, fun _ _ _ _ _ _ hp q => hp _ _ q⟩
theorem dai_cons (ha : DE X Γ W a φa) (hr : DAI X Γ W (k + 1) es js is ρ) (hs : starEach (a :: es) X.env = (false, eval a X.env) :: starEach es X.env := by rfl) : DAI X Γ W k (a :: es) js is (consAI φa ρ) :=
  ⟨PA.imp (pa_cons ha.run hr.run hs) fun σ H Q ⟨hid, δ, G, R, q⟩ => ha.go R q fun d δ1 v H1 G1 q1 R1 s1 d1 => ⟨hid, δ1, G1, R1, hr.mono _ _ _ _ _ (fun _ _ z => z) (fun ds δ2 q2 vs H2 G2 par fr R2 s2 ao hj => q2 (v :: vs) H2 G2 par fr R2 (s1.trans s2) (.dat (dp_mono s2 d1) ao) hj) q1⟩,
    fun _ _ _ _ _ he hp q => ha.mono _ _ _ _ _ he (fun _ _ z => hr.mono _ _ _ _ _ he (fun _ _ z2 => hp _ _ z2) z) q⟩
theorem dai_lend (i : Nat) {y : Str} {yp : Pos} (hx : PE X (.Name y yp) (tVar i)) (hr : DAI X Γ W (k + 1) es js is ρ) (hs : starEach (.Name y yp :: es) X.env = (false, eval (.Name y yp) X.env) :: starEach es X.env := by rfl) : DAI X Γ W k (.Name y yp :: es) (k :: js) (some i :: is) (lendAI i ρ) :=
  ⟨PA.imp (pa_cons hx hr.run hs) fun σ H Q ⟨hid, δ, G, R, q⟩ => by
    obtain ⟨l0, e0, q⟩ := optK_get q
    obtain ⟨p, vs, s, _, _, at1, _, _⟩ := own_at R e0
    exact ⟨.ref p, at1, hid, δ, G, R, hr.mono _ _ _ _ _ (fun _ _ z => z) (fun ds δ2 q2 vs H2 G2 par fr R2 s2 ao hj => q2 (.ref p :: vs) H2 G2 ((k, p) :: par) fr R2 s2 (.lent at1 ao) (by rw [List.map_cons, hj])) q⟩,
    fun _ _ _ _ _ he hp q => optK_mono (fun _ q => hr.mono _ _ _ _ _ he (fun _ _ z2 => hp _ _ z2) q) q⟩
theorem EK_pushed {K : PySem.W.Frag} {p : Addr} {u : HO} {ls : List (Addr × HO)} {gb : Hp} : ∀ x δ, EK K Γ W ⟨ls, gb⟩ x δ → EK K Γ W ⟨(p, u) :: ls, gb⟩ x δ := fun x δ h cls d σ H G R e => h cls d σ H G R.pop e
theorem dai_fresh {φ : RN} (ha : DN X Γ W a φ) (hr : DAI X Γ W (k + 1) es js is ρ) (hs : starEach (a :: es) X.env = (false, eval a X.env) :: starEach es X.env := by rfl) : DAI X Γ W k (a :: es) (k :: js) (none :: is) (freshAI φ ρ) :=
  ⟨PA.imp (pa_cons ha.run hr.run hs) fun σ H Q ⟨hid, δ, G, R, q⟩ => ha.go R q fun o δ1 p H1 G1 q1 R1 s1 n1 => by
    cases o with
    | lst lc =>
      obtain ⟨vc, hp, hd⟩ := n1.mo
      have ne : ∀ q ∈ hid.ls, q.1 ≠ p := n1.hd
      exact ⟨⟨(p, .lst vc) :: hid.ls, hid.gb⟩, δ1, G1, R1.push n1 hp, hr.mono _ _ _ _ _ EK_pushed (fun ds δ2 q2 vs H2 G2 par fr R2 s2 ao hj => q2 (.ref p :: vs) H2 G2 ((k, p) :: par) (p :: fr) R2.pop (s1.trans s2) (.fresh (R2.pop_new ne (dpa_mono s2 hd)) ao.less.2 ao.less.1) (by rw [List.map_cons, hj])) q1⟩,
    fun _ _ _ _ _ he hp q => ha.mono _ _ _ _ _ he (fun o _ z => by
      cases o with
      | lst lc => exact hr.mono _ _ _ _ _ he (fun _ _ z2 => hp _ _ z2) z) q⟩
def lentC (δ : DS) : List (Option Nat) → Option (List (List D))
  | [] => some []
  | none :: is => lentC δ is
  | some i :: is => match ownO (δ.get i) with
    | some l => (match lentC δ is with
      | some r => some (l :: r)
      | none => none)
    | none => none
def fillA : List (Option D) → List (List D) → List D
  | none :: r, l :: ls => .list l :: fillA r ls
  | none :: r, [] => .none :: fillA r []
  | some d :: r, ls => d :: fillA r ls
  | [], _ => []
def putL (δ : DS) : List (Option Nat) → List (List D) → DS
  | some i :: is, l :: ls => putL (putO δ i l) is ls
  | none :: is, _ :: ls => putL δ is ls
  | _, _ => δ
theorem lentC_cons {δ : DS} {i : Nat} {is : List (Option Nat)} {ls : List (List D)} (e : lentC δ (some i :: is) = some ls) : ∃ l r, ownO (δ.get i) = some l ∧ lentC δ is = some r ∧ ls = l :: r := by
  have e2 : (match ownO (δ.get i) with
    | some l => (match lentC δ is with
      | some r => some (l :: r)
      | none => none)
    | none => none) = some ls := e
  cases q1 : ownO (δ.get i) with
  | none => rw [q1] at e2; cases e2
  | some l =>
    cases q2 : lentC δ is with
    | none => rw [q1, q2] at e2; cases e2
    | some r => rw [q1, q2] at e2; cases e2; exact ⟨l, r, rfl, rfl, rfl⟩
theorem own_g {K : PySem.W.Frag} {hid : Hd} {σ : L2.St} {H : Hp} {δ : DS} {G : Hp} {i : Nat} {ds : List D} (R : Rel K Γ hid σ H δ G) (e : ownO (δ.get i) = some ds) : Own δ i ∧ ∃ p vs, At σ i p ∧ G p = none ∧ H p = some (.lst vs) ∧ Dts K G vs ds := by
  cases q : δ.get i with
  | none => rw [q] at e; cases e
  | some s =>
    rw [q] at e
    cases s with
    | sh d => cases e
    | ow o => cases o with | lst ds' => cases e; obtain ⟨p, h1, h2, _, _, vs, h5, h6⟩ := R.sl i _ q; exact ⟨⟨_, .inl q⟩, p, vs, h1, h2, h5, h6⟩
    | io o => cases o with | lst ds' => cases e; obtain ⟨p, h1, h2, _, _, vs, h5, h6⟩ := R.sl i _ q; exact ⟨⟨_, .inr q⟩, p, vs, h1, h2, h5, h6⟩
theorem AOk.args {K : PySem.W.Frag} {hid : Hd} {σ : L2.St} {H : Hp} {δ : DS} {G : Hp} (R : Rel K Γ hid σ H δ G) {k : Nat} {par : List (Nat × Addr)} {is : List (Option Nat)} {vs : List V} {ds : List (Option D)} {fr : List Addr} (h : AOk K Γ hid σ H δ G k par is vs ds fr) :
    ∀ ls, lentC δ is = some ls → ArgI K G H k par vs (fillA ds ls) := by
  induction h with
  | nil => intro ls _; exact .nil
  | dat h _ ih => intro ls e; exact .dat h (ih ls e)
  | lent h _ ih =>
    intro ls e
    obtain ⟨l, r, e1, e2, rfl⟩ := lentC_cons e
    obtain ⟨_, p, vs, a, b, c, d⟩ := own_g R e1
    cases h.inj a
    exact .lent b c d (ih r e2)
  | fresh n _ _ ih =>
    intro ls e
    obtain ⟨vc, h1, h2⟩ := n.mo
    exact .lent n.g h1 h2 (ih ls e)
theorem AOk.slots {K : PySem.W.Frag} {hid : Hd} {σ : L2.St} {H : Hp} {δ : DS} {G : Hp} {k : Nat} {par : List (Nat × Addr)} {is : List (Option Nat)} {vs : List V} {ds : List (Option D)} {fr : List Addr} (h : AOk K Γ hid σ H δ G k par is vs ds fr) : ∀ q ∈ par, (∃ i, some i ∈ is ∧ At σ i q.2) ∨ q.2 ∈ fr := by
  induction h with
  | nil => intro q hq; cases hq
  | dat h _ ih => exact ih
  | @lent k par is i p vs ds fr h _ ih =>
    intro q hq
    rcases List.mem_cons.mp hq with rfl | hq
    · exact .inl ⟨i, List.mem_cons_self, h⟩
    · rcases ih q hq with ⟨j, a, b⟩ | a
      · exact .inl ⟨j, List.mem_cons_of_mem _ a, b⟩
      · exact .inr a
  | @fresh k par is p lc vs ds fr n nf _ ih =>
    intro q hq
    rcases List.mem_cons.mp hq with rfl | hq
    · exact .inr List.mem_cons_self
    · rcases ih q hq with ⟨j, a, b⟩ | a
      · exact .inl ⟨j, List.mem_cons_of_mem _ a, b⟩
      · exact .inr (List.mem_cons_of_mem _ a)
theorem AOk.news {K : PySem.W.Frag} {hid : Hd} {σ : L2.St} {H : Hp} {δ : DS} {G : Hp} {k : Nat} {par : List (Nat × Addr)} {is : List (Option Nat)} {vs : List V} {ds : List (Option D)} {fr : List Addr} (h : AOk K Γ hid σ H δ G k par is vs ds fr) : ∀ p ∈ fr, ∃ o, New K Γ hid σ H δ G p o := by
  induction h with
  | nil => intro q hq; cases hq
  | dat h _ ih => exact ih
  | lent h _ ih => exact ih
  | fresh n _ _ ih =>
    intro q hq
    rcases List.mem_cons.mp hq with rfl | hq
    · exact ⟨_, n⟩
    · exact ih q hq
theorem lentC_own {δ : DS} : ∀ {is : List (Option Nat)} {ls : List (List D)}, lentC δ is = some ls → ∀ i, some i ∈ is → ∃ l, ownO (δ.get i) = some l
  | [], _, _, i, h => by cases h
  | none :: is, ls, e, i, h => by
    rcases List.mem_cons.mp h with h | h
    · cases h
    · exact lentC_own (is := is) e i h
  | some j :: is, ls, e, i, h => by
    obtain ⟨l, r, e1, e2, rfl⟩ := lentC_cons e
    rcases List.mem_cons.mp h with h | h
    · cases h; exact ⟨l, e1⟩
    · exact lentC_own e2 i h
theorem some_mem {is : List (Option Nat)} {i : Nat} : some i ∈ is ↔ i ∈ is.filterMap id := by
  rw [List.mem_filterMap]
  exact ⟨fun h => ⟨_, h, rfl⟩, fun ⟨a, h, e⟩ => by have e : a = some i := e; rw [← e]; exact h⟩
theorem AOk.nodup {K : PySem.W.Frag} {hid : Hd} {σ : L2.St} {H : Hp} {δ : DS} {G : Hp} (R : Rel K Γ hid σ H δ G) {k : Nat} {par : List (Nat × Addr)} {is : List (Option Nat)} {vs : List V} {ds : List (Option D)} {fr : List Addr} (h : AOk K Γ hid σ H δ G k par is vs ds fr) :
    (is.filterMap id).Nodup → ∀ ls, lentC δ is = some ls → (par.map (·.2)).Nodup := by
  induction h with
  | nil => intro _ _ _; exact List.nodup_nil
  | dat h _ ih => exact ih
  | @lent k par is i p vs ds fr h ht ih =>
    intro nd ls e
    have nd : (i :: is.filterMap id).Nodup := nd
    rw [List.nodup_cons] at nd
    obtain ⟨l, r, e1, e2, rfl⟩ := lentC_cons e
    rw [List.map_cons, List.nodup_cons]
    refine ⟨fun z => ?_, ih nd.2 r e2⟩
    obtain ⟨q, hq, eq⟩ := List.mem_map.mp z
    have eq : q.2 = p := eq
    rcases ht.slots q hq with ⟨j, hj, aj⟩ | hf
    · obtain ⟨l2, e3⟩ := lentC_own e2 j hj
      have := R.dist i j p (own_g R e1).1 (own_g R e3).1 h (by rw [← eq]; exact aj)
      exact nd.1 (this ▸ some_mem.mp hj)
    · obtain ⟨o, n⟩ := ht.news q.2 hf
      exact n.ow i (own_g R e1).1 (by rw [eq]; exact h)
  | @fresh k par is p lc vs ds fr n nf ht ih =>
    intro nd ls e
    rw [List.map_cons, List.nodup_cons]
    refine ⟨fun z => ?_, ih nd ls e⟩
    obtain ⟨q, hq, eq⟩ := List.mem_map.mp z
    have eq : q.2 = p := eq
    rcases ht.slots q hq with ⟨j, hj, aj⟩ | hf
    · obtain ⟨l2, e3⟩ := lentC_own (is := is) e j hj
      exact n.ow j (own_g R e3).1 (by rw [← eq]; exact aj)
    · exact nf (eq ▸ hf)
theorem put_get {δ : DS} {i j : Nat} {l : List D} (h : i ≠ j) : (putO δ i l).get j = δ.get j := by
  unfold putO
  cases δ.get i with
  | none => rfl
  | some s => show DS.get (List.set δ i _) j = _; rw [DS.get_set, if_neg (fun z => h z.1)]
theorem lentC_put {δ : DS} {i : Nat} {l : List D} : ∀ {is : List (Option Nat)}, i ∉ is.filterMap id → lentC (putO δ i l) is = lentC δ is
  | [], _ => rfl
  | none :: is, h => lentC_put (is := is) h
  | some j :: is, h => by
    have h : i ∉ j :: is.filterMap id := h
    have e : i ≠ j := fun z => h (by rw [z]; exact List.mem_cons_self)
    unfold lentC
    rw [put_get e, lentC_put (is := is) (fun z => h (List.mem_cons_of_mem _ z))]
theorem own_putO {δ : DS} {i j : Nat} {l l0 : List D} (e : ownO (δ.get i) = some l0) (h : Own (putO δ i l) j) : Own δ j := by
  by_cases c : i = j
  · subst c
    cases q : δ.get i with
    | none => rw [q] at e; cases e
    | some s =>
      rw [q] at e
      cases s with
      | sh d => cases e
      | ow o => exact ⟨o, .inl q⟩
      | io o => exact ⟨o, .inr q⟩
  · obtain ⟨o, h⟩ := h
    rw [put_get c] at h
    exact ⟨o, h⟩
theorem AOk.put {K : PySem.W.Frag} {hid : Hd} {σ : L2.St} {H0 H' G0 G' : Hp} {δ0 : DS} {k : Nat} {par : List (Nat × Addr)} {is : List (Option Nat)} {vs : List V} {ds : List (Option D)} {fr : List Addr} (h : AOk K Γ hid σ H0 δ0 G0 k par is vs ds fr) :
    (is.filterMap id).Nodup → ∀ (Hx : Hp) (δx : DS) (ls0 ls : List (List D)), Rel K Γ hid σ Hx δx G' → (∀ p ∈ fr, ∃ o, New K Γ hid σ Hx δx G' p o) → lentC δx is = some ls0 → LOk K H' G' par ls → (∀ a, a ∉ par.map (·.2) → Hx a = H' a) → Rel K Γ hid σ H' (putL δx is ls) G' := by
  induction h with
  | nil =>
    intro _ Hx δx ls0 ls R _ _ _ he
    have e : Hx = H' := funext fun a => he a (by simp)
    rw [← e]
    cases ls <;> exact R
  | dat h _ ih => exact ih
  | @lent k par is i p vs ds fr h ht ih =>
    intro nd Hx δx ls0 ls R nw e lo he
    have nd : (i :: is.filterMap id).Nodup := nd
    rw [List.nodup_cons] at nd
    obtain ⟨l, r, e1, e2, rfl⟩ := lentC_cons e
    cases ls with
    | nil => exact lo.elim
    | cons l' ls =>
      obtain ⟨⟨vc, h1, h2⟩, lo⟩ := lo
      refine ih nd.2 (upd Hx p (.lst vc)) (putO δx i l') r ls (own_put R e1 h h2) (fun p' hp' => ?_) (by rw [lentC_put nd.1]; exact e2) lo fun a ha => ?_
      · obtain ⟨o, n⟩ := nw p' hp'
        have ne : p' ≠ p := fun z => n.ow i (own_g R e1).1 (z ▸ h)
        exact ⟨o, n.g, n.h0, n.hd, fun j hj => n.ow j (own_putO e1 hj), n.mo.mono (Same.refl _) fun _ z => by rw [upd_ne ne]; exact z⟩
      · by_cases c : a = p
        · subst c; rw [upd_same]; exact h1.symm
        · rw [upd_ne c]
          refine he a fun z => ?_
          rcases List.mem_cons.mp (by rw [List.map_cons] at z; exact z) with z | z
          · exact c z
          · exact ha z
  | @fresh k par is p lc vs ds fr _ nf ht ih =>
    intro nd Hx δx ls0 ls R nw e lo he
    cases ls with
    | nil => exact lo.elim
    | cons l' ls =>
      obtain ⟨⟨vc, h1, h2⟩, lo⟩ := lo
      obtain ⟨o, n⟩ := nw p List.mem_cons_self
      obtain ⟨xs, hx⟩ := n.mo.lst
      have R2 : Rel K Γ hid σ (upd Hx p (.lst vc)) δx G' := ((R.push n hx).hset (fun q hq => n.hd q hq)).pop
      refine ih nd (upd Hx p (.lst vc)) δx ls0 ls R2 (fun p' hp' => ?_) e lo fun a ha => ?_
      · obtain ⟨o', n'⟩ := nw p' (List.mem_cons_of_mem _ hp')
        have ne : p' ≠ p := fun z => nf (z ▸ hp')
        exact ⟨o', n'.g, n'.h0, n'.hd, n'.ow, n'.mo.mono (Same.refl _) fun _ z => by rw [upd_ne ne]; exact z⟩
      · by_cases c : a = p
        · subst c; rw [upd_same]; exact h1.symm
        · rw [upd_ne c]
          refine he a fun z => ?_
          rcases List.mem_cons.mp (by rw [List.map_cons] at z; exact z) with z | z
          · exact c z
          · exact ha z
def callIR (S : SPI) (is : List (Option Nat)) (ρ : RAI) : RE := fun δ E P => ρ δ E fun ds δ1 => optK (lentC δ1 is) fun ls => S (fillA ds ls) fun d ls' => P d (putL δ1 is ls')
theorem Rel.growL {K : PySem.W.Frag} {hid : Hd} {σ : L2.St} {H : Hp} {δ : DS} {G H' G' : Hp} {k : Nat} {par : List (Nat × Addr)} {is : List (Option Nat)} {vs : List V} {ds : List (Option D)} {fr : List Addr} {ls0 ls : List (List D)} (R : Rel K Γ hid σ H δ G) (h : AOk K Γ hid σ H δ G k par is vs ds fr) (nd : (is.filterMap id).Nodup)
    (e : lentC δ is = some ls0) (g : Grow (par.map (·.2)) H G H' G') (lo : LOk K H' G' par ls) : Rel K Γ hid σ H' (putL δ is ls) G' := by
  have hp : ∀ q ∈ par, H q.2 ≠ none ∧ G q.2 = none := fun q hq => by
    rcases h.slots q hq with ⟨i, hi, a⟩ | hf
    · obtain ⟨l, e1⟩ := lentC_own e i hi
      obtain ⟨_, p, vs, a2, b, c, _⟩ := own_g R e1
      cases a.inj a2
      exact ⟨ne_none_of c, b⟩
    · obtain ⟨o, n⟩ := h.news _ hf
      exact ⟨n.mo.here, n.g⟩
  let Hm : Hp := fun a => if a ∈ par.map (·.2) then H a else H' a
  have gm : Grow [] H G Hm G' := by
    have calm : Calm H' Hm := fun b o e k => by
      show (if b ∈ par.map (·.2) then H b else H' b) = some o
      split
      · rename_i hm
        obtain ⟨q, hq, rfl⟩ := List.mem_map.mp hm
        obtain ⟨vc, e3⟩ := lo.lst q hq
        rw [e3] at e
        cases e
        rcases k with ⟨_, z⟩ | ⟨_, z⟩ <;> cases z
      · exact e
    refine ⟨fun a o _ h1 nt => ?_, fun a h1 => ?_, g.data, fun a o h1 => ?_, g.old, fun gd => calm.good (g.good gd), fun P q o => calm.owner (g.own P q o), g.gn⟩
    · show (if a ∈ par.map (·.2) then H a else H' a) = some o
      split
      · exact h1
      · exact g.same a o (by assumption) h1 nt
    · show (if a ∈ par.map (·.2) then H a else H' a) ≠ none
      split
      · exact h1
      · exact g.here a h1
    · show (if a ∈ par.map (·.2) then H a else H' a) = some o
      split
      · rename_i hm
        obtain ⟨q, hq, rfl⟩ := List.mem_map.mp hm
        obtain ⟨a1, a2⟩ := hp q hq
        rw [g.old _ a1, a2] at h1
        cases h1
      · exact g.sub a o h1
  refine h.put nd Hm δ ls0 ls (R.grow gm) (fun p hpf => ?_) e lo fun a ha => ?_
  · obtain ⟨o, n⟩ := h.news p hpf
    refine ⟨o, (g.old p n.mo.here).trans n.g, n.h0, n.hd, n.ow, n.mo.mono g.data fun xs z => ?_⟩
    exact gm.same p _ (by simp) z nt_lst
  · show (if a ∈ par.map (·.2) then H a else H' a) = H' a
    rw [if_neg ha]
theorem de_calI (c : CalI X.prog X.w X.K X.mg X.base CX k x ps js S) (hr : Room j X.A) (hk : k ≤ j) (hx : ∀ σ, PassesAt CX X σ (WE W σ)) (ha : DAI X Γ W 0 (a :: es) js is ρ) (nd : (is.filterMap id).Nodup := by decide) (hg : Gl X x := by rfl) (hdb : (x == ("__debug__" : Str)) = false := by decide)
    (he : starEach (a :: es) X.env = (false, eval a X.env) :: starEach es X.env := by rfl) (hpl : (backTo pos (starEach es X.env)).any (·.1) = false := by rfl) : DE X Γ W (.Call (.Name x p) (a :: es) [] pos) (callIR S is ρ) := by
  obtain ⟨f, fd, F, hm, hk2, hb⟩ := c.ex
  refine de_mk (pe_callS F (hr.mono hk) hg hm hk2 hb hx ha.run hdb he hpl) (fun _ _ _ _ _ he hp q => ha.mono _ _ _ _ _ he (fun _ _ z => optK_mono (fun _ z => c.mono _ _ _ (fun _ _ => hp _ _) z) z) q) fun σ H Q hid δ G R q => ?_
  refine ⟨hid, δ, G, R, ha.mono _ _ _ _ _ (fun _ _ z => z) (fun ds δ1 q1 vs H1 G1 par fr R1 s1 ao hj => ?_) q⟩
  obtain ⟨ls, e, q1⟩ := optK_get q1
  exact ⟨G1, fillA ds ls, par, R1.sub, R1.tb.gg, ao.args R1 ls e, hj, ao.nodup R1 nd ls e, c.mono _ _ _ (fun d ls' h1 v H2 G2 g lo dd => h1 v H2 G2 (R1.growL ao nd e g lo) (s1.trans g.data) dd) q1⟩
end
/-! ### a call that hands back a new list -/
abbrev SPN := List D → (List D → Prop) → Prop
def MonoN (S : SPN) : Prop := ∀ ds (P P' : List D → Prop), (∀ l, P l → P' l) → S ds P → S ds P'
def spN (K : PySem.W.Frag) (S : SPN) : Sp := fun vs H Q _ => ∃ G ds, Same G H ∧ Dts K G vs ds ∧ (Good H ∧ GN G) ∧ S ds fun l => ∀ p vl H' G', Grow [] H G H' G' → H p = none → G' p = none → H' p = some (.lst vl) → Dts K G' vl l → Q (.ref p) H'
def retN (P : List D → Prop) : Fw → DS → Prop := fun fl _ => match fl with
  | .rtO (.lst ds) => P ds
  | _ => False
section
variable {P : Program} {w : World} {K : PySem.W.Frag} {mg : Str → Option Value} {base : Heap}
theorem fnN {x qual : Str} {st : Stmt} {f : Addr} {fd : FuncData} {N ps : List Str} {k : Nat} {S : SPN} (F : Fun K x qual st f fd) (sc : FnScope N ps (defScope st)) (mS : MonoN S) (len : ∀ ds P, S ds P → ds.length = ps.length)
    (hbody : ∀ (cdv : Value) (A : Around) (outer : List Env) (s : Shared) (H : Hp) (E : XK), Room k (A.deeper (envOfC qual (defScope st) s.heap.objs.size f cdv)) → ∀ Γ : Ga,
      ∃ ψ, DB (cxOf CX0 P w K mg base N qual (defScope st) f cdv A outer s H E).nox Γ W0 (defBody st) ψ ∧ ∀ ds P, S ds P → ψ (startD N ds) E0K (retN P)) : FnOk P w K mg base CX0 (k + 1) f fd ps (spN K S) := by
  refine F.ok sc (fun vs H Q E h => ?_) (fun cdv A outer s H vs Q E hr h => ?_)
  · obtain ⟨G, ds, _, hd, _, q⟩ := h
    rw [dpa_length hd]
    exact len _ _ q
  · obtain ⟨G, ds, sG, hd, gd, q⟩ := h
    obtain ⟨ψ, dr, hψ⟩ := hbody cdv A outer s H E hr ⟨H, G, []⟩
    refine ⟨_, dr.run, ⟨[], G⟩, startD N ds, G, rel_start sG hd gd, dr.mono _ _ _ _ _ E0_up (fun fl δ h1 => ?_) (hψ ds _ q)⟩
    cases fl with
    | rtO o => cases o with
      | lst ds =>
        exact fun p σ H1 G1 R1 n => by
          obtain ⟨vs, h2, h3⟩ := n.mo
          exact h1 p vs H1 G1 R1.grown n.h0 n.g h2 h3
    | _ => exact h1.elim
structure CalN (P : Program) (w : World) (K : PySem.W.Frag) (mg : Str → Option Value) (base : Heap) (CX : CXT) (k : Nat) (x : Str) (ps : List Str) (S : SPN) : Prop where
  ex : ∃ (f : Addr) (fd : FuncData), FnOk P w K mg base CX k f fd ps (spN K S) ∧ mg x = some (.ref f) ∧ PySem.W.keepIn K (.ref f) = true ∧ Binds K fd ps []
  mono : MonoN S
theorem calN {x : Str} {st : Stmt} {N ps : List Str} {k : Nat} {S : SPN} (A : DefAt K mg x st ps) (sc : FnScope N ps (defScope st)) (mS : MonoN S) (len : ∀ ds P, S ds P → ds.length = ps.length)
    (hbody : ∀ (f : Addr) (cdv : Value) (A : Around) (outer : List Env) (s : Shared) (H : Hp) (E : XK), Room k (A.deeper (envOfC x (defScope st) s.heap.objs.size f cdv)) → ∀ Γ : Ga,
      ∃ ψ, DB (cxOf CX0 P w K mg base N x (defScope st) f cdv A outer s H E).nox Γ W0 (defBody st) ψ ∧ ∀ ds P, S ds P → ψ (startD N ds) E0K (retN P)) : CalN P w K mg base CX0 (k + 1) x ps S := by
  obtain ⟨f, fd, F, hm, hb⟩ := A.ex
  exact ⟨⟨f, fd, fnN F sc mS len (hbody f), hm, F.kp, hb⟩, mS⟩
end
section
variable {X : Cx} {Γ : Ga} {W : WX} {a : Expr} {es : List Expr} {ρ : RA} {x : Str} {p pos : Pos} {CX : CXT} {k j : Nat} {ps : List Str} {S : SPN}
def callNR (S : SPN) (ρ : RA) : RN := fun δ E P => ρ δ E fun ds δ1 => S ds fun l => P (.lst l) δ1
theorem dn_cal (c : CalN X.prog X.w X.K X.mg X.base CX k x ps S) (hr : Room j X.A) (hk : k ≤ j) (hx : ∀ σ, PassesAt CX X σ (WE W σ)) (ha : DA X Γ W (a :: es) ρ) (hg : Gl X x := by rfl) (hdb : (x == ("__debug__" : Str)) = false := by decide)
    (he : starEach (a :: es) X.env = (false, eval a X.env) :: starEach es X.env := by rfl) (hpl : (backTo pos (starEach es X.env)).any (·.1) = false := by rfl) : DN X Γ W (.Call (.Name x p) (a :: es) [] pos) (callNR S ρ) := by
  obtain ⟨f, fd, F, hm, hk2, hb⟩ := c.ex
  refine dn_mk (pe_callS F (hr.mono hk) hg hm hk2 hb hx ha.run hdb he hpl) (fun _ _ _ _ _ he hp q => ha.mono _ _ _ _ _ he (fun _ _ z => c.mono _ _ _ (fun _ => hp _ _) z) q) fun σ H Q hid δ G R q => ?_
  refine ha.go R q fun ds δ1 vs H1 G1 q1 R1 s1 d1 => ⟨G1, ds, R1.sub, d1, R1.tb.gg, c.mono _ _ _ (fun l h1 p vl H2 G2 g np n2 hp hv => ?_) q1⟩
  refine h1 p H2 G2 (R1.grow g) (s1.trans g.data) ⟨n2, ?_, fun q hq z => ?_, fun i ⟨o, ho⟩ ai => ?_, vl, hp, hv⟩
  · cases e : Γ.H0 p with
    | none => rfl
    | some u => exact absurd np (R1.here (by rw [e]; exact fun z => nomatch z))
  · have := (R1.hds q hq).1
    rw [z, np] at this; cases this
  · rcases ho with ho | ho
    · obtain ⟨p', a', _, _, _, m⟩ := R1.sl i _ ho
      cases ai.inj a'
      exact m.here np
    · obtain ⟨p', a', _, _, _, m⟩ := R1.sl i _ ho
      cases ai.inj a'
      exact m.here np
end
end DL

/-! Looking at own lists; lists that are pinned for a loop. -/
namespace DL
open PySem PySem.Spec PyProof.Rows L2 NX
variable [TabsC]
def sclD : D → Bool
  | .none => true | .bool _ => true | .int _ => true | .str _ => true | _ => false
theorem scl_dt {K : PySem.W.Frag} {H G : Hp} {v : V} {d : D} (h : sclD d = true) (hd : Dt K H v d) : Dt K G v d := by
  cases hd with
  | non => exact .non
  | bl b => exact .bl b
  | int i => exact .int i
  | str x => exact .str x
  | _ => cases h
def shOf : Option Sl → Option Sl
  | some (.ow (.lst ds)) => some (.sh (.list ds))
  | some (.io (.lst ds)) => some (.sh (.list ds))
  | some (.sh d) => some (.sh d)
  | none => none
/-- slot i as data, the other lists aside -/
def hideG : Nat → DS → DS
  | _, [] => []
  | 0, s :: r => shOf s :: r.map keepD
  | i + 1, s :: r => keepD s :: hideG i r
theorem hideG_len : ∀ (i : Nat) (δ : DS), (hideG i δ).length = δ.length
  | _, [] => by cases ‹Nat› <;> rfl
  | 0, s :: r => by simp [hideG]
  | i + 1, s :: r => by simp [hideG, hideG_len i r]
theorem keep_get (r : DS) : ∀ j, DS.get (r.map keepD) j = keepD (r.get j) := by
  induction r with
  | nil => intro j; rfl
  | cons a r ih =>
    intro j
    cases j with
    | zero => rfl
    | succ j => exact ih j
theorem hideG_get : ∀ (i : Nat) (δ : DS) (j : Nat), DS.get (hideG i δ) j = if j = i then shOf (δ.get j) else keepD (δ.get j)
  | i, [], j => by
    have e : DS.get (hideG i []) j = none := by cases i <;> rfl
    rw [e]
    split <;> rfl
  | 0, s :: r, 0 => rfl
  | 0, s :: r, j + 1 => by
    rw [if_neg (by omega)]
    exact keep_get r j
  | i + 1, s :: r, 0 => rfl
  | i + 1, s :: r, j + 1 => by
    have := hideG_get i r j
    show DS.get (hideG i r) j = _
    rw [this]
    by_cases c : j = i
    · rw [if_pos c, if_pos (by omega)]; rfl
    · rw [if_neg c, if_neg (by omega)]; rfl
theorem rel_peek {K : PySem.W.Frag} {Γ : Ga} {hid : Hd} {σ : L2.St} {H : Hp} {δ : DS} {G : Hp} (R : Rel K Γ hid σ H δ G) (i : Nat) : ∃ Gf, Same G Gf ∧ Rel K ⟨H, Gf, []⟩ ⟨[], Gf⟩ σ H (hideG i δ) Gf := by
  have fin : ∀ Gf, Same G Gf → Same Gf H → GN Gf → (∀ s, shOf (δ.get i) = some s → ∃ d, s = .sh d ∧ ∃ v, σ[i]? = some (some v) ∧ Dt K Gf v d) → Rel K ⟨H, Gf, []⟩ ⟨[], Gf⟩ σ H (hideG i δ) Gf := by
    intro Gf s1 s2 gf hi
    have key : ∀ j s, DS.get (hideG i δ) j = some s → ∃ d, s = .sh d ∧ ∃ v, σ[j]? = some (some v) ∧ Dt K Gf v d := by
      intro j s e
      rw [hideG_get] at e
      by_cases c : j = i
      · subst c
        rw [if_pos rfl] at e
        exact hi s e
      · rw [if_neg c] at e
        cases q : δ.get j with
        | none => rw [q] at e; cases e
        | some s0 =>
          rw [q] at e
          cases s0 with
          | sh d =>
            cases e
            obtain ⟨v, h1, h2⟩ := R.sl j _ q
            exact ⟨d, rfl, v, h1, dp_mono s1 h2⟩
          | ow o => cases e
          | io o => cases e
    have own : ∀ j, ¬ Own (hideG i δ) j := fun j ⟨o, h⟩ => by
      rcases h with h | h
      · obtain ⟨d, e, _⟩ := key j _ h; cases e
      · obtain ⟨d, e, _⟩ := key j _ h; cases e
    refine ⟨s2, Same.refl _, fun _ _ => rfl, fun a o h _ _ => h, fun q hq => (by cases hq), by rw [hideG_len]; exact R.len, fun j s e => ?_, fun j k p hj => absurd hj (own j), fun q hq => (by cases hq), Same.refl _, ⟨R.tb.good, gf, fun _ h => h, fun _ _ h => h⟩⟩
    obtain ⟨d, rfl, v, h1, h2⟩ := key j s e
    exact ⟨v, h1, h2⟩
  have lst : ∀ p vs ds, At σ i p → G p = none → H p = some (.lst vs) → Dts K G vs ds → (∀ s, shOf (δ.get i) = some s → s = .sh (.list ds)) → ∃ Gf, Same G Gf ∧ Rel K ⟨H, Gf, []⟩ ⟨[], Gf⟩ σ H (hideG i δ) Gf := by
    intro p vs ds a g hp hd hs
    have sG : Same G (upd G p (.lst vs)) := fun b u e => by rw [upd_ne (ne_of_none e g)]; exact e
    refine ⟨upd G p (.lst vs), sG, fin _ sG (fun b u e => ?_) (gn_upd R.tb.gn fun _ z => by cases z) fun s e => ?_⟩
    · by_cases c : b = p
      · rw [c, upd_same] at e; rw [c]; cases e; exact hp
      · rw [upd_ne c] at e; exact R.sub b u e
    · exact ⟨.list ds, hs s e, .ref p, a, .lst (.inl upd_same) (dpa_mono sG hd)⟩
  cases q : δ.get i with
  | none => exact ⟨G, Same.refl _, fin G (Same.refl _) R.sub R.tb.gn fun s e => by rw [q] at e; cases e⟩
  | some s =>
    cases s with
    | sh d =>
      obtain ⟨v, h1, h2⟩ := R.sl i _ q
      exact ⟨G, Same.refl _, fin G (Same.refl _) R.sub R.tb.gn fun s e => by rw [q] at e; cases e; exact ⟨d, rfl, v, h1, h2⟩⟩
    | ow o => cases o with | lst ds => obtain ⟨p, h1, h2, _, _, vs, h5, h6⟩ := R.sl i _ q; exact lst p vs ds h1 h2 h5 h6 fun s e => by rw [q] at e; cases e; rfl
    | io o => cases o with | lst ds => obtain ⟨p, h1, h2, _, _, vs, h5, h6⟩ := R.sl i _ q; exact lst p vs ds h1 h2 h5 h6 fun s e => by rw [q] at e; cases e; rfl
theorem peek_back {K : PySem.W.Frag} {Γ : Ga} {hid hid1 : Hd} {σ : L2.St} {H H1 : Hp} {δ δ1 : DS} {G G1 Gf : Hp} (R : Rel K Γ hid σ H δ G) (sf : Same G Gf) (R1 : Rel K ⟨H, Gf, []⟩ hid1 σ H1 δ1 G1) : Rel K Γ hid σ H1 δ G := by
  have fr : ∀ a o, H a = some o → NT o → H1 a = some o := fun a o h => R1.fr a o h fun q hq => by cases hq
  exact R.grow ⟨fun a o _ h => fr a o h, fun a h => R1.here h, Same.refl _, (sf.trans R1.ext).trans R1.sub, fun _ _ => rfl, fun _ => R1.tb.good, R1.tb.own, id⟩
section
variable {X : Cx} {Γ : Ga} {W : WX} {a b c : Expr} {φa φb φc : RE} {pos p : Pos} {es : List Expr} {ρ : RA} {st : Stmt} {sts : List Stmt} {ψ ψ1 ψ2 : RB} {τ : RT}
/-- a look at slot i's list: a flat value, nothing else changes -/
def peekR (i : Nat) (φ : RE) : RE := fun δ _ P => φ (hideG i δ) E0K fun d _ => bifP (sclD d) (P d δ) False
theorem de_peek (i : Nat) (h : ∀ Γ, DE X Γ W0 a φa) : DE X Γ W a (peekR i φa) := by
  have run := fun Γ => (h Γ).run
  have mono := (h Γ).mono
  refine ⟨⟨fun pins s σ H Q I ⟨hid, δ, G, R, q⟩ => ?_⟩, fun δ E E' P P' _ hp q => mono _ _ _ _ _ (fun _ _ z => z) (fun d _ z => bif_mono (hp _ _) id z) q⟩
  obtain ⟨Gf, sG, R1⟩ := rel_peek R i
  refine (run ⟨H, Gf, []⟩).run pins s σ H Q I ⟨⟨[], Gf⟩, hideG i δ, Gf, R1, mono _ _ _ _ _ E0_up (fun d δ1 z v H' G' R2 s2 dv => ?_) q⟩
  cases e : sclD d with
  | false => rw [e] at z; exact z.elim
  | true =>
    rw [e] at z
    exact z v H' G (peek_back R sG R2) (Same.refl _) (scl_dt e dv)
def peekT (i : Nat) (τ : RT) : RT := fun δ _ P => τ (hideG i δ) E0K fun t _ => P t δ
theorem dt_peek (i : Nat) (h : ∀ Γ, DT X Γ W0 a τ) : DT X Γ W a (peekT i τ) := by
  have run := fun Γ => (h Γ).run
  have mono := (h Γ).mono
  refine ⟨⟨fun pins s σ H Q I ⟨hid, δ, G, R, q⟩ => ?_⟩, fun δ E E' P P' _ hp q => mono _ _ _ _ _ (fun _ _ z => z) (fun d _ z => hp _ _ z) q⟩
  obtain ⟨Gf, sG, R1⟩ := rel_peek R i
  exact (run ⟨H, Gf, []⟩).run pins s σ H Q I ⟨⟨[], Gf⟩, hideG i δ, Gf, R1, mono _ _ _ _ _ E0_up (fun t δ1 z H' G' R2 s2 => z H' G (peek_back R sG R2) (Same.refl _)) q⟩
/-- list(x) of an own list -/
def copyN (i : Nat) : RN := fun δ _ P => optK (ownL (δ.get i)) fun ds => P (.lst ds) δ
theorem dn_copy (i : Nat) {x : Str} {xp : Pos} (hm : X.mg "list" = none) (hx : PE X (.Name x xp) (tVar i)) (hg : Gl X "list" := by rfl) (he : starEach (.Name x xp :: []) X.env = (false, eval (.Name x xp) X.env) :: starEach [] X.env := by rfl) (hpl : (backTo pos (starEach [] X.env)).any (·.1) = false := by rfl) :
    DN X Γ W (.Call (.Name "list" p) [.Name x xp] [] pos) (copyN i) := by
  refine dn_mk (pe_callTy call_list_of hg hm (by decide +kernel) (pa_cons hx pa_nil he) (by decide) (by decide) he hpl) (fun _ _ _ _ _ he hp q => optK_mono (fun _ => hp _ _) q) fun σ H Q hid δ G R q => ?_
  obtain ⟨ds, e, q⟩ := optK_get q
  obtain ⟨p, vs, at1, h1, h2⟩ := own_rd R e
  exact ⟨.ref p, at1, p, vs, rfl, .inl (sql_of_rd h1), fun l nl => q l _ G (R.grow (Grow.newO (o := .lst vs) R.sub nl)) (Same.refl _) (.of R nl ⟨_, upd_same, h2⟩)⟩
/-! ### pins -/
def pinK (i : Nat) (P : Fw → DS → Prop) : Fw → DS → Prop := fun fl δ => match δ.get i with
  | some (.io o) => P fl (List.set δ i (some (.ow o)))
  | _ => False
def pinR (i : Nat) (ψ : RB) : RB := fun δ _ P => match δ.get i with
  | some (.ow o) => ψ (List.set δ i (some (.io o))) E0K (pinK i P)
  | _ => False
theorem pinK_mono {i : Nat} {P P' : Fw → DS → Prop} (hp : ∀ fl δ, P fl δ → P' fl δ) : ∀ fl δ, pinK i P fl δ → pinK i P' fl δ := fun fl δ q => by
  unfold pinK at q ⊢
  cases e : δ.get i with
  | none => rw [e] at q; exact q
  | some s => rw [e] at q; cases s <;> first | exact hp _ _ q | exact q
theorem owner_back {H : Hp} {p : Addr} {u : HO} (pu : Pl u) {P : Addr} {q : Str} (o : Owner (upd H p u) P q) : Owner H P q := by
  induction o with
  | top m => exact .top m
  | @sub P c P' q ps pos _ h1 h2 h3 ih =>
    have n1 : P ≠ p := fun z => by rw [z, upd_same] at h1; cases h1; exact pu.1 _ rfl
    have n2 : c ≠ p := fun z => by rw [z, upd_same] at h3; exact pu.2 _ (Option.some.inj h3)
    rw [upd_ne n1] at h1
    rw [upd_ne n2] at h3
    exact .sub ih h1 h2 h3
theorem rel_pin {K : PySem.W.Frag} {Γ : Ga} {hid : Hd} {σ : L2.St} {H : Hp} {δ : DS} {G : Hp} {i : Nat} {o : MO} {p : Addr} {u : HO} (R : Rel K Γ hid σ H δ G) (e : δ.get i = some (.ow o)) (a : At σ i p) (hu : H p = some u) (pu : Pl u) :
    Rel K ⟨upd Γ.H0 p u, Γ.G0, (i, p) :: Γ.par⟩ hid σ H (List.set δ i (some (.io o))) G := by
  have hi := DS.get_lt e
  obtain ⟨p', a', hG, h0, hh, mo⟩ := R.sl i _ e
  cases a.inj a'
  have hG0 : Γ.G0 p = none := by
    cases q : Γ.G0 p with
    | none => rfl
    | some z => have := R.ext p z q; rw [hG] at this; cases this
  have gi : ∀ j, DS.get (List.set δ i (some (.io o))) j = if i = j then some (.io o) else δ.get j := fun j => by
    rw [DS.get_set]
    by_cases c : i = j
    · subst c; rw [if_pos ⟨rfl, hi⟩, if_pos rfl]
    · rw [if_neg (fun z => c z.1), if_neg c]
  have own : ∀ j, Own (List.set δ i (some (.io o))) j → Own δ j := fun j ⟨o2, h⟩ => by
    rw [gi] at h
    by_cases c : i = j
    · subst c; exact ⟨o, .inl e⟩
    · rw [if_neg c] at h; exact ⟨o2, h⟩
  refine ⟨R.sub, R.ext, fun b hb => ?_, fun b u2 h n => ?_, fun q hq => ?_, by rw [List.length_set]; exact R.len, fun j s es => ?_, fun j k r hj hk => R.dist j k r (own j hj) (own k hk), fun q hq => ?_, R.gb, ⟨R.tb.good, R.tb.gn, fun b hb => ?_, fun P q ow => R.tb.own P q (owner_back pu ow)⟩⟩
  · by_cases c : b = p
    · rw [c, hG, hG0]
    · have hb2 : upd Γ.H0 p u b ≠ none := hb
      rw [upd_ne c] at hb2; exact R.old b hb2
  · have h2 : upd Γ.H0 p u b = some u2 := h
    have c : b ≠ p := fun z => n (i, p) List.mem_cons_self z.symm
    rw [upd_ne c] at h2
    exact R.fr b u2 h2 fun q hq => n q (List.mem_cons_of_mem _ hq)
  · rcases List.mem_cons.mp hq with rfl | hq
    · exact ⟨a, (by show upd Γ.H0 p u p ≠ none; rw [upd_same]; exact fun z => (nomatch z)), o, by rw [gi, if_pos rfl]⟩
    · obtain ⟨h1, h2, o2, h3⟩ := R.prs q hq
      have c : i ≠ q.1 := fun z => by rw [← z, e] at h3; cases h3
      have c2 : q.2 ≠ p := fun z => by rw [z, h0] at h2; exact h2 rfl
      exact ⟨h1, by show upd Γ.H0 p u q.2 ≠ none; rw [upd_ne c2]; exact h2, o2, by rw [gi, if_neg c]; exact h3⟩
  · rw [gi] at es
    by_cases c : i = j
    · subst c
      rw [if_pos rfl] at es
      cases es
      exact ⟨p, a, hG, List.mem_cons_self, hh, mo⟩
    · rw [if_neg c] at es
      have z := R.sl j s es
      cases s with
      | sh d => exact z
      | ow o2 =>
        obtain ⟨r, h1, h2, h3, h4, h5⟩ := z
        have c2 : r ≠ p := fun z => c (R.dist i j p ⟨o, .inl e⟩ ⟨o2, .inl es⟩ a (z ▸ h1))
        exact ⟨r, h1, h2, by show upd Γ.H0 p u r = none; rw [upd_ne c2]; exact h3, h4, h5⟩
      | io o2 =>
        obtain ⟨r, h1, h2, h3, h4, h5⟩ := z
        exact ⟨r, h1, h2, List.mem_cons_of_mem _ h3, h4, h5⟩
  · obtain ⟨h1, h2, h3⟩ := R.hds q hq
    exact ⟨h1, h2, (by show upd Γ.H0 p u q.1 = none; rw [upd_ne (hh q hq)]; exact h3.1), h3.2⟩
  · by_cases c : b = p
    · rw [c]; exact ne_none_of hu
    · have hb2 : upd Γ.H0 p u b ≠ none := hb
      rw [upd_ne c] at hb2; exact R.tb.here b hb2
theorem rel_unpin {K : PySem.W.Frag} {Γ : Ga} {hid : Hd} {σ σ1 : L2.St} {H H1 : Hp} {δ δ1 : DS} {G G1 : Hp} {i : Nat} {o o1 : MO} {p : Addr} {u : HO} (R : Rel K Γ hid σ H δ G) (e : δ.get i = some (.ow o)) (a : At σ i p)
    (R1 : Rel K ⟨upd Γ.H0 p u, Γ.G0, (i, p) :: Γ.par⟩ hid σ1 H1 δ1 G1) (e1 : δ1.get i = some (.io o1)) : Rel K Γ hid σ1 H1 (List.set δ1 i (some (.ow o1))) G1 := by
  have hi := DS.get_lt e1
  obtain ⟨p', a', hG, h0, hh, mo⟩ := R.sl i _ e
  cases a.inj a'
  have gi : ∀ j, DS.get (List.set δ1 i (some (.ow o1))) j = if i = j then some (.ow o1) else δ1.get j := fun j => by
    rw [DS.get_set]
    by_cases c : i = j
    · subst c; rw [if_pos ⟨rfl, hi⟩, if_pos rfl]
    · rw [if_neg (fun z => c z.1), if_neg c]
  have own : ∀ j, Own (List.set δ1 i (some (.ow o1))) j → Own δ1 j := fun j ⟨o2, h⟩ => by
    rw [gi] at h
    by_cases c : i = j
    · subst c; exact ⟨o1, .inr e1⟩
    · rw [if_neg c] at h; exact ⟨o2, h⟩
  have up : ∀ b, Γ.H0 b ≠ none → upd Γ.H0 p u b ≠ none := fun b hb => by
    by_cases c : b = p
    · rw [c, h0] at hb; exact absurd rfl hb
    · rw [upd_ne c]; exact hb
  have dn : ∀ b, upd Γ.H0 p u b = none → Γ.H0 b = none := fun b hb => by
    by_cases c : b = p
    · rw [c]; exact h0
    · rw [upd_ne c] at hb; exact hb
  have ap : At σ1 i p := (R1.prs (i, p) List.mem_cons_self).1
  refine ⟨R1.sub, R1.ext, fun b hb => R1.old b (up b hb), fun b u2 h n => ?_, fun q hq => ?_, by rw [List.length_set]; exact R1.len, fun j s es => ?_, fun j k r hj hk => R1.dist j k r (own j hj) (own k hk), fun q hq => ?_, R1.gb, ⟨R1.tb.good, R1.tb.gn, fun b hb => R1.tb.here b (up b hb), fun P q ow => R1.tb.own P q ((Calm.fresh h0).owner ow)⟩⟩
  · have c : b ≠ p := fun z => by rw [z, h0] at h; cases h
    refine R1.fr b u2 (by show upd Γ.H0 p u b = some u2; rw [upd_ne c]; exact h) fun q hq => ?_
    rcases List.mem_cons.mp hq with rfl | hq
    · exact fun z => c z.symm
    · exact n q hq
  · obtain ⟨h1, h2, o2, h3⟩ := R1.prs q (List.mem_cons_of_mem _ hq)
    obtain ⟨h4, h5, o3, h6⟩ := R.prs q hq
    have c : i ≠ q.1 := fun z => by rw [← z, e] at h6; cases h6
    exact ⟨h1, h5, o2, by rw [gi, if_neg c]; exact h3⟩
  · rw [gi] at es
    by_cases c : i = j
    · subst c
      rw [if_pos rfl] at es
      cases es
      obtain ⟨r, h1, h2, h3, h4, h5⟩ := R1.sl i _ e1
      cases h1.inj ap
      exact ⟨p, ap, h2, h0, h4, h5⟩
    · rw [if_neg c] at es
      have z := R1.sl j s es
      cases s with
      | sh d => exact z
      | ow o2 =>
        obtain ⟨r, h1, h2, h3, h4, h5⟩ := z
        exact ⟨r, h1, h2, dn r h3, h4, h5⟩
      | io o2 =>
        obtain ⟨r, h1, h2, h3, h4, h5⟩ := z
        refine ⟨r, h1, h2, ?_, h4, h5⟩
        rcases List.mem_cons.mp h3 with z | z
        · injection z with z1 z2; exact absurd z1.symm c
        · exact z
  · obtain ⟨h1, h2, h3⟩ := R1.hds q hq
    exact ⟨h1, h2, dn _ h3.1, h3.2⟩
theorem dp_pin (i : Nat) (h : ∀ Γ, DP X Γ W0 st ψ) : DP X Γ W st (pinR i ψ) := by
  have run := fun Γ => (h Γ).run
  have mono := (h Γ).mono
  refine ⟨⟨fun pins s σ H Dn I ⟨hid, δ, G, R, q⟩ => ?_⟩, fun δ E E' P P' _ hp q => ?_⟩
  · unfold pinR at q
    cases e : δ.get i with
    | none => rw [e] at q; exact q.elim
    | some s0 =>
      rw [e] at q
      cases s0 with
      | sh d => exact q.elim
      | io o => exact q.elim
      | ow o =>
        obtain ⟨p, a, hG, h0, hh, mo⟩ := R.sl i _ e
        obtain ⟨u, hu, pu⟩ : ∃ u, H p = some u ∧ Pl u := by cases o with | lst ds => obtain ⟨vs, h, _⟩ := mo; exact ⟨_, h, pl_lst⟩
        refine (run ⟨upd Γ.H0 p u, Γ.G0, (i, p) :: Γ.par⟩).run pins s σ H Dn I ⟨hid, _, G, rel_pin R e a hu pu, mono _ _ _ _ _ E0_up (fun fl δ1 z => ?_) q⟩
        unfold pinK at z
        cases e1 : δ1.get i with
        | none => rw [e1] at z; exact z.elim
        | some s1 =>
          rw [e1] at z
          cases s1 with
          | sh d => exact z.elim
          | ow o => exact z.elim
          | io o1 =>
            have back : ∀ {σ1 : L2.St} {H1 G1 : Hp}, Rel X.K ⟨upd Γ.H0 p u, Γ.G0, (i, p) :: Γ.par⟩ hid σ1 H1 δ1 G1 → Rel X.K Γ hid σ1 H1 (List.set δ1 i (some (.ow o1))) G1 := fun R1 => rel_unpin R e a R1 e1
            cases fl with
            | nx => exact fun σ1 H1 G1 R1 => z σ1 H1 G1 (back R1)
            | bk => exact fun σ1 H1 G1 R1 => z σ1 H1 G1 (back R1)
            | ct => exact fun σ1 H1 G1 R1 => z σ1 H1 G1 (back R1)
            | rt d => exact fun v σ1 H1 G1 R1 dv => z v σ1 H1 G1 (back R1) dv
            | rtO o2 =>
              refine fun r σ1 H1 G1 R1 n => z r σ1 H1 G1 (back R1) ⟨n.g, ?_, n.hd, fun j ⟨o3, hj⟩ aj => ?_, n.mo⟩
              · have hn : upd Γ.H0 p u r = none := n.h0
                by_cases c : r = p
                · rw [c]; exact h0
                · rw [upd_ne c] at hn; exact hn
              · refine n.ow j ?_ aj
                rw [DS.get_set] at hj
                by_cases c : i = j ∧ j < δ1.length
                · exact ⟨o1, .inr (c.1 ▸ e1)⟩
                · rw [if_neg c] at hj; exact ⟨o3, hj⟩
  · unfold pinR at q ⊢
    cases e : δ.get i with
    | none => rw [e] at q; exact q
    | some s0 =>
      rw [e] at q
      cases s0 with
      | ow o => exact mono _ _ _ _ _ (fun _ _ z => z) (pinK_mono hp) q
      | _ => exact q
/-! ### a loop over a pinned list -/
abbrev RIP := DS → KE → (List D → List D → DS → Prop) → Prop
structure ItP (K : PySem.W.Frag) (p : Addr) (L : List D) (G : Hp) (J : It) (ds : List D) : Prop where
  item : ∀ i d H G1 vs, Same G G1 → Same G1 H → H p = some (.lst vs) → Dts K G1 vs L → ds[i]? = some d → J.go i H ∧ ∀ x H', J.yld i H x H' → ∃ G2, Grow [] H G1 H' G2 ∧ Dt K G2 x d
  stop : ∀ H G1 vs, Same G G1 → Same G1 H → H p = some (.lst vs) → Dts K G1 vs L → J.stop ds.length H
def LIP (K : PySem.W.Frag) (Γ : Ga) (W : WX) (s : Nat) (φ : RIP) : TI := fun σ H R => ∃ hid δ G, Rel K Γ hid σ H δ G ∧ φ δ (EK K Γ W hid) fun L ds δ' => ∀ J H' G' p, (s, p) ∈ Γ.par → Rel K Γ hid σ H' δ' G' → Same G G' → ItP K p L G' J ds → R J H'
structure DIP (X : Cx) (Γ : Ga) (W : WX) (s : Nat) (tg iter : Expr) (φ : RIP) : Prop where
  run : PI X tg iter (LIP X.K Γ W s φ)
  mono : ∀ δ (E E' : KE) (P P' : List D → List D → DS → Prop), (∀ x δ, E x δ → E' x δ) → (∀ l ds δ, P l ds δ → P' l ds δ) → φ δ E P → φ δ E' P'
def ioO : Option Sl → Option (List D)
  | some (.io (.lst ds)) => some ds
  | _ => none
def forP (s : Nat) (L : List D) (γ : RG) (b : RB) (E : KE) (P : Fw → DS → Prop) : List D → DS → Prop
  | [], δ => ioO (δ.get s) = some L ∧ P .nx δ
  | d :: ds, δ => ioO (δ.get s) = some L ∧ γ d δ fun δ1 => b δ1 E (foK (forP s L γ b E P ds) P)
def forPR (s : Nat) (it : RIP) (γ : RG) (b : RB) : RB := fun δ E P => it δ E fun L ds δ1 => forP s L γ b E P ds δ1
theorem forP_mono {s : Nat} {L : List D} {tg : Expr} {vs : List Nat} {γ : RG} (hg : DG X Γ tg vs γ) (hb : Mono ψ) {E E' : KE} {P P' : Fw → DS → Prop} (he : ∀ x δ, E x δ → E' x δ) (hp : ∀ a δ, P a δ → P' a δ) : ∀ ds δ, forP s L γ ψ E P ds δ → forP s L γ ψ E' P' ds δ
  | [], δ, q => ⟨q.1, hp _ _ q.2⟩
  | d :: ds, δ, q => ⟨q.1, hg.mono _ _ _ _ (fun δ1 q1 => hb _ _ _ _ _ he (foK_mono (forP_mono hg hb he hp ds) hp) q1) q.2⟩
theorem io_at {K : PySem.W.Frag} {hid : Hd} {σ : L2.St} {H : Hp} {δ : DS} {G : Hp} {s : Nat} {L : List D} {p : Addr} (R : Rel K Γ hid σ H δ G) (hp : (s, p) ∈ Γ.par) (e : ioO (δ.get s) = some L) : ∃ vs, H p = some (.lst vs) ∧ Dts K G vs L := by
  cases q : δ.get s with
  | none => rw [q] at e; cases e
  | some s0 =>
    rw [q] at e
    cases s0 with
    | sh d => cases e
    | ow o => cases e
    | io o =>
      cases o with
      | lst ds =>
        cases e
        obtain ⟨r, h1, h2, h3, h4, vs, h5, h6⟩ := R.sl s _ q
        cases h1.inj (R.prs _ hp).1
        exact ⟨vs, h5, h6⟩
theorem dp_forP {s : Nat} {tg iter : Expr} {vs : List Nat} {γ : RG} {ι : RIP} (hp : PassesOwn (model X.prog X.w) X.A X.env X.xe) (hi : DIP X Γ W s tg iter ι) (hg : DG X Γ tg vs γ) (hb : DB X Γ W sts ψ) (hc : X.calm = true := by rfl)
    (hs : ∀ x, foldedSetIterable iter X.env x = pure x := by intro _; rfl) : DP X Γ W (.For tg iter sts [] pos) (forPR s ι γ ψ) := by
  refine dp_mk (ps_for hp hc hi.run hg.run hb.run hs) ?_ fun Dn σ H hid δ G R q => ?_
  · exact fun _ _ _ _ _ he hp q => hi.mono _ _ _ _ _ he (fun L ds δ1 q1 => forP_mono hg hb.mono he hp ds δ1 q1) q
  · refine ⟨hid, δ, G, R, hi.mono _ _ _ _ _ (fun _ _ z => z) (fun L ds δ1 q1 J H1 G1 p hpar R1 s1 it => ?_) q⟩
    have q1' := forP_mono hg hb.mono (EK_up (W := W) R1.gb) (KF_up (Dn := Dn) R1.gb) ds δ1 q1
    have R1' := R1.rebase
    refine ⟨fun i m σ H => ∃ δ G2, Rel X.K Γ ⟨hid.ls, G1⟩ σ H δ G2 ∧ m = ds.length - i ∧ i ≤ ds.length ∧ forP s L γ ψ (EK X.K Γ W ⟨hid.ls, G1⟩) (KF X.K Γ ⟨hid.ls, G1⟩ Dn) (ds.drop i) δ, ⟨_, δ1, G1, R1', rfl, Nat.zero_le _, q1'⟩, ?_⟩
    rintro i m σ2 H2 ⟨δ2, G2, R2, rfl, hle, q2⟩
    by_cases hlt : i < ds.length
    · have hd : ds[i]? = some ds[i] := List.getElem?_eq_getElem hlt
      rw [List.drop_eq_getElem_cons hlt] at q2
      obtain ⟨g0, q2⟩ := q2
      obtain ⟨vs0, c1, c2⟩ := io_at R2 hpar g0
      obtain ⟨go, yl⟩ := it.item i _ H2 G2 vs0 R2.gb R2.sub c1 c2 hd
      refine .inr ⟨go, fun σ H => ∃ δ G2, Rel X.K Γ ⟨hid.ls, G1⟩ σ H δ G2 ∧ forP s L γ ψ (EK X.K Γ W ⟨hid.ls, G1⟩) (KF X.K Γ ⟨hid.ls, G1⟩ Dn) (ds.drop (i + 1)) δ, fun σ' H' ⟨δ', G', R', q'⟩ => ⟨ds.length - (i + 1), by omega, δ', G', R', rfl, hlt, q'⟩, fun x H3 hy => ?_⟩
      obtain ⟨G3, g, dx⟩ := yl x H3 hy
      refine ⟨_, δ2, G3, ds[i], R2.grow g, dx, hg.mono _ _ _ _ (fun δ4 q4 σ4 R4 _ => ⟨_, δ4, G3, R4, hb.mono _ _ _ _ _ (fun _ _ z => z) (fun fl δ5 q5 => ?_) q4⟩) q2⟩
      cases fl with
      | nx => exact fun σ H G R => ⟨δ5, G, R, q5⟩
      | ct => exact fun σ H G R => ⟨δ5, G, R, q5⟩
      | bk => exact q5
      | rt d => exact q5
      | rtO d => exact q5
    · have e : i = ds.length := by omega
      subst e
      rw [List.drop_length] at q2
      obtain ⟨g0, q2⟩ := q2
      obtain ⟨vs0, c1, c2⟩ := io_at R2 hpar g0
      exact .inl ⟨it.stop H2 G2 vs0 R2.gb R2.sub c1 c2, q2 σ2 H2 G2 R2⟩
/-- zip(a, x), x pinned -/
def zipPI (s : Nat) (φ : RE) : RIP := fun δ E P => φ δ E fun d δ1 => match d with
  | .list ds => optK (ioO (δ1.get s)) fun L => P L (zipL ds L) δ1
  | _ => False
theorem dip_zip {elts : List Expr} {kk : Nat} {tpos : Pos} (s : Nat) {x : Str} {xp : Pos} (hm : X.mg "zip" = none) (ha : DE X Γ W a φa) (hx : PE X (.Name x xp) (tVar s)) (hg : Gl X "zip" := by rfl) (hs : starEach [a, .Name x xp] X.env = (false, eval a X.env) :: starEach [.Name x xp] X.env := by rfl)
    (hpl : (backTo pos (starEach [.Name x xp] X.env)).any (·.1) = false := by rfl) (hs2 : starEach (.Name x xp :: []) X.env = (false, eval (.Name x xp) X.env) :: starEach [] X.env := by rfl) :
    DIP X Γ W s (.Tuple elts kk tpos) (.Call (.Name "zip" p) [a, .Name x xp] [] pos) (zipPI s φa) := by
  refine ⟨PI.imp (pi_zip hg hm (pa_cons ha.run (pa_cons hx pa_nil hs2) hs) hs hpl) fun σ H Q ⟨hid, δ, G, R, q⟩ => ha.go R q fun d δ1 v H1 G1 q1 R1 s1 d1 => ?_, ?_⟩
  · cases d1 with
    | @lst a1 xs1 ds1 h hd =>
      obtain ⟨L, e, q1⟩ := optK_get q1
      have e0 : ∃ o, δ1.get s = some (.io o) := by
        cases z : δ1.get s with
        | none => rw [z] at e; cases e
        | some s0 => rw [z] at e; cases s0 <;> first | exact ⟨_, rfl⟩ | cases e
      obtain ⟨o, e0⟩ := e0
      obtain ⟨r, a1, _, hpar, _, _⟩ := R1.sl s _ e0
      obtain ⟨ws, c1, c2⟩ := io_at R1 hpar e
      refine ⟨.ref r, a1, _, _, _, _, rfl, sql_of_rd (Same.rd R1.sub h), .inl (.inl c1), q1 _ H1 G1 r hpar R1 s1 ⟨fun i d H3 G3 vs sG sH hp hv e => ?_, fun H3 G3 vs sG sH hp hv => ⟨_, _, sql_of_rd (Same.rd (sG.trans sH) h), .inl (.inl hp), ?_⟩⟩⟩
      · unfold zipL at e
        rw [List.getElem?_map] at e
        obtain ⟨pr, ep, ed⟩ := Option.map_eq_some_iff.mp e
        obtain ⟨e1, e2⟩ := List.getElem?_zip_eq_some.mp ep
        obtain ⟨x, ex, dx⟩ := dpa_get hd e1
        obtain ⟨y, ey, dy⟩ := dpa_get hv e2
        have hq := sql_of_rd (K := X.K) (Same.rd (sG.trans sH) h)
        have hq2 : SqL X.K H3 r vs := .inl (.inl hp)
        refine ⟨⟨_, _, x, y, hq, hq2, ex, ey⟩, fun z H4 ⟨T, x', y', ez, nT, e3, hx, hy⟩ => ?_⟩
        have := (hx _ hq).symm.trans ex
        cases this
        have := (hy _ hq2).symm.trans ey
        cases this
        have g := Grow.new (o := .tup [x, y]) sH nT
        refine ⟨_, by rw [e3]; exact g, ?_⟩
        rw [ez, ← ed]
        exact .tup (.of upd_same) (.cons (dp_mono (sG.trans g.data) dx) (.cons (dp_mono g.data dy) .nil))
      · unfold zipL
        rw [List.length_map, List.length_zip, dpa_length hd, dpa_length hv]
        omega
    | _ => exact q1.elim
  · intro δ E E' P P' he hp q
    refine ha.mono _ _ _ _ _ he (fun x δ1 q1 => ?_) q
    cases x <;> first | exact optK_mono (fun _ => hp _ _ _) q1 | exact q1
/-- for .. in x, x pinned -/
def lstPI (s : Nat) : RIP := fun δ _ P => optK (ioO (δ.get s)) fun L => P L L δ
theorem dip_list {tg : Expr} (s : Nat) {x : Str} {xp : Pos} (hx : PE X (.Name x xp) (tVar s)) : DIP X Γ W s tg (.Name x xp) (lstPI s) := by
  refine ⟨PI.imp (pi_list hx) fun σ H Q ⟨hid, δ, G, R, q⟩ => ?_, fun δ E E' P P' he hp q => optK_mono (fun _ => hp _ _ _) q⟩
  obtain ⟨L, e, q1⟩ := optK_get q
  have e0 : ∃ o, δ.get s = some (.io o) := by
    cases z : δ.get s with
    | none => rw [z] at e; cases e
    | some s0 => rw [z] at e; cases s0 <;> first | exact ⟨_, rfl⟩ | cases e
  obtain ⟨o, e0⟩ := e0
  obtain ⟨r, a1, _, hpar, _, _⟩ := R.sl s _ e0
  obtain ⟨ws, c1, c2⟩ := io_at R hpar e
  refine ⟨.ref r, a1, _, rfl, ⟨_, .inl (.inl c1)⟩, q1 _ H G r hpar R (Same.refl _) ⟨fun i d H3 G3 vs sG sH hp hv e => ?_, fun H3 G3 vs sG sH hp hv => ⟨_, .inl (.inl hp), by rw [dpa_length hv]; exact Nat.le_refl _⟩⟩⟩
  obtain ⟨x, ex, dx⟩ := dpa_get hv e
  have hq : SqL X.K H3 r vs := .inl (.inl hp)
  exact ⟨⟨_, x, hq, ex⟩, fun y H4 ⟨e3, hy⟩ => ⟨G3, by rw [e3]; exact .refl sH, by have := (hy _ hq).symm.trans ex; cases this; exact dx⟩⟩
end
end DL

/-! Methods of texts. -/
namespace DL
open PySem PySem.Spec PyProof.Rows L2 NX
variable [TabsC]
section
variable {X : Cx} {Γ : Ga} {W : WX} {a b c : Expr} {φa φb φc : RE} {pos p : Pos} {es : List Expr} {ρ : RA}
def partR (φ φ' : RE) : RE := fun δ E P => φ δ E fun x δ1 => match x with
  | .str u => φ' δ1 E fun y δ2 => match y with
    | .str v => ((v.length == 0) = false ∧ u.length ≤ sizeLine) ∧ P (.tuple [.str (Txt.partition u v).1, .str (Txt.partition u v).2.1, .str (Txt.partition u v).2.2]) δ2
    | _ => False
  | _ => False
theorem de_partition {apos : Pos} (ha : DE X Γ W a φa) (hb : DE X Γ W b φb) (hs : starEach [b] X.env = [(false, eval b X.env)] := by rfl) (hbase : attributeBase a "partition" X.env (eval a X.env) = eval a X.env := by rfl) (hline : (apos.endLine == pos.line) = true := by rfl) :
    DE X Γ W (.Call (.Attribute a "partition" apos) [b] [] pos) (partR φa φb) := by
  refine de_mk (pe_partition ha.run hb.run hs hbase hline) ?_ fun σ H Q hid δ G R q => ha.go R q fun d δ1 v H1 G1 q1 R1 s1 d1 => ?_
  · intro δ E E' P P' he hp q
    refine ha.mono _ _ _ _ _ he (fun x δ1 q1 => ?_) q
    cases x <;> first | exact q1.elim | skip
    refine hb.mono _ _ _ _ _ he (fun y δ2 q2 => ?_) q1
    cases y <;> first | exact q2.elim | exact ⟨q2.1, hp _ _ q2.2⟩
  · cases d1 with
    | str u =>
      refine ⟨⟨u, rfl⟩, hb.go R1 q1 fun e δ2 w H2 G2 q2 R2 s2 d2 => ?_⟩
      cases d2 with
      | str z =>
        obtain ⟨⟨h1, h2⟩, q3⟩ := q2
        refine ⟨u, z, rfl, rfl, h1, h2, fun r nr => ?_⟩
        have g := Grow.new (o := .tup [.str (Txt.partition u z).1, .str (Txt.partition u z).2.1, .str (Txt.partition u z).2.2]) R2.sub nr
        exact q3 _ _ _ (R2.grow g) ((s1.trans s2).trans g.data) (.tup (.of upd_same) (.cons (.str _) (.cons (.str _) (.cons (.str _) .nil))))
      | _ => exact q2.elim
    | _ => exact q1.elim
theorem strs_dt {K : PySem.W.Frag} {G : Hp} : ∀ ys : List Str, Dts K G (ys.map V.str) (ys.map PyData.str)
  | [] => .nil
  | y :: ys => .cons (.str y) (strs_dt ys)
/-- x.split(sep): a new list -/
def splitN (φ φ' : RE) : RN := fun δ E P => φ δ E fun x δ1 => match x with
  | .str u => φ' δ1 E fun y δ2 => match y with
    | .str v => ((v.length == 0) = false ∧ u.length + 2 ≤ sizeLine) ∧ P (.lst ((Txt.split u v).map PyData.str)) δ2
    | _ => False
  | _ => False
theorem dn_split {apos : Pos} (ha : DE X Γ W a φa) (hb : DE X Γ W b φb) (hs : starEach [b] X.env = [(false, eval b X.env)] := by rfl) (hbase : attributeBase a "split" X.env (eval a X.env) = eval a X.env := by rfl) (hline : (apos.endLine == pos.line) = true := by rfl) :
    DN X Γ W (.Call (.Attribute a "split" apos) [b] [] pos) (splitN φa φb) := by
  refine dn_mk (pe_split ha.run hb.run hs hbase hline) ?_ fun σ H Q hid δ G R q => ha.go R q fun d δ1 v H1 G1 q1 R1 s1 d1 => ?_
  · intro δ E E' P P' he hp q
    refine ha.mono _ _ _ _ _ he (fun x δ1 q1 => ?_) q
    cases x <;> first | exact q1.elim | skip
    refine hb.mono _ _ _ _ _ he (fun y δ2 q2 => ?_) q1
    cases y <;> first | exact q2.elim | exact ⟨q2.1, hp _ _ q2.2⟩
  · cases d1 with
    | str u =>
      refine ⟨⟨u, rfl⟩, hb.go R1 q1 fun e δ2 w H2 G2 q2 R2 s2 d2 => ?_⟩
      cases d2 with
      | str z =>
        obtain ⟨⟨h1, h2⟩, q3⟩ := q2
        refine ⟨u, z, rfl, rfl, h1, h2, fun r nr => ?_⟩
        exact q3 _ _ _ (R2.grow (Grow.newO (o := .lst ((Txt.split u z).map V.str)) R2.sub nr)) (s1.trans s2) (.of R2 nr ⟨_, upd_same, strs_dt _⟩)
      | _ => exact q2.elim
    | _ => exact q1.elim
/-- sep.join(a list of texts) -/
def strsD : List D → Option (List Str)
  | [] => some []
  | .str x :: r => (strsD r).map (x :: ·)
  | _ => none
theorem strs_V {K : PySem.W.Frag} {G : Hp} : ∀ {vs : List V} {ds : List D} {ys : List Str}, Dts K G vs ds → strsD ds = some ys → vs = ys.map V.str
  | _, _, _, .nil, e => by cases e; rfl
  | _, _, ys, .cons (ds := r) h t, e => by
    cases h with
    | str x =>
      have e2 : (strsD r).map (x :: ·) = some ys := e
      cases q : strsD r with
      | none => rw [q] at e2; cases e2
      | some zs => rw [q] at e2; cases e2; rw [strs_V t q]; rfl
    | _ => cases e
def joinR (φ φ' : RE) : RE := fun δ E P => φ δ E fun x δ1 => match x with
  | .str u => φ' δ1 E fun y δ2 => match y with
    | .list ds => optK (strsD ds) fun ys => (ys.map (·.length)).sum + ys.length * u.length ≤ 16777216 ∧ P (.str (Txt.join u ys)) δ2
    | _ => False
  | _ => False
theorem de_join {apos : Pos} (ha : DE X Γ W a φa) (hb : DE X Γ W b φb) (hs : starEach [b] X.env = [(false, eval b X.env)] := by rfl) (hbase : attributeBase a "join" X.env (eval a X.env) = eval a X.env := by rfl) (hline : (apos.endLine == pos.line) = true := by rfl) :
    DE X Γ W (.Call (.Attribute a "join" apos) [b] [] pos) (joinR φa φb) := by
  refine de_mk (pe_join ha.run hb.run hs hbase hline) ?_ fun σ H Q hid δ G R q => ha.go R q fun d δ1 v H1 G1 q1 R1 s1 d1 => ?_
  · intro δ E E' P P' he hp q
    refine ha.mono _ _ _ _ _ he (fun x δ1 q1 => ?_) q
    cases x <;> first | exact q1.elim | skip
    refine hb.mono _ _ _ _ _ he (fun y δ2 q2 => ?_) q1
    cases y <;> first | exact q2.elim | exact optK_mono (fun _ z => ⟨z.1, hp _ _ z.2⟩) q2
  · cases d1 with
    | str u =>
      refine ⟨⟨u, rfl⟩, hb.go R1 q1 fun e δ2 w H2 G2 q2 R2 s2 d2 => ?_⟩
      cases d2 with
      | @lst a2 xs2 ds2 h2 ha2 =>
        obtain ⟨ys, ey, h1, q3⟩ := optK_get q2
        have := strs_V ha2 ey
        subst this
        exact ⟨u, _, ys, rfl, rfl, .inl (sql_of_rd (Same.rd R2.sub h2)), h1, q3 _ H2 G2 R2 (s1.trans s2) (.str _)⟩
      | _ => exact q2.elim
    | _ => exact q1.elim
/-- tuple(x) of a list: a new tuple; of a tuple: itself -/
def tupleR (φ : RE) : RE := fun δ E P => φ δ E fun x δ1 => match x with
  | .list ds => P (.tuple ds) δ1
  | .tuple ds => P (.tuple ds) δ1
  | _ => False
theorem de_tupleOf (hm : X.mg "tuple" = none) (ha : DE X Γ W a φa) (hg : Gl X "tuple" := by rfl) (he : starEach (a :: []) X.env = (false, eval a X.env) :: starEach [] X.env := by rfl) (hpl : (backTo pos (starEach [] X.env)).any (·.1) = false := by rfl) :
    DE X Γ W (.Call (.Name "tuple" p) [a] [] pos) (tupleR φa) := by
  refine de_mk (pe_callTy call_tuple_of hg hm (by decide +kernel) (pa_cons ha.run pa_nil he) (by decide) (by decide) he hpl) ?_ fun σ H Q hid δ G R q => ?_
  · intro δ E E' P P' he hp q
    refine ha.mono _ _ _ _ _ he (fun x δ1 q1 => ?_) q
    cases x <;> first | exact hp _ _ q1 | exact q1
  · refine ha.go R q fun d δ1 v H1 G1 q1 R1 s1 d1 => ?_
    cases d1 with
    | @lst a1 xs1 ds1 h1 hd =>
      refine ⟨_, _, rfl, .inl ⟨sql_of_rd (Same.rd R1.sub h1), fun l nl => ?_⟩⟩
      have g := Grow.new (o := .tup xs1) R1.sub nl
      exact q1 _ _ _ (R1.grow g) (s1.trans g.data) (.tup (.of upd_same) (dpa_mono g.data hd))
    | @tup a1 xs1 ds1 h1 hd => exact ⟨_, _, rfl, .inr ⟨Same.seqT R1.sub h1, q1 _ H1 G1 R1 s1 (.tup h1 hd)⟩⟩
    | _ => exact q1.elim
end
end DL

/-! Pops, displays of dicts that are asked at once, sorted lists; defs that call themselves. -/
namespace DL
open PySem PySem.Spec PyProof.Rows L2 NX
variable [TabsC]
section
variable {K : PySem.W.Frag} {Γ : Ga} {hid : Hd} {σ σ' : L2.St} {H : Hp} {δ δ' : DS} {G : Hp}
/-- an object that is set aside: new, of no kind that slots hold -/
theorem Rel.pushN (R : Rel K Γ hid σ H δ G) {p : Addr} {u : HO} (np : H p = none) (pu : Pl u := by exact ⟨(fun _ z => by cases z), (fun _ z => by cases z)⟩) : Rel K Γ ⟨(p, u) :: hid.ls, hid.gb⟩ σ (upd H p u) δ G := by
  have R1 := R.grow (Grow.newO (o := u) R.sub np)
  have g : G p = none := by
    cases e : G p with
    | none => rfl
    | some u => have := R.sub p u e; rw [np] at this; cases this
  have h0 : Γ.H0 p = none := by
    cases e : Γ.H0 p with
    | none => rfl
    | some u => exact absurd np (R.here (by rw [e]; exact fun z => nomatch z))
  have ow : ∀ j, Own δ j → ¬ At σ j p := fun j ⟨o2, h⟩ a => by
    rcases h with h | h
    · obtain ⟨p', a', _, _, _, m⟩ := R.sl j _ h
      cases a.inj a'
      exact m.here np
    · obtain ⟨p', a', _, _, _, m⟩ := R.sl j _ h
      cases a.inj a'
      exact m.here np
  refine ⟨R1.sub, R1.ext, R1.old, R1.fr, R1.prs, R1.len, fun j s e => ?_, R1.dist, fun q hq => ?_, R1.gb, R1.tb⟩
  · have q := R1.sl j s e
    cases s with
    | sh d => exact q
    | ow o =>
      obtain ⟨r, h1, h2, h3, h4, h5⟩ := q
      refine ⟨r, h1, h2, h3, fun q hq => ?_, h5⟩
      rcases List.mem_cons.mp hq with z | z
      · subst z; exact fun z => ow j ⟨o, .inl e⟩ (by rw [show p = r from z]; exact h1)
      · exact h4 q z
    | io o =>
      obtain ⟨r, h1, h2, h3, h4, h5⟩ := q
      refine ⟨r, h1, h2, h3, fun q hq => ?_, h5⟩
      rcases List.mem_cons.mp hq with z | z
      · subst z; exact fun z => ow j ⟨o, .inr e⟩ (by rw [show p = r from z]; exact h1)
      · exact h4 q z
  · rcases List.mem_cons.mp hq with z | z
    · subst z; exact ⟨upd_same, g, h0, pu⟩
    · exact R1.hds q z
theorem EK_push {W : WX} {p : Addr} {u : HO} {ls : List (Addr × HO)} {gb : Hp} : ∀ x δ, EK K Γ W ⟨ls, gb⟩ x δ → EK K Γ W ⟨(p, u) :: ls, gb⟩ x δ := fun x δ h cls d σ H G R ex => h cls d σ H G R.pop ex
end
section
variable {X : Cx} {Γ : Ga} {W : WX} {a b c : Expr} {φa φb φc : RE} {pos p : Pos} {es : List Expr} {ρ : RA}
/-! ### x.pop() -/
def popR (i : Nat) : RE := fun δ _ P => optK (ownO (δ.get i)) fun ds => ∃ r d, ds = r ++ [d] ∧ P d (putO δ i r)
theorem de_pop (i : Nat) {x : Str} {xp apos cpos : Pos} (pe : PE X (.Call (.Attribute (.Name x xp) "pop" apos) [] [] cpos) (tBM0 X.K "list" rPop (tVar i))) : DE X Γ W (.Call (.Attribute (.Name x xp) "pop" apos) [] [] cpos) (popR i) := by
  refine de_mk pe (fun _ _ _ _ _ he hp q => optK_mono (fun _ ⟨r, d, e, z⟩ => ⟨r, d, e, hp _ _ z⟩) q) fun σ H Q hid δ G R q => ?_
  obtain ⟨ds, e, r, d, rfl, q⟩ := optK_get q
  obtain ⟨p, vs, s, hs1, c, at1, hp, hd⟩ := own_at R e
  obtain ⟨v, ev, dv⟩ := dpa_get hd (show (r ++ [d])[(r ++ [d]).length - 1]? = some d by simp)
  refine ⟨.ref p, at1, .inl ⟨rfl, _, .inl (.inl hp)⟩, p, vs, v, rfl, rfl, hp, by rw [dpa_length hd]; exact ev, ?_⟩
  have hd2 := dpa_dropLast hd
  rw [List.dropLast_concat] at hd2
  exact q v _ G (own_put R e at1 hd2) (Same.refl _) dv
/-! ### {k: v, ..}[x] -/
/-- what a display's pairs hold: constants as keys -/
structure DPs (X : Cx) (Γ : Ga) (W : WX) (pos : Pos) (keys : List (Option Expr)) (values : List Expr) (ks : List Str) (φ : RA) : Prop where
  run : ∃ trs, PPs X pos keys values trs ∧ ∀ σ H Q hid δ G, Rel X.K Γ hid σ H δ G → φ δ (EK X.K Γ W hid) (fun ds δ' => ∀ vs H' G', Rel X.K Γ hid σ H' δ' G' → Same G G' → Dts X.K G' vs ds → Q (ks.zip vs |>.map fun q => (V.str q.1, q.2)) H') → tPairs trs σ H Q
  mono : Mono φ
  len : ∀ δ E P, φ δ E P → φ δ E fun ds δ' => ds.length = ks.length ∧ P ds δ'
theorem dps_nil : DPs X Γ W pos [] [] [] nilA := ⟨⟨[], pps_nil, fun σ H Q hid δ G R q => q [] H G R (Same.refl _) .nil⟩, fun _ _ _ _ _ _ hp q => hp _ _ q, fun _ _ _ q => ⟨rfl, q⟩⟩
theorem dps_cons {k : Str} {j kp} {keys : List (Option Expr)} {values : List Expr} {ks : List Str} (ha : DE X Γ W a φa) (hr : DPs X Γ W pos keys values ks ρ) : DPs X Γ W pos (some (.Constant (.str k) j kp) :: keys) (a :: values) (k :: ks) (consA φa ρ) := by
  obtain ⟨trs, h1, h2⟩ := hr.run
  refine ⟨⟨_, pps_cons pe_str ha.run h1, fun σ H Q hid δ G R q => ?_⟩, fun _ _ _ _ _ he hp q => ha.mono _ _ _ _ _ he (fun _ _ z => hr.mono _ _ _ _ _ he (fun _ _ z2 => hp _ _ z2) z) q,
    fun _ _ _ q => ha.mono _ _ _ _ _ (fun _ _ z => z) (fun d δ1 q1 => hr.mono _ _ _ _ _ (fun _ _ z => z) (fun ds δ2 q2 => ⟨congrArg (· + 1) q2.1, q2.2⟩) (hr.len _ _ _ q1)) q⟩
  refine ha.go R q fun d δ1 v H1 G1 q1 R1 s1 d1 => ?_
  refine h2 σ H1 _ hid δ1 G1 R1 (hr.mono _ _ _ _ _ (fun _ _ z => z) (fun ds δ2 q2 vs H2 G2 R2 s2 d2 => ?_) q1)
  exact q2 (v :: vs) H2 G2 R2 (s1.trans s2) (.cons (dp_mono s2 d1) d2)
/-- the last one of the pairs with this key -/
def dixL : List Str → List D → Str → Option D → Option D
  | k :: ks, d :: ds, z, o => dixL ks ds z (if z = k then some d else o)
  | _, _, _, o => o
theorem dix_V {K : PySem.W.Frag} {G : Hp} (z : Str) : ∀ {ks : List Str} {vs : List V} {ds : List D} {kvs : List (Key × V)} {o : Option D}, Dts K G vs ds → ks.length = ds.length → (∀ d, o = some d → ∃ v, valV kvs (Sum.inr z) = some v ∧ Dt K G v d) →
    ∀ d, dixL ks ds z o = some d → ∃ v, valV (mergeK kvs (ks.zip vs |>.map fun q => ((Sum.inr q.1 : Key), q.2))) (Sum.inr z) = some v ∧ Dt K G v d
  | [], _, _, kvs, o, .nil, _, ho, d, e => ho d e
  | k :: ks, _, _, kvs, o, .cons (v := v) (d := d0) hv hvs, hl, ho, d, e => by
    refine dix_V z (kvs := putK kvs (Sum.inr k) v) hvs (by simpa using hl) (fun d2 e2 => ?_) d e
    rw [valV_put]
    by_cases c : z = k
    · rw [if_pos c] at e2
      cases e2
      rw [if_pos (by rw [c])]
      exact ⟨v, rfl, hv⟩
    · rw [if_neg c] at e2
      rw [if_neg (fun z2 => c (by injection z2))]
      exact ho d2 e2
def dixR (ks : List Str) (ρ : RA) (φ : RE) : RE := fun δ E P => ρ δ E fun ds δ1 => φ δ1 E fun x δ2 => match x with
  | .str z => optK (dixL ks ds z none) fun d => P d δ2
  | _ => False
theorem de_dix {keys : List (Option Expr)} {values : List Expr} {ks : List Str} {dpos : Pos} (hu : X.A.units + 64 < cLine) (h : DPs X Γ W dpos keys values ks ρ) (hb : DE X Γ W b φb) (hs : NoSl b := by exact fun _ _ => rfl)
    (hall : keys.all (·.isSome) = true := by rfl) (hl : keys.length = values.length := by rfl) (h0 : keys ≠ [] := by exact fun z => nomatch z) (h15 : keys.length ≤ 15 := by decide) (hk : ks.length ≤ 15 := by decide) : DE X Γ W (.Subscript (.Dict keys values dpos) b pos) (dixR ks ρ φb) := by
  obtain ⟨trs, h1, h2⟩ := h.run
  refine de_mk (pe_dget (by omega) (pe_disp h1 hall hl h0 h15) hb.run hs) ?_ fun σ H Q hid δ G R q => ?_
  · intro δ E E' P P' he hp q
    refine h.mono _ _ _ _ _ he (fun ds δ1 q1 => hb.mono _ _ _ _ _ he (fun x δ2 q2 => ?_) q1) q
    cases x <;> first | exact optK_mono (fun _ z => hp _ _ z) q2 | exact q2
  · intro p np
    have R1 := R.pushN (u := .dK []) np
    obtain ⟨ls, gb⟩ := hid
    refine h2 σ _ _ _ δ G R1 (h.mono _ _ _ _ _ EK_push (fun ds δ1 q1 vs H2 G2 R2 s2 d2 => ?_) (h.len _ _ _ q))
    obtain ⟨l1, q1⟩ := q1
    have ne : ∀ q ∈ ls, q.1 ≠ p := fun q hq z => by
      have := (R.hds q hq).1
      rw [z, np] at this; cases this
    refine ⟨(R2.hds (p, .dK []) List.mem_cons_self).1, ks.zip vs |>.map fun q => ((Sum.inr q.1 : Key), q.2), ?_, ?_, ?_⟩
    · rw [List.map_map]; rfl
    · rw [List.length_map, List.length_zip]; omega
    · have R3 := R2.hset (u' := .dK (mergeK [] (ks.zip vs |>.map fun q => ((Sum.inr q.1 : Key), q.2)))) ne
      refine ⟨_, δ1, G2, R3, hb.mono _ _ _ _ _ EK_push (fun x δ2 q3 v H4 G4 R4 s4 d4 => ?_) q1⟩
      cases d4 with
      | str z =>
        obtain ⟨d, e, q4⟩ := optK_get q3
        obtain ⟨v, ev, dv⟩ := dix_V (kvs := []) z d2 l1.symm (fun d z => by cases z) d e
        have hp4 := (R4.hds (p, _) List.mem_cons_self).1
        have g := DGet.k (k := (Sum.inr z : Key)) hp4
        rw [ev] at g
        exact ⟨p, v, rfl, g, q4 v H4 G4 R4.pop (s2.trans s4) (dp_mono s4 dv)⟩
      | _ => exact q3.elim
/-! ### sorted(x) -/
def sortG : List D → (D → Prop) → Prop
  | [.list ds], P => (match intsD ds with
    | some ns => ∀ ns' : List Int, ns'.Perm ns → ns'.Pairwise (· ≤ ·) → P (.list (ns'.map PyData.int))
    | none => optK (strsD ds) fun ss => ss.length < 64 ∧ ∀ ys : List Str, ys.Perm ss → sortedS ys = true → P (.list (ys.map PyData.str)))
  | _, _ => False
def rSortA (K : PySem.W.Frag) : List V → Hp → VK → Prop := fun vs H Q => rSortedI K vs H Q ∨ rSortedS K vs H Q
theorem sort_s {K : PySem.W.Frag} : CalS K (rSortA K) sortG := by
  refine onelist (fun ds P => match intsD ds with
    | some ns => ∀ ns' : List Int, ns'.Perm ns → ns'.Pairwise (· ≤ ·) → P (.list (ns'.map PyData.int))
    | none => optK (strsD ds) fun ss => ss.length < 64 ∧ ∀ ys : List Str, ys.Perm ss → sortedS ys = true → P (.list (ys.map PyData.str))) (fun _ _ => rfl) (fun ds P n => ?_) (fun a xs ds H G P Q s hr ha q k => ?_) fun ds P P' hp q => ?_
  · unfold sortG; split <;> first | rfl | (exact absurd rfl (n _))
  · cases e : intsD ds with
    | some ns =>
      simp only [e] at q
      rw [ints_V ha e] at hr
      refine .inl ⟨a, ns, rfl, sql_of_rd (Same.rd s hr), fun ns' p h1 h2 np => ?_⟩
      have g := Grow.new (o := .lst (ns'.map V.int)) s np
      exact k _ _ _ _ (q ns' h1 h2) g (.lst (.inl upd_same) (dts_ints ns'))
    | none =>
      simp only [e] at q
      obtain ⟨ss, e2, l, q⟩ := optK_get q
      rw [strs_V ha e2] at hr
      refine .inr ⟨a, ss, rfl, sql_of_rd (Same.rd s hr), l, fun ys p h1 h2 np => ?_⟩
      have g := Grow.new (o := .lst (ys.map V.str)) s np
      exact k _ _ _ _ (q ys h1 h2) g (.lst (.inl upd_same) (strs_dt ys))
  · cases e : intsD ds with
    | some ns => simp only [e] at q ⊢; exact fun ns' h1 h2 => hp _ (q ns' h1 h2)
    | none => simp only [e] at q ⊢; exact optK_mono (fun ss z => ⟨z.1, fun ys h1 h2 => hp _ (z.2 ys h1 h2)⟩) q
theorem de_sorted (hm : X.mg "sorted" = none) (ha : DA X Γ W [a] ρ) (hg : Gl X "sorted" := by rfl) (he : starEach (a :: []) X.env = (false, eval a X.env) :: starEach [] X.env := by rfl) (hpl : (backTo pos (starEach [] X.env)).any (·.1) = false := by rfl) :
    DE X Γ W (.Call (.Name "sorted" p) [a] [] pos) (bR sortG ρ) := de_bltn (cr_sortedI.or cr_sortedS) sort_s hm (by decide +kernel) ha hg (pe_callB (cr_sortedI.or cr_sortedS) hg hm (by decide +kernel) ha.run (by decide) (by decide) he hpl)
end
/-! ### defs that call themselves: where nothing is promised -/
section
variable {P : Program} {w : World} {K : PySem.W.Frag} {mg : Str → Option Value} {base : Heap}
theorem calD_none {x : Str} {st : Stmt} {N ps : List Str} {k : Nat} {S : SP} (A : DefAt K mg x st ps) (sc : FnScope N ps (defScope st)) (mS : MonoS S) (no : ∀ ds E P, ¬ S ds E P) : CalD P w K mg base CX0 (k + 1) x ps S := by
  obtain ⟨f, fd, F, hm, hb⟩ := A.ex
  refine ⟨⟨f, fd, F.ok sc (fun vs H Q E h => ?_) (fun cdv A outer s H vs Q E hr h => ?_), hm, F.kp, hb, F.lk⟩, mS⟩
  · obtain ⟨G, ds, _, _, _, q⟩ := h
    exact absurd q (no _ _ _)
  · obtain ⟨G, ds, _, _, _, q⟩ := h
    exact absurd q (no _ _ _)
theorem calI_none {x : Str} {st : Stmt} {N ps : List Str} {k : Nat} {js : List Nat} {S : SPI} (A : DefAt K mg x st ps) (sc : FnScope N ps (defScope st)) (mS : MonoI S) (no : ∀ ds P, ¬ S ds P) : CalI P w K mg base CX0 (k + 1) x ps js S := by
  obtain ⟨f, fd, F, hm, hb⟩ := A.ex
  refine ⟨⟨f, fd, F.ok sc (fun vs H Q E h => ?_) (fun cdv A outer s H vs Q E hr h => ?_), hm, F.kp, hb⟩, mS⟩
  · obtain ⟨G, ds, par, _, _, _, _, _, q⟩ := h
    exact absurd q (no _ _)
  · obtain ⟨G, ds, par, _, _, _, _, _, q⟩ := h
    exact absurd q (no _ _)
theorem calN_none {x : Str} {st : Stmt} {N ps : List Str} {k : Nat} {S : SPN} (A : DefAt K mg x st ps) (sc : FnScope N ps (defScope st)) (mS : MonoN S) (no : ∀ ds P, ¬ S ds P) : CalN P w K mg base CX0 (k + 1) x ps S := by
  obtain ⟨f, fd, F, hm, hb⟩ := A.ex
  refine ⟨⟨f, fd, F.ok sc (fun vs H Q E h => ?_) (fun cdv A outer s H vs Q E hr h => ?_), hm, F.kp, hb⟩, mS⟩
  · obtain ⟨G, ds, _, _, _, q⟩ := h
    exact absurd q (no _ _)
  · obtain ⟨G, ds, _, _, _, q⟩ := h
    exact absurd q (no _ _)
end
end DL

/-! Objects of the program's own classes that are never changed behind their making: made, asked for their one attribute, their methods called. -/
namespace DL
open PySem PySem.Spec PyProof.Rows L2 NX
variable [TabsC]
abbrev insD (x : Str) (d : D) : D := .dict [(.str x, d)]
def insK (x : D) (F : Str → D → Prop) : Prop := match x with
  | .dict [(.str C, d)] => F C d
  | _ => False
theorem insK_get {x : D} {F : Str → D → Prop} (h : insK x F) : ∃ C d, x = insD C d ∧ F C d := by
  unfold insK at h
  split at h
  · exact ⟨_, _, rfl, h⟩
  · exact h.elim
theorem insK_mono {x : D} {F F' : Str → D → Prop} (i : ∀ C d, F C d → F' C d) (h : insK x F) : insK x F' := by
  obtain ⟨C, d, rfl, h⟩ := insK_get h
  exact i C d h
section
variable {X : Cx} {Γ : Ga} {W : WX} {a b o : Expr} {φa φb : RE} {pos p apos : Pos} {es : List Expr} {ρ : RA} {m : Str}
/-- e.body -/
def fldR (φ : RE) : RE := fun δ E P => φ δ E fun x δ1 => insK x fun _ d => P d δ1
theorem de_fld (ha : DE X Γ W a φa) (hb : attributeBase a "body" X.env (eval a X.env) = eval a X.env := by rfl) : DE X Γ W (.Attribute a "body" pos) (fldR φa) := by
  refine de_mk (pe_fld ha.run hb) (fun _ _ _ _ _ he hp q => ha.mono _ _ _ _ _ he (fun _ _ z => insK_mono (fun _ _ => hp _ _) z) q) fun σ H Q hid δ G R q => ha.go R q fun x δ1 v H1 G1 q1 R1 s1 d1 => ?_
  obtain ⟨C, d, rfl, q1⟩ := insK_get q1
  cases d1 with
  | @ins a1 C1 dx x1 v1 d1' h1 h2 h3 h4 h5 => exact ⟨a1, C1, dx, _, v1, rfl, R1.sub _ _ h1, h3, h4, rfl, q1 v1 H1 G1 R1 s1 h5⟩
/-- what Kind.__init__ promises -/
def spInit (K : PySem.W.Frag) : Sp := fun vs H Q _ => ∃ a v C dx, vs = [.ref a, v] ∧ H a = some (.ins C dx []) ∧ Cls K C ∧ NoAttr K C "body" ∧ Q .non (upd H a (.ins C dx [(("body" : Str), v)]))
/-- a class that may be made -/
structure MakD (P : Program) (w : World) (K : PySem.W.Frag) (mg : Str → Option Value) (base : Heap) (k : Nat) (x : Str) : Prop where
  ex : ∃ (f : Addr) (fd : FuncData), Mk K (He.ga K x) f ∧ FnOk P w K mg base CX0 k f fd ["self", "body"] (spInit K) ∧ Binds K fd ["self", "body"] []
  mg : mg x = some (.ref (He.ga K x))
  cls : Cls K (He.ga K x)
  no : NoAttr K (He.ga K x) "body"
def makR (x : Str) (φ : RE) : RE := fun δ E P => φ δ E fun d δ1 => P (insD x d) δ1
theorem de_make {x : Str} {k j : Nat} (c : MakD X.prog X.w X.K X.mg X.base k x) (hr : Room j X.A) (hk : k + 1 ≤ j) (ha : DE X Γ W a φa) (hg : Gl X x := by rfl) (hdb : (x == ("__debug__" : Str)) = false := by decide) (he : starEach [a] X.env = (false, eval a X.env) :: starEach [] X.env := by rfl)
    (hpl : (backTo pos (starEach [] X.env)).any (·.1) = false := by rfl) : DE X Γ W (.Call (.Name x p) [a] [] pos) (makR x φa) := by
  obtain ⟨f, fd, M, F, hb⟩ := c.ex
  refine de_mk (pe_make M F (hr.mono hk) hg c.mg hb .nil pass0 (E := E0) (pa_cons ha.run pa_nil he) hdb he hpl) (fun _ _ _ _ _ he hp q => ha.mono _ _ _ _ _ he (fun _ _ => hp _ _) q) fun σ H Q hid δ G R q => ha.go R q fun d δ1 v H1 G1 q1 R1 s1 d1 => ?_
  intro x1 dx nx nd ne
  refine ⟨x1, v, _, dx, rfl, upd_same, c.cls, c.no, rfl, ?_⟩
  rw [upd_upd]
  have nd1 : upd H1 dx (.own x1) x1 = none := by rw [upd_ne (fun z => ne z.symm)]; exact nx
  have g1 := Grow.newO (o := .own x1) R1.sub nd
  have g2 := Grow.new (o := .ins (He.ga X.K x) dx [(("body" : Str), v)]) g1.sub nd1
  have g := g1.trans g2
  exact q1 _ _ _ (R1.grow g) (s1.trans g.data) (.ins upd_same rfl c.cls c.no (dp_mono g.data d1))
/-- a method of a class: where it stands, what it promises -/
structure MetD (P : Program) (w : World) (K : PySem.W.Frag) (mg : Str → Option Value) (base : Heap) (CX : CXT) (k : Nat) (C m : Str) (ps : List Str) (S : SP) : Prop where
  ex : ∃ (f : Addr) (fd : FuncData), Meth K (He.ga K C) m f ∧ FnOk P w K mg base CX k f fd ps (spD K S) ∧ Binds K fd ps []
  mono : MonoS S
/-- o.m(..) of an object whose class is told by its value -/
def tMethA (P : Program) (w : World) (K : PySem.W.Frag) (mg : Str → Option Value) (base : Heap) (CX : CXT) (k : Nat) (m : Str) (E : L2.St → XK) (ta : TE) (t : TA) : TE := fun σ H Q => ta σ H fun x H1 => ∃ C a dx fs f fd ps sp, x = .ref a ∧ H1 a = some (.ins C dx fs) ∧ fs.lookup m = none ∧
  Cls K C ∧ Meth K C m f ∧ FnOk P w K mg base CX k f fd ps sp ∧ Binds K fd ps [] ∧ t σ H1 fun vs H2 => sp (x :: vs) H2 Q (E σ)
theorem pe_methA {CX : CXT} {k : Nat} {E : L2.St → XK} {ta : TE} {t : TA} {e : Expr} {pl : Sem Bool} (he : PE X o ta) (hr : Room k X.A) (hx : ∀ σ, PassesAt CX X σ (E σ)) (ha : PA X (e :: es) t) (hst : starEach (e :: es) X.env = (false, eval e X.env) :: starEach es X.env)
    (hpl : (backTo pos (starEach es X.env)).any (·.1) = false)
    (ht : eval (.Call (.Attribute o m apos) (e :: es) [] pos) X.env = (do let ov ← eval o X.env; standAt apos.atName; let (f, first) ← holding [ov] (getMethod ov m pl); callWith pos f first (backTo pos (starEach (e :: es) X.env)) (backToKw pos (keywordEach [] X.env)))) :
    PE X (.Call (.Attribute o m apos) (e :: es) [] pos) (tMethA X.prog X.w X.K X.mg X.base CX k m E ta t) := by
  refine ⟨fun pins s σ H Q I h => PySem.W.methodCall_KW (pl := pl) (thn (he.run pins s σ H _ I h) fun u s1 ⟨x, H1, I1, rx, C, a, dx, fs, f, fd, ps, sp, ex, ea, l, c, hm, F, hb, q⟩ => ?_) ht⟩
  subst ex
  have eu : u = Value.ref a := rx
  subst eu
  refine getmeth_ok I1 ea c hm l (PySem.W.callWith_K (first := [.ref a]) (h₀ := X.base) I.ok.mod.kin hm.kp (thn (ha.run pos pins s1 σ H1 _ I1 q) fun us s2 ⟨vs, H2, I2, r, q2⟩ => ⟨I2.kIn, ?_⟩) hst hpl)
  exact run_fnA (us := .ref a :: us) (vs := .ref a :: vs) F hr hb (hx σ) I2 (.cons rfl r) q2
theorem pe_methA0 {CX : CXT} {k : Nat} {E : L2.St → XK} {ta : TE} {pl : Sem Bool} (he : PE X o ta) (hr : Room k X.A) (hx : ∀ σ, PassesAt CX X σ (E σ))
    (ht : eval (.Call (.Attribute o m apos) [] [] pos) X.env = (do let ov ← eval o X.env; standAt apos.atName; let (f, first) ← holding [ov] (getMethod ov m pl); callWith pos f first (backTo pos (starEach [] X.env)) (backToKw pos (keywordEach [] X.env)))) :
    PE X (.Call (.Attribute o m apos) [] [] pos) (tMethA X.prog X.w X.K X.mg X.base CX k m E ta tNil) := by
  refine ⟨fun pins s σ H Q I h => PySem.W.methodCall_KW (pl := pl) (thn (he.run pins s σ H _ I h) fun u s1 ⟨x, H1, I1, rx, C, a, dx, fs, f, fd, ps, sp, ex, ea, l, c, hm, F, hb, q⟩ => ?_) ht⟩
  subst ex
  have eu : u = Value.ref a := rx
  subst eu
  exact getmeth_ok I1 ea c hm l (PySem.W.callWith_K0 (first := [.ref a]) I1.kIn hm.kp (run_fnA (us := [.ref a]) (vs := [.ref a]) F hr hb (hx σ) I1 (.cons rfl .nil) q))
/-- the reading: the class must be one of Cs -/
def metR (Cs : List Str) (S : Str → SP) (φ : RE) (ρ : RA) : RE := fun δ E P => φ δ E fun x δ1 => insK x fun C _ => bifP (Cs.elem C) (ρ δ1 E fun ds δ2 => S C (x :: ds) (fun e => E e δ2) (fun d => P d δ2)) False
theorem de_metT {CX : CXT} {k : Nat} {Cs : List Str} {S : Str → SP} {ps : List Str} {ta : TA} (c : ∀ C ∈ Cs, MetD X.prog X.w X.K X.mg X.base CX k C m ps (S C)) (hm : m ≠ "body") (ho : DE X Γ W o φa) (mr : Mono ρ)
    (run : PE X (.Call (.Attribute o m apos) es [] pos) (tMethA X.prog X.w X.K X.mg X.base CX k m (WE W) (LE X.K Γ W φa) ta))
    (go : ∀ {σ : L2.St} {H : Hp} {hid : Hd} {δ : DS} {G : Hp} {Q : List V → Hp → Prop} {P : List D → DS → Prop}, Rel X.K Γ hid σ H δ G → ρ δ (EK X.K Γ W hid) P → (∀ d δ1 v H1 G1, P d δ1 → Rel X.K Γ hid σ H1 δ1 G1 → Same G G1 → Dts X.K G1 v d → Q v H1) → ta σ H Q) :
    DE X Γ W (.Call (.Attribute o m apos) es [] pos) (metR Cs S φa ρ) := by
  have mS : ∀ {C}, Cs.elem C = true → MonoS (S C) := fun h => (c _ (List.elem_iff.mp h)).mono
  refine de_mk run (fun δ E E' P P' he hp q => ho.mono _ _ _ _ _ he (fun x δ1 z => insK_mono (fun C _ z => ?_) z) q) fun σ H Q hid δ G R q => ho.go R q fun x δ1 v H1 G1 q1 R1 s1 d1 => ?_
  · cases e : Cs.elem C with
    | false => rw [e] at z; exact z.elim
    | true => rw [e] at z; exact mr _ _ _ _ _ he (fun ds δ2 z => mS e _ _ _ _ _ (fun _ => he _ _) (fun _ => hp _ _) z) z
  · obtain ⟨C, d, rfl, q1⟩ := insK_get q1
    cases e : Cs.elem C with
    | false => rw [e] at q1; exact q1.elim
    | true =>
      rw [e] at q1
      obtain ⟨f, fd, hm2, F, hb⟩ := (c _ (List.elem_iff.mp e)).ex
      cases d1 with
      | @ins a1 C1 dx x1 v1 d1' h1 h2 h3 h4 h5 =>
        subst h2
        refine ⟨_, a1, dx, _, f, fd, ps, _, rfl, R1.sub _ _ h1, ?_, h3, hm2, F, hb, go R1 q1 fun ds δ2 vs H2 G2 q2 R2 s2 d2 => ?_⟩
        · have : (m == ("body" : Str)) = false := beq_eq_false_iff_ne.mpr hm
          simp only [List.lookup, this]
        · exact ⟨G2, insD C d :: ds, R2.sub, .cons (.ins (s2 _ _ h1) rfl h3 h4 (dp_mono s2 h5)) d2, R2.tb.gg, mS e _ _ _ _ _ (fun x1 w1 cls d3 H3 G3 g ex => w1 cls d3 σ H3 G3 (R2.grow g) ex) (fun d3 w1 v3 H3 G3 g dd => w1 v3 H3 G3 (R2.grow g) ((s1.trans s2).trans g.data) dd) q2⟩
theorem de_meth {CX : CXT} {k j : Nat} {Cs : List Str} {S : Str → SP} {ps : List Str} {pl : Sem Bool} (c : ∀ C ∈ Cs, MetD X.prog X.w X.K X.mg X.base CX k C m ps (S C)) (hr : Room j X.A) (hk : k ≤ j) (hx : ∀ σ, PassesAt CX X σ (WE W σ)) (ho : DE X Γ W o φa) (ha : DA X Γ W (a :: es) ρ) (hm : m ≠ "body" := by decide)
    (hst : starEach (a :: es) X.env = (false, eval a X.env) :: starEach es X.env := by rfl) (hpl : (backTo pos (starEach es X.env)).any (·.1) = false := by rfl)
    (ht : eval (.Call (.Attribute o m apos) (a :: es) [] pos) X.env = (do let ov ← eval o X.env; standAt apos.atName; let (f, first) ← holding [ov] (getMethod ov m pl); callWith pos f first (backTo pos (starEach (a :: es) X.env)) (backToKw pos (keywordEach [] X.env))) := by rfl) :
    DE X Γ W (.Call (.Attribute o m apos) (a :: es) [] pos) (metR Cs S φa ρ) :=
  de_metT c hm ho ha.mono (pe_methA ho.run (hr.mono hk) hx ha.run hst hpl ht) fun R q k => ha.go R q k
def nilR : RA := fun δ _ P => P [] δ
theorem de_meth0 {CX : CXT} {k j : Nat} {Cs : List Str} {S : Str → SP} {ps : List Str} {pl : Sem Bool} (c : ∀ C ∈ Cs, MetD X.prog X.w X.K X.mg X.base CX k C m ps (S C)) (hr : Room j X.A) (hk : k ≤ j) (hx : ∀ σ, PassesAt CX X σ (WE W σ)) (ho : DE X Γ W o φa) (hm : m ≠ "body" := by decide)
    (ht : eval (.Call (.Attribute o m apos) [] [] pos) X.env = (do let ov ← eval o X.env; standAt apos.atName; let (f, first) ← holding [ov] (getMethod ov m pl); callWith pos f first (backTo pos (starEach [] X.env)) (backToKw pos (keywordEach [] X.env))) := by rfl) :
    DE X Γ W (.Call (.Attribute o m apos) [] [] pos) (metR Cs S φa nilR) :=
  de_metT c hm ho (fun _ _ _ _ _ _ hp q => hp _ _ q) (pe_methA0 ho.run (hr.mono hk) hx ht) fun R q k => k _ _ _ _ _ q R (Same.refl _) .nil
end
end DL

/-! A def within a def that is handed to another def: what it promises, what that other def («mapped») makes of it. -/
namespace DL
open PySem PySem.Spec PyProof.Rows L2 NX NdefX
variable [TabsC]
abbrev objD (a : Addr) : D := .dict [(.none, .int a)]
/-- the code object of F is known, and the table that it has -/
def CodeK (H : Hp) (F : NF) : Prop := ∃ P', H F.c = some (CodeX F.c P' F.qual) ∧ Owner H P' F.qual
/-- what a function made within a def promises: its arguments, then what it captured -/
structure ClOk (P : Program) (w : World) (K : PySem.W.Frag) (mg : Str → Option Value) (base : Heap) (k : Nat) (F : NF) (fr : List Str) (n : Nat) (S : SP) : Prop where
  run : ∀ (f : Addr) (cs : List V) (A : Around) (outer : List Env) (s : Shared) (H : Hp) (us : List Value) (vs : List V) (Q : VK) (E : XK), vs.length = n → Room k A → Env0 P w K mg base A outer s H → H f = some (FnO f F) → CodeK H F → CellsAt F.cl fr (cs.map some) s.heap H →
    Vals vs us → spD K S (vs ++ cs) H Q E → codeAny (model P w) A (.call (.ref f) ⟨us, []⟩) (CR CX0 outer P w H s Q E) s
  mono : MonoS S
section
variable {P : Program} {w : World} {K : PySem.W.Frag} {mg : Str → Option Value} {base : Heap}
theorem startF_eq {N : List Str} {vs cs : List V} : startF N vs (cs.map some) = L2.start N (vs ++ cs) := by
  unfold startF L2.start
  rw [List.map_append, List.append_assoc, List.length_append, List.length_map]
  congr 3
  omega
theorem clOk {F : NF} {N ps fr : List Str} {k : Nat} {S : SP} (sc : MScope N ps fr F.scope) (hb : ∀ (doc pm ctv : Value) (us : List Value), us.length = ps.length → bindArgs (F.fd doc pm ctv) ⟨us, []⟩ = pure (ps.zip us)) (mS : MonoS S)
    (hbody : ∀ (f : Addr) (A : Around) (outer : List Env) (s : Shared) (H : Hp) (E : XK), Room k (A.deeper (envM F f s.heap.objs.size)) → CodeK H F → ∀ Γ : Ga, Γ.H0 = H → Γ.par = [] →
      ∃ ψ, DB (mcx CX0 P w K mg base N F f A outer s H E).nox Γ W0 F.body ψ ∧ ∀ ds E P, S ds E P → ψ (startD N ds) E0K (retK P)) : ClOk P w K mg base (k + 1) F fr ps.length S := by
  refine ⟨fun f cs A outer s H us vs Q E hl hr e0 hf hc C r h => ?_, mS⟩
  refine run_M sc hb hr e0 hf (hc.imp fun _ z => z.1) C r hl fun hr2 => ?_
  obtain ⟨G, ds, sG, hd, gd, q⟩ := h
  obtain ⟨ψ, dr, hψ⟩ := hbody f A outer s H E hr2 hc ⟨H, G, []⟩ rfl rfl
  refine ⟨_, dr.run.nox, ⟨[], G⟩, startD N ds, G, (by rw [startF_eq]; exact rel_start sG hd gd), dr.mono _ _ _ _ _ E0_up (fun fl δ h1 => ?_) (hψ ds _ _ q)⟩
  cases fl with
  | nx => exact fun σ H1 G1 R1 => h1 _ H1 G1 R1.grown .non
  | bk => exact h1.elim
  | ct => exact h1.elim
  | rt d => exact fun v σ H1 G1 R1 dv => h1 v H1 G1 R1.grown dv
  | rtO o => cases o with
    | lst ds =>
      exact fun p σ H1 G1 R1 n => by
        obtain ⟨G2, R2, s2, d2⟩ := R1.newData n
        exact h1 _ H1 G2 R2.grown d2
end
/-- what mapped makes of a moment, S the worker's promise -/
def mapK (S : List D → (D → Prop) → Prop) : Nat → D → (D → Prop) → Prop
  | 0, _, _ => False
  | n + 1, m, P => match m with
    | .tuple [.str u, a, b] => bifP (u == ("due" : Str)) (S [a, b] P) (mapK S n a fun a' => mapK S n b fun b' => P (.tuple [.str u, a', b']))
    | _ => False
theorem mapK_mono {S : List D → (D → Prop) → Prop} (mS : ∀ ds P P', (∀ d, P d → P' d) → S ds P → S ds P') : ∀ (n : Nat) (m : D) (P P' : D → Prop), (∀ d, P d → P' d) → mapK S n m P → mapK S n m P'
  | 0, _, _, _, _, h => h.elim
  | n + 1, m, P, P', i, h => by
    unfold mapK at h ⊢
    split at h
    · exact bif_mono (mS _ _ _ i) (mapK_mono mS n _ _ _ fun a' => mapK_mono mS n _ _ _ fun b' => i _) h
    · exact h.elim
/-- the worker's promise where it captured cds -/
def withC (S : SP) (cds : List D) : List D → (D → Prop) → Prop := fun ds P => S (ds ++ cds) (fun _ => False) P
theorem withC_mono {S : SP} (mS : MonoS S) (cds : List D) : ∀ ds P P', (∀ d, P d → P' d) → withC S cds ds P → withC S cds ds P' := fun ds P P' i h => mS _ _ _ _ _ (fun _ z => z) i h
def spMap (K : PySem.W.Frag) (S : SP) (n : Nat) (v : V) (cs : List V) (H : Hp) (Q : VK) : Prop := ∃ G m cds, Same G H ∧ Dt K G v m ∧ Dts K G cs cds ∧ (Good H ∧ GN G) ∧ mapK (withC S cds) n m fun d => ∀ v' H' G', Grow [] H G H' G' → Dt K G' v' d → Q v' H'
/-- «mapped» at fm keeps its promise with the function F -/
def MapOk (P : Program) (w : World) (K : PySem.W.Frag) (mg : Str → Option Value) (base : Heap) (fm : Addr) (k : Nat) (F : NF) (fr : List Str) (S : SP) (n : Nat) : Prop :=
  ∀ (f : Addr) (cs : List V) (A : Around) (outer : List Env) (s : Shared) (H : Hp) (u : Value) (v : V) (Q : VK) (E : XK), Room (k + 1 + n) A → Env0 P w K mg base A outer s H → H f = some (FnO f F) → CodeK H F → CellsAt F.cl fr (cs.map some) s.heap H → RelV v u → spMap K S n v cs H Q →
    codeAny (model P w) A (.call (.ref fm) ⟨[u, .ref f], []⟩) (CR CX0 outer P w H s Q E) s
section
variable {X : Cx} {Γ : Ga} {W : WX} {a b : Expr} {φa φb : RE} {pos p : Pos} {es : List Expr} {ρ : RA} {k j n : Nat} {F : NF} {fr : List Str} {S : SP} {wsOf : L2.St → List (Option V)} {x : Str} {i : Nat}
/-- a call's end, seen from a body -/
theorem end_call {pins : List (Addr × Obj)} {σ : L2.St} {H : Hp} {s : Shared} {Q : VK} {E : XK} {cd : Code} (I : Inv X pins σ H s) (h : codeAny (model X.prog X.w) X.A cd (CR CX0 X.stack X.prog X.w H s Q E) s) :
    codeAny (model X.prog X.w) X.A cd (fun r s' => match r with
      | .ok (.ret u) => EP X pins σ Q u s'
      | .ok _ => False
      | .error e => X.xe e s') s := by
  refine codeAny_mono h fun r s' hq => ?_
  cases r with
  | error e => exact (show False from hq).elim
  | ok fl =>
    cases fl with
    | ret u => exact I.after hq
    | _ => exact (show False from hq).elim
def tWk (F : NF) (K : PySem.W.Frag) (S : SP) (n i : Nat) (wsOf : L2.St → List (Option V)) (t : TA) : TE := fun σ H Q => ∃ f, σ[i]? = some (some (.ref f)) ∧ H f = some (FnO f F) ∧ t σ H fun vs H1 => vs.length = n ∧ H1 f = some (FnO f F) ∧ CodeK H1 F ∧ ∃ cs, wsOf σ = cs.map some ∧ spD K S (vs ++ cs) H1 Q fun _ _ _ => False
theorem pe_wk {t : TA} {e : Expr} (c : ClOk X.prog X.w X.K X.mg X.base k F fr n S) (hc : ∀ {pins s σ H}, Inv X pins σ H s → CellsAt F.cl fr (wsOf σ) s.heap H) (hr : Room j X.A) (hk : k ≤ j) (ha : PA X (e :: es) t) (hN : X.N[i]? = some x) (hv : Vis X.env.scope x)
    (hd : (x == ("__debug__" : Str)) = false) (hcd : (x == ("__classdict__" : Str)) = false) (he : starEach (e :: es) X.env = (false, eval e X.env) :: starEach es X.env) (hpl : (backTo pos (starEach es X.env)).any (·.1) = false) :
    PE X (.Call (.Name x p) (e :: es) [] pos) (tWk F X.K S n i wsOf t) := by
  refine ⟨fun pins s σ H Q I ⟨f, hs, hf, ht⟩ => ?_⟩
  refine wpAny_Call_Name_kw (thn ((pe_var (pos := p) hN hv hd hcd).run pins s σ H (fun v H1 => v = .ref f ∧ H1 = H) I ⟨.ref f, hs, rfl, rfl⟩) fun u s1 ⟨v, H1, I1, r1, ev, eH⟩ => ?_)
  subst ev
  rw [eH] at I1
  have eu : u = Value.ref f := r1
  subst eu
  refine PySem.W.callWith_F (first := []) (fnAt_of I1 hf) (thn (ha.run pos pins s1 σ H _ I1 ht) fun us s2 ⟨vs, H2, I2, r, hl, h1, h2, cs, ew, q⟩ => ⟨fnAt_of I2 h1, ?_⟩) he hpl
  exact wpAny_call (end_call I2 (c.run f cs X.A X.stack s2 H2 us vs Q _ hl (hr.mono hk) I2.env0 h1 h2 (by rw [← ew]; exact hc I2) r q))
def tMp (F : NF) (K : PySem.W.Frag) (S : SP) (n : Nat) (wsOf : L2.St → List (Option V)) (t : TA) : TE := fun σ H Q => t σ H fun vs H1 => ∃ v f cs, vs = [v, .ref f] ∧ wsOf σ = cs.map some ∧ H1 f = some (FnO f F) ∧ CodeK H1 F ∧ spMap K S n v cs H1 Q
theorem pe_mp {t : TA} {fm : Addr} (c : MapOk X.prog X.w X.K X.mg X.base fm k F fr S n) (hc : ∀ {pins s σ H}, Inv X pins σ H s → CellsAt F.cl fr (wsOf σ) s.heap H) (hr : Room j X.A) (hk : k + 1 + n ≤ j) (hg : Gl X x) (hm : X.mg x = some (.ref fm)) (hkp : PySem.W.keepIn X.K (.ref fm) = true) (ha : PA X [a, b] t)
    (hd : (x == ("__debug__" : Str)) = false) (he : starEach [a, b] X.env = (false, eval a X.env) :: starEach [b] X.env) (hpl : (backTo pos (starEach [b] X.env)).any (·.1) = false) : PE X (.Call (.Name x p) [a, b] [] pos) (tMp F X.K S n wsOf t) := by
  refine ⟨fun pins s σ H Q I h => wpAny_Call_Name_kw (ld_glob I hg hm ?_ hd)⟩
  refine PySem.W.callWith_K (h₀ := X.base) I.ok.mod.kin hkp (thn (ha.run pos pins s σ H _ I h) fun us s1 ⟨vs, H1, I1, r, v, f, cs, ev, ew, h1, h2, q⟩ => ⟨I1.kIn, ?_⟩) he hpl
  subst ev
  cases r with
  | cons r1 r =>
    cases r with
    | cons r2 r =>
      cases r
      have e2 : _ = Value.ref f := r2
      subst e2
      exact wpAny_call (end_call I1 (c f cs X.A X.stack s1 H1 _ v Q (fun _ _ _ => False) (hr.mono hk) I1.env0 h1 h2 (by rw [← ew]; exact hc I1) r1 q))
end
end DL

/-! «mapped» and the defs that hand it a def of theirs. -/
namespace DL
open PySem PySem.Spec PyProof.Rows L2 NX NdefX
variable [TabsC]
def objK (o : Option Sl) (f : Addr) (A : Prop) : Prop := match o with
  | some (.sh (.dict [(.none, .int a)])) => a = (f : Int) ∧ A
  | _ => False
theorem objK_get {o : Option Sl} {f : Addr} {A : Prop} (h : objK o f A) : o = some (.sh (objD f)) ∧ A := by
  unfold objK at h
  split at h
  · obtain ⟨rfl, h⟩ := h
    exact ⟨rfl, h⟩
  · exact h.elim
theorem objK_of {f : Addr} {A : Prop} (h : A) : objK (some (.sh (objD f))) f A := ⟨rfl, h⟩
theorem obj_slot {K : PySem.W.Frag} {Γ : Ga} {hid : Hd} {σ : L2.St} {H : Hp} {δ : DS} {G : Hp} {i : Nat} {f : Addr} (R : Rel K Γ hid σ H δ G) (e : δ.get i = some (.sh (objD f))) : σ[i]? = some (some (.ref f)) := by
  obtain ⟨v, h1, h2⟩ := R.sl i _ e
  generalize ed : objD f = d at h2
  cases h2 with
  | obj a =>
    injection ed with ed
    injection ed with ed
    injection ed with _ ed
    injection ed with ed
    have : f = a := Int.ofNat.inj ed
    rw [this]
    exact h1
  | ins _ _ _ _ _ => cases ed
  | _ => cases ed
/-- what holds in a def that was handed the function F at f, which captured cs -/
structure CloIn (X : Cx) (Γ : Ga) (F : NF) (fr : List Str) (f : Addr) (cs : List V) (cds : List D) : Prop where
  h0 : Γ.H0 = X.H_0
  par : Γ.par = []
  ex : X.ex = []
  fn : X.H_0 f = some (FnO f F)
  cd : CodeK X.H_0 F
  ce : CellsAt F.cl fr (cs.map some) X.s_0.heap X.H_0
  cs : Dts X.K Γ.G0 cs cds
theorem nt_fn {f : Addr} {F : NF} : NT (FnO f F) := fun t z => by unfold FnO at z; cases z
theorem nt_code {c P' : Addr} {q : Str} : NT (CodeX c P' q) := fun t z => by unfold CodeX at z; cases z
section
variable {X : Cx} {Γ : Ga} {W : WX} {a b : Expr} {φa φb : RE} {pos p p2 : Pos} {es : List Expr} {ρ : RA} {k j n : Nat} {F : NF} {fr : List Str} {S : SP} {x y : Str} {f : Addr} {cs : List V} {cds : List D}
theorem CloIn.now (B : CloIn X Γ F fr f cs cds) {hid : Hd} {σ : L2.St} {H : Hp} {δ : DS} {G : Hp} (R : Rel X.K Γ hid σ H δ G) : H f = some (FnO f F) ∧ CodeK H F ∧ Dts X.K G cs cds := by
  have np : ∀ (b : Addr), ∀ q ∈ Γ.par, q.2 ≠ b := fun b q hq => by rw [B.par] at hq; cases hq
  obtain ⟨P', h1, h2⟩ := B.cd
  exact ⟨R.fr f _ (by rw [B.h0]; exact B.fn) (np f) nt_fn, ⟨P', R.fr _ _ (by rw [B.h0]; exact h1) (np _) nt_code, R.tb.own _ _ (by rw [B.h0]; exact h2)⟩, dpa_mono R.ext B.cs⟩
/-- worker(..) -/
def wkR (i : Nat) (f : Addr) (S : SP) (cds : List D) (ρ : RA) : RE := fun δ E P => objK (δ.get i) f (ρ δ E fun ds δ1 => withC S cds ds fun d => P d δ1)
theorem de_wk (B : CloIn X Γ F fr f cs cds) (c : ClOk X.prog X.w X.K X.mg X.base k F fr n S) (hr : Room j X.A) (hk : k ≤ j) (i : Nat) (hn : (a :: es).length = n) (ha : DA X Γ W (a :: es) ρ) (hN : X.N[i]? = some x := by rfl) (hv : Vis X.env.scope x := by first | exact Or.inl rfl | exact Or.inr (Or.inl rfl) | exact Or.inr (Or.inr rfl))
    (hd : (x == ("__debug__" : Str)) = false := by decide) (hcd : (x == ("__classdict__" : Str)) = false := by decide) (he : starEach (a :: es) X.env = (false, eval a X.env) :: starEach es X.env := by rfl) (hpl : (backTo pos (starEach es X.env)).any (·.1) = false := by rfl) :
    DE X Γ W (.Call (.Name x p) (a :: es) [] pos) (wkR i f S cds ρ) := by
  refine de_mk (pe_wk (wsOf := fun _ => cs.map some) c (fun I => cells_later B.ce B.ex I) hr hk ha.run hN hv hd hcd he hpl) ?_ fun σ H Q hid δ G R q => ?_
  · intro δ E E' P P' he hp q
    obtain ⟨e, q⟩ := objK_get q
    show objK (δ.get i) f _
    rw [e]
    exact objK_of (ha.mono _ _ _ _ _ he (fun ds δ1 z => withC_mono c.mono cds _ _ _ (fun _ => hp _ _) z) q)
  · obtain ⟨e, q⟩ := objK_get q
    refine ⟨f, obj_slot R e, (B.now R).1, ha.go R (ha.len _ _ _ q) fun ds δ1 vs H1 G1 q1 R1 s1 d1 => ?_⟩
    obtain ⟨h1, h2, h3⟩ := B.now R1
    refine ⟨by rw [dpa_length d1, q1.1]; exact hn, h1, h2, cs, rfl, G1, ds ++ cds, R1.sub, dpa_append d1 h3, R1.tb.gg, c.mono _ _ _ _ _ (fun _ z => z.elim) (fun d w1 v H2 G2 g dd => w1 v H2 G2 (R1.grow g) (s1.trans g.data) dd) q1.2⟩
/-- mapped(e, worker), within mapped -/
def mpR (i : Nat) (f : Addr) (S : SP) (cds : List D) (n : Nat) (φ : RE) : RE := fun δ E P => φ δ E fun m δ1 => objK (δ1.get i) f (mapK (withC S cds) n m fun d => P d δ1)
theorem de_mp {fm : Addr} (B : CloIn X Γ F fr f cs cds) (c : MapOk X.prog X.w X.K X.mg X.base fm k F fr S n) (mS : MonoS S) (hr : Room j X.A) (hk : k + 1 + n ≤ j) (hm : X.mg x = some (.ref fm)) (hkp : PySem.W.keepIn X.K (.ref fm) = true) (i : Nat) (ha : DE X Γ W a φa) (hg : Gl X x := by rfl) (hN : X.N[i]? = some y := by rfl)
    (hv : Vis X.env.scope y := by first | exact Or.inl rfl | exact Or.inr (Or.inl rfl) | exact Or.inr (Or.inr rfl)) (hd : (x == ("__debug__" : Str)) = false := by decide) (hd2 : (y == ("__debug__" : Str)) = false := by decide) (hcd : (y == ("__classdict__" : Str)) = false := by decide)
    (he : starEach (a :: [.Name y p2]) X.env = (false, eval a X.env) :: starEach [.Name y p2] X.env := by rfl) (he2 : starEach (.Name y p2 :: []) X.env = (false, eval (.Name y p2) X.env) :: starEach [] X.env := by rfl) (hpl : (backTo pos (starEach [.Name y p2] X.env)).any (·.1) = false := by rfl) :
    DE X Γ W (.Call (.Name x p) [a, .Name y p2] [] pos) (mpR i f S cds n φa) := by
  refine de_mk (pe_mp (wsOf := fun _ => cs.map some) c (fun I => cells_later B.ce B.ex I) hr hk hg hm hkp (pa_cons ha.run (pa_cons (pe_var (i := i) hN hv hd2 hcd) pa_nil he2) he) hd he hpl) ?_ fun σ H Q hid δ G R q => ?_
  · intro δ E E' P P' he hp q
    refine ha.mono _ _ _ _ _ he (fun m δ1 q1 => ?_) q
    obtain ⟨e, q1⟩ := objK_get q1
    rw [e]
    exact objK_of (mapK_mono (withC_mono mS cds) _ _ _ _ (fun _ => hp _ _) q1)
  · refine ha.go R q fun m δ1 v H1 G1 q1 R1 s1 d1 => ?_
    obtain ⟨e, q1⟩ := objK_get q1
    obtain ⟨h1, h2, h3⟩ := B.now R1
    exact ⟨.ref f, obj_slot R1 e, v, f, cs, rfl, rfl, h1, h2, G1, m, cds, R1.sub, d1, h3, R1.tb.gg, mapK_mono (withC_mono mS cds) _ _ _ _ (fun d w1 v2 H2 G2 g dd => w1 v2 H2 G2 (R1.grow g) (s1.trans g.data) dd) q1⟩
end
section
variable {P : Program} {w : World} {K : PySem.W.Frag} {mg : Str → Option Value} {base : Heap}
/-- mapped, by its body -/
theorem mapOk {x : Str} {st : Stmt} {fm : Addr} {fd : FuncData} {N : List Str} {py : Str × Str} {k : Nat} {F : NF} {fr : List Str} {S : SP} (A : Fun K x x st fm fd) (sc : FnScope N [py.1, py.2] (defScope st)) (hb : Binds K fd [py.1, py.2] [])
    (hbody : ∀ (n : Nat) (cdv : Value) (f : Addr) (cs : List V) (cds : List D) (B : Around) (outer : List Env) (s : Shared) (H : Hp) (E : XK), Room (k + n) (B.deeper (envOfC x (defScope st) s.heap.objs.size fm cdv)) → (∀ n', n = n' + 1 → MapOk P w K mg base fm k F fr S n') → ∀ Γ : Ga,
      CloIn (cxOf CX0 P w K mg base N x (defScope st) fm cdv B outer s H E).nox Γ F fr f cs cds → ∃ ψ, DB (cxOf CX0 P w K mg base N x (defScope st) fm cdv B outer s H E).nox Γ W0 (defBody st) ψ ∧ ∀ m P, mapK (withC S cds) n m P → ψ (startD N [m, objD f]) E0K (retK P)) :
    ∀ n, MapOk P w K mg base fm k F fr S n := by
  intro n
  induction n with
  | zero =>
    intro f cs B outer s H u v Q E hr e0 hf hc C r h
    obtain ⟨_, _, _, _, _, _, _, q⟩ := h
    exact q.elim
  | succ n ih =>
    intro f cs B outer s H u v Q E hr e0 hf hc C r h
    obtain ⟨G, m, cds, sG, dm, dc, gd, q⟩ := h
    have hb' := hb s [u, .ref f] (e0.mod.kin.keeps fun b o e => (e0.bs b o e).1) rfl
    obtain ⟨oc, od, kV, doc, pm, an, cdv, ct, osl, rfl, lk, hcd⟩ := A.ex
    refine LamX.run_ofS (N := N) (ps := [py.1, py.2]) (us := [u, .ref f]) (vs := [v, .ref f]) lk hcd sc (k := k + (n + 1)) (hr.mono (by omega)) e0 hb' (.cons r (.cons rfl .nil)) rfl fun hr2 => ?_
    obtain ⟨ψ, dr, hψ⟩ := hbody (n + 1) cdv f cs cds B outer s H E hr2 (fun n' e => by injection e with e; subst e; exact ih) ⟨H, G, []⟩ ⟨rfl, rfl, rfl, hf, hc, C, dc⟩
    refine ⟨_, dr.run.nox, ⟨[], G⟩, startD N [m, objD f], G, rel_start sG (.cons dm (.cons (.obj f) .nil)) gd, dr.mono _ _ _ _ _ E0_up (fun fl δ h1 => ?_) (hψ m _ q)⟩
    cases fl with
    | nx => exact fun σ H1 G1 R1 => h1 _ H1 G1 R1.grown .non
    | bk => exact h1.elim
    | ct => exact h1.elim
    | rt d => exact fun v σ H1 G1 R1 dv => h1 v H1 G1 R1.grown dv
    | rtO o => cases o with
      | lst ds =>
        exact fun p σ H1 G1 R1 n => by
          obtain ⟨G2, R2, s2, d2⟩ := R1.newData n
          exact h1 _ H1 G2 R2.grown d2
end
end DL

/-! def worker(..): ..; return mapped(e, worker) -/
namespace DL
open PySem PySem.Spec PyProof.Rows L2 NX NdefX
variable [TabsC]
def noOwn : DS → Bool
  | [] => true
  | some (.ow _) :: _ => false
  | some (.io _) :: _ => false
  | _ :: r => noOwn r
theorem noOwn_get : ∀ {δ : DS}, noOwn δ = true → ∀ i s, δ.get i = some s → ∃ d, s = .sh d
  | [], _, i, s, h => by cases h
  | some (.sh d) :: r, h, 0, s, e => by cases e; exact ⟨d, rfl⟩
  | none :: r, h, 0, s, e => by cases e
  | some (.sh d) :: r, h, i + 1, s, e => noOwn_get (δ := r) h i s e
  | none :: r, h, i + 1, s, e => noOwn_get (δ := r) h i s e
  | some (.ow _) :: r, h, _, _, _ => by cases h
  | some (.io _) :: r, h, _, _, _ => by cases h
/-- the data of some slots -/
def capK (δ : DS) : List Nat → Option (List D)
  | [] => some []
  | j :: js => match δ.get j with
    | some (.sh d) => (capK δ js).map (d :: ·)
    | _ => none
theorem cap_at {K : PySem.W.Frag} {Γ : Ga} {hid : Hd} {σ : L2.St} {H : Hp} {δ : DS} {G : Hp} (R : Rel K Γ hid σ H δ G) : ∀ {js : List Nat} {cds : List D}, capK δ js = some cds → ∃ cs : List V, js.map (slotAt σ) = cs.map some ∧ Dts K G cs cds
  | [], _, e => by cases e; exact ⟨[], rfl, .nil⟩
  | j :: js, cds, e => by
    unfold capK at e
    cases q : δ.get j with
    | none => rw [q] at e; cases e
    | some s =>
      rw [q] at e
      cases s with
      | sh d =>
        obtain ⟨cds', e1, rfl⟩ := Option.map_eq_some_iff.mp e
        obtain ⟨cs, e2, h⟩ := cap_at R e1
        obtain ⟨v, h1, h2⟩ := R.sl j _ q
        exact ⟨v :: cs, by rw [List.map_cons, List.map_cons, e2, slotAt_of h1], .cons h2 h⟩
      | _ => cases e
def cloR (i : Nat) (js : List Nat) (n : Nat) (S : SP) (φ : RE) : RB := fun δ E P => bifP (noOwn δ) (φ (List.set δ i none) E0K fun m _ => ∃ cds, capK (List.set δ i none) js = some cds ∧ mapK (withC S cds) n m fun d => P (.rt d) δ) False
section
variable {X : Cx} {Γ : Ga} {W : WX} {a : Expr} {φa : RE} {k j n : Nat} {fr : List Str} {S : SP} {x name : Str} {p1 p2 p3 p4 dpos : Pos} {params : Arguments} {body : List Stmt} {scope : Scope} {PC : Hp → Prop} {c P fm : Addr} {q : Str} {js : List Nat}
/-- the function that the def makes, its code object at c -/
abbrev mkNF (X : Cx) (name : Str) (params : Arguments) (body : List Stmt) (scope : Scope) (c' : Addr) : NF := ⟨name, X.env.qual ++ name, params, body, scope, cloFrom X.env.cells scope.names [], c'⟩
theorem db_clo (i : Nat) (own : ∀ {hid σ H δ G}, Rel X.K Γ hid σ H δ G → PC H ∧ Owner H P q) (hC : ∀ pins s σ H, Inv X pins σ H s → PC H → PySem.W.CodeHd s.heap c P) (bm : BM X.base X.mg) (hcode : X.env.code = .ref c) (hq : TabsC.nm q = X.env.qual ++ name)
    (mS : MonoS S) (ha : ∀ Γ', DE X Γ' W0 a φa) (mp : ∀ c', MapOk X.prog X.w X.K X.mg X.base fm k (mkNF X name params body scope c') fr S n) (hr : Room j X.A) (hk : k + 1 + n ≤ j) (hm : X.mg x = some (.ref fm)) (hkp : PySem.W.keepIn X.K (.ref fm) = true)
    (hN : X.N.Nodup) (hfree : ∀ y ∈ scope.names, y.2 = .free → X.env.scope.names.lookup y.1 = some .cell ∨ X.env.scope.names.lookup y.1 = some .free) (hfr : ∀ y ∈ fr, (y, NameKind.free) ∈ scope.names)
    (hjs : js.map (fun j => X.N[j]?) = fr.map some := by rfl) (hd0 : params.defaults = [] := by rfl) (hk0 : params.kw_defaults = [] := by rfl) (han : annTrees params none X.env = [] := by rfl) (hi : X.N[i]? = some name := by rfl) (hx : X.env.scope.names.lookup name = some .local := by rfl)
    (hg : Gl X x := by rfl) (hdb : (x == ("__debug__" : Str)) = false := by decide) (hd2 : (name == ("__debug__" : Str)) = false := by decide) (hcd : (name == ("__classdict__" : Str)) = false := by decide)
    (he : starEach (a :: [.Name name p2]) X.env = (false, eval a X.env) :: starEach [.Name name p2] X.env := by rfl) (he2 : starEach (.Name name p2 :: []) X.env = (false, eval (.Name name p2) X.env) :: starEach [] X.env := by rfl) (hpl : (backTo p3 (starEach [.Name name p2] X.env)).any (·.1) = false := by rfl) :
    DB X Γ W [.FunctionDef name params body [] none [] scope none name dpos, .Return (some (.Call (.Name x p1) [a, .Name name p2] [] p3)) p4] (cloR i js n S φa) := by
  have hv : Vis X.env.scope name := .inl hx
  refine ⟨⟨fun pins s σ H Dn I ⟨hid, δ, G, R, q0⟩ => ?_⟩, fun δ E E' P P' _ hp q0 => ?_⟩
  · cases eno : noOwn δ with
    | false => unfold cloR at q0; rw [eno] at q0; exact q0.elim
    | true =>
      unfold cloR at q0
      rw [eno] at q0
      have shs := noOwn_get eno
      have nown : ∀ j, ¬ Own δ j := fun j ⟨o, h⟩ => by
        rcases h with h | h
        · obtain ⟨d, z⟩ := shs _ _ h; cases z
        · obtain ⟨d, z⟩ := shs _ _ h; cases z
      have gset : ∀ j, DS.get (List.set δ i none) j = if i = j then none else δ.get j := fun j => by
        rw [DS.get_set]
        by_cases c : i = j
        · subst c
          by_cases l : i < δ.length
          · rw [if_pos ⟨rfl, l⟩, if_pos rfl]
          · rw [if_neg (fun z => l z.2), if_pos rfl]
            cases e : δ.get i with
            | none => rfl
            | some s => exact absurd (DS.get_lt e) l
        · rw [if_neg (fun z => c z.1), if_neg c]
      -- the rest, from the state behind the def
      have rest := fun c' => (pss_one (ps_ret (pos := p4) (pe_mp (p := p1) (wsOf := fun σ => js.map (slotAt σ)) (mp c') (fun {pins s σ H} I => cells_of I (Caps.made I.ok hfree hfr hjs)) hr hk hg hm hkp
        (pa_cons (ha ⟨fun _ => none, fun _ => none, []⟩).run (pa_cons (pe_var (i := i) hi hv hd2 hcd) pa_nil he2) he) hdb he hpl)))
      obtain ⟨pc, ow⟩ := own R
      refine wpAny_execs_cons (thn ((ps_nd (i := i) (params := params) (body := body) (scope := scope) (pos := dpos) hcode hC bm hq hfree hd0 hk0 han hN hi (.inl hx) (.inr hx)).run pins s σ H { nx := fun σ1 H1 => ∃ (f c' : Addr), σ1 = σ.set i (some (.ref f)) ∧ Rel X.K ⟨H1, G, []⟩ ⟨[], G⟩ σ1 H1 (List.set δ i none) G ∧ H1 f = some (FnO f (mkNF X name params body scope c')) ∧ CodeK H1 (mkNF X name params body scope c') ∧ Rel X.K Γ hid σ H1 δ G, rt := Dn.rt } I ⟨R.tb.good, pc, ow, fun f c' P' H1 kp g1 o1 bk f0 f1 c1 w1 => ?_⟩) fun fl s1 q1 => ?_)
      · have g : Grow [] H G H1 G := ⟨fun b o _ h n => kp.non b o h n, kp.here, Same.refl _, fun b o h => kp.non b o (R.sub b o h) (R.tb.gn b o h), fun _ _ => rfl, fun _ => g1, o1, id⟩
        have R1 := R.grow g
        refine ⟨f, c', rfl, ?_, f1, ⟨P', c1, w1⟩, R1⟩
        refine ⟨R1.sub, Same.refl _, fun _ _ => rfl, fun b o h _ _ => h, fun q hq => (by cases hq), by rw [List.length_set, List.length_set]; exact R.len, fun j s e => ?_, fun j _ _ hj => ?_, fun q hq => (by cases hq), Same.refl _, ⟨g1, R.tb.gn, fun _ h => h, fun _ _ h => h⟩⟩
        · rw [gset] at e
          by_cases c : i = j
          · rw [if_pos c] at e; cases e
          · rw [if_neg c] at e
            obtain ⟨d, rfl⟩ := shs j s e
            obtain ⟨v, h1, h2⟩ := R.sl j _ e
            exact ⟨v, by rw [List.getElem?_set_ne c]; exact h1, h2⟩
        · obtain ⟨o, h⟩ := hj
          rw [gset] at h
          by_cases c : i = j
          · rw [if_pos c] at h; rcases h with h | h <;> cases h
          · rw [if_neg c] at h; exact absurd ⟨o, h⟩ (nown j)
      · cases fl with
        | next =>
          obtain ⟨σ1, H1, I1, f, c', eσ, RN, hf, hcK, R1⟩ := q1
          subst eσ
          have hrest := (pss_one (ps_ret (pos := p4) (pe_mp (p := p1) (wsOf := fun σ => js.map (slotAt σ)) (mp c') (fun {pins s σ H} I => cells_of I (Caps.made I.ok hfree hfr hjs)) hr hk hg hm hkp
            (pa_cons (ha ⟨H1, G, []⟩).run (pa_cons (pe_var (i := i) hi hv hd2 hcd) pa_nil he2) he) hdb he hpl)))
          refine hrest.run pins s1 _ H1 Dn I1 ⟨⟨[], G⟩, List.set δ i none, G, RN, (ha ⟨H1, G, []⟩).mono _ _ _ _ _ (fun _ _ z => z.elim) (fun m δ2 q2 v H2 G2 R2 s2 d2 => ?_) q0⟩
          obtain ⟨cds, e3, q3⟩ := q2
          have eσ : (σ.set i (some (V.ref f)))[i]? = some (some (.ref f)) := by
            rw [List.getElem?_set_self (by rw [I.len]; exact (List.getElem?_eq_some_iff.mp hi).1)]
          obtain ⟨cs, e4, h4⟩ := cap_at RN e3
          have gr := R2.grown
          have hf2 : H2 f = some (FnO f (mkNF X name params body scope c')) := gr.same f _ (by simp) hf nt_fn
          obtain ⟨P', c1, w1⟩ := hcK
          refine ⟨.ref f, eσ, v, f, cs, rfl, e4, hf2, ⟨P', gr.same _ _ (by simp) c1 nt_code, gr.own _ _ w1⟩, G2, m, cds, R2.sub, d2, dpa_mono s2 h4, R2.tb.gg, mapK_mono (withC_mono mS cds) _ _ _ _ (fun d w2 v2 H3 G3 g3 dd => ?_) q3⟩
          have g12 : Grow [] H1 G H3 G3 := gr.trans g3
          exact w2 v2 σ H3 G3 (R1.grow g12) dd
        | ret u => obtain ⟨_, _, _, _, _, z⟩ := q1; exact ⟨_, _, _, ‹_›, ‹_›, z⟩
        | brk => obtain ⟨_, _, _, z⟩ := q1; exact z.elim
        | cont => obtain ⟨_, _, _, z⟩ := q1; exact z.elim
  · unfold cloR at q0 ⊢
    exact bif_mono (fun z => (ha Γ).mono _ _ _ _ _ (fun _ _ z => z) (fun m _ ⟨cds, e, z⟩ => ⟨cds, e, mapK_mono (withC_mono mS cds) _ _ _ _ (fun _ => hp _ _) z⟩) z) id q0
end
end DL

/-! Methods by their bodies, defs whose bodies make defs. -/
namespace DL
open PySem PySem.Spec PyProof.Rows L2 NX NdefX
variable [TabsC]
def clsBody (s : Stmt) : List Stmt := match s with
  | .ClassDef _ _ _ b _ _ _ _ _ _ _ => b
  | _ => []
/-- a def whose code object is known -/
structure FunC (K : PySem.W.Frag) (x qual : Str) (st : Stmt) (f : Addr) (fd : FuncData) (c : Addr) : Prop where
  ex : ∃ (oc : Value) (od : Option Addr) (kV doc pm : Value) (an : Option Addr) (ct : Value) (osl : Array (Option Value)), fd = PySem.W.fnOf x qual (defArgs st) (defBody st) (defScope st) .none kV doc pm an (.ref c) ct ∧ K.lookup f = some ⟨oc, od, .func fd, osl⟩ ∧ PySem.W.codeIn K (.ref c) qual = true
def cA (K : PySem.W.Frag) (f : Addr) : Addr := match K.lookup f with
  | some ⟨_, _, .func fd, _⟩ => (match fd.code with
    | .ref c => c
    | _ => 0)
  | _ => 0
def pA (K : PySem.W.Frag) (c : Addr) : Addr := match K.lookup c with
  | some ⟨_, _, .fields vs, _⟩ => (match (vs[11]? : Option Value) with
    | some (.ref P) => P
    | _ => 0)
  | _ => 0
def refB (K : PySem.W.Frag) (f : Addr) : Bool := match K.lookup f with
  | some ⟨_, _, .func fd, _⟩ => decide (fd.code = .ref (cA K f))
  | _ => false
theorem funC_of {K : PySem.W.Frag} {x qual : Str} {st : Stmt} {f : Addr} {fd : FuncData} (F : Fun K x qual st f fd) (h : refB K f = true) : FunC K x qual st f fd (cA K f) := by
  obtain ⟨oc, od, kV, doc, pm, an, cdv, ct, osl, rfl, lk, hcd⟩ := F.ex
  unfold refB at h
  rw [lk] at h
  have e : cdv = .ref (cA K f) := of_decide_eq_true h
  refine ⟨oc, od, kV, doc, pm, an, ct, osl, ?_, lk, ?_⟩
  · rw [← e]
  · rw [← e]; exact hcd
section
variable {P : Program} {w : World} {K : PySem.W.Frag} {mg : Str → Option Value} {base : Heap}
theorem fnC {x qual : Str} {st : Stmt} {f c : Addr} {fd : FuncData} {N ps : List Str} {k : Nat} {S : SP} (F : FunC K x qual st f fd c) (sc : FnScope N ps (defScope st)) (mS : MonoS S) (len : ∀ ds E P, S ds E P → ds.length = ps.length)
    (hbody : ∀ (A : Around) (outer : List Env) (s : Shared) (H : Hp) (E : XK), Room k (A.deeper (envOfC qual (defScope st) s.heap.objs.size f (.ref c))) → ∀ Γ : Ga,
      ∃ ψ, DB (cxOf CX0 P w K mg base N qual (defScope st) f (.ref c) A outer s H E).nox Γ W0 (defBody st) ψ ∧ ∀ ds E P, S ds E P → ψ (startD N ds) E0K (retK P)) : FnOk P w K mg base CX0 (k + 1) f fd ps (spD K S) := by
  obtain ⟨oc, od, kV, doc, pm, an, ct, osl, rfl, lk, hcd⟩ := F.ex
  refine fn_of lk hcd sc (fun vs H Q E h => ?_) (fun A outer s H vs Q E hr h => ?_)
  · obtain ⟨G, ds, _, hd, _, q⟩ := h
    rw [dpa_length hd]
    exact len _ _ _ q
  · obtain ⟨G, ds, sG, hd, gd, q⟩ := h
    obtain ⟨ψ, dr, hψ⟩ := hbody A outer s H E hr ⟨H, G, []⟩
    refine ⟨_, dr.run.nox, ⟨[], G⟩, startD N ds, G, rel_start sG hd gd, dr.mono _ _ _ _ _ E0_up (fun fl δ h1 => ?_) (hψ ds _ _ q)⟩
    cases fl with
    | nx => exact fun σ H1 G1 R1 => h1 _ H1 G1 R1.grown .non
    | bk => exact h1.elim
    | ct => exact h1.elim
    | rt d => exact fun v σ H1 G1 R1 dv => h1 v H1 G1 R1.grown dv
    | rtO o => cases o with
      | lst ds =>
        exact fun p σ H1 G1 R1 n => by
          obtain ⟨G2, R2, s2, d2⟩ := R1.newData n
          exact h1 _ H1 G2 R2.grown d2
/-- where a method stands -/
structure MetAt (K : PySem.W.Frag) (C m qual : Str) (st : Stmt) (ps : List Str) : Prop where
  ex : ∃ (f : Addr) (fd : FuncData), Fun K m qual st f fd ∧ Meth K (He.ga K C) m f ∧ Binds K fd ps []
theorem metD {C m qual : Str} {st : Stmt} {N ps : List Str} {k : Nat} {S : SP} (A : MetAt K C m qual st ps) (sc : FnScope N ps (defScope st)) (mS : MonoS S) (len : ∀ ds E P, S ds E P → ds.length = ps.length)
    (hbody : ∀ (f : Addr) (cdv : Value) (A : Around) (outer : List Env) (s : Shared) (H : Hp) (E : XK), Room k (A.deeper (envOfC qual (defScope st) s.heap.objs.size f cdv)) → ∀ Γ : Ga,
      ∃ ψ, DB (cxOf CX0 P w K mg base N qual (defScope st) f cdv A outer s H E).nox Γ W0 (defBody st) ψ ∧ ∀ ds E P, S ds E P → ψ (startD N ds) E0K (retK P)) : MetD P w K mg base CX0 (k + 1) C m ps S := by
  obtain ⟨f, fd, F, hm, hb⟩ := A.ex
  exact ⟨⟨f, fd, hm, fnD F sc mS len (hbody f), hb⟩, mS⟩
/-- where a method stands whose body makes a def -/
structure MetC (K : PySem.W.Frag) (mg : Str → Option Value) (base : Heap) (C m qual : Str) (st : Stmt) (ps : List Str) : Prop where
  ex : ∃ (f : Addr) (fd : FuncData) (c Pt : Addr), FunC K m qual st f fd c ∧ Meth K (He.ga K C) m f ∧ Binds K fd ps [] ∧ (Pt, qual) ∈ TabsC.T ∧ LamX.TabB base mg c Pt
theorem metC {C m qual : Str} {st : Stmt} {N ps : List Str} {k : Nat} {S : SP} (A : MetC K mg base C m qual st ps) (sc : FnScope N ps (defScope st)) (mS : MonoS S) (len : ∀ ds E P, S ds E P → ds.length = ps.length)
    (hbody : ∀ (f c Pt : Addr), (Pt, qual) ∈ TabsC.T → LamX.TabB base mg c Pt → ∀ (A : Around) (outer : List Env) (s : Shared) (H : Hp) (E : XK), Room k (A.deeper (envOfC qual (defScope st) s.heap.objs.size f (.ref c))) → ∀ Γ : Ga,
      ∃ ψ, DB (cxOf CX0 P w K mg base N qual (defScope st) f (.ref c) A outer s H E).nox Γ W0 (defBody st) ψ ∧ ∀ ds E P, S ds E P → ψ (startD N ds) E0K (retK P)) : MetD P w K mg base CX0 (k + 1) C m ps S := by
  obtain ⟨f, fd, c, Pt, F, hm, hb, hT, hB⟩ := A.ex
  exact ⟨⟨f, fd, hm, fnC F sc mS len (hbody f c Pt hT hB), hb⟩, mS⟩
/-- what stands ahead of db_clo in a method -/
theorem own_top {X : Cx} {Γ : Ga} {Pt : Addr} {q : Str} (hT : (Pt, q) ∈ TabsC.T) : ∀ {hid σ H δ G}, Rel X.K Γ hid σ H δ G → (fun _ : Hp => True) H ∧ Owner H Pt q := fun _ => ⟨trivial, .top hT⟩
theorem hd_top {X : Cx} {c Pt : Addr} (hB : LamX.TabB X.base X.mg c Pt) : ∀ pins s σ H, Inv X pins σ H s → (fun _ : Hp => True) H → PySem.W.CodeHd s.heap c Pt := fun _ _ _ _ I _ => hB.code.keeps I.bk
theorem bm_top {b : Heap} {mg : Str → Option Value} {c Pt : Addr} (hB : LamX.TabB b mg c Pt) : BM b mg := ⟨Pt, hB.bm⟩
/-- .. in a def within a def -/
theorem own_sub {X : Cx} {Γ : Ga} {F : NF} {Pt : Addr} {H0 : Hp} (h0 : Γ.H0 = H0) (hp : Γ.par = []) (h1 : H0 F.c = some (CodeX F.c Pt F.qual)) (h2 : Owner H0 Pt F.qual) : ∀ {hid σ H δ G}, Rel X.K Γ hid σ H δ G → (fun H : Hp => H F.c = some (CodeX F.c Pt F.qual)) H ∧ Owner H Pt F.qual :=
  fun {hid σ H δ G} R => ⟨R.fr F.c _ (by rw [h0]; exact h1) (fun q hq => by rw [hp] at hq; cases hq) nt_code, R.tb.own _ _ (by rw [h0]; exact h2)⟩
theorem hd_sub {X : Cx} {F : NF} {Pt : Addr} : ∀ pins s σ H, Inv X pins σ H s → (fun H : Hp => H F.c = some (CodeX F.c Pt F.qual)) H → PySem.W.CodeHd s.heap F.c Pt := fun _ _ _ _ I pc => (codeX_at I.hok pc).1
/-- a class is made: its __init__ -/
theorem makD {x qual : Str} {st : Stmt} {N : List Str} {p1 p2 p3 p4 p5 : Pos} {f : Addr} {fd : FuncData} (F : Fun K "__init__" qual st f fd) (hb : Binds K fd ["self", "body"] []) (M : Mk K (He.ga K x) f) (hm : mg x = some (.ref (He.ga K x))) (c : Cls K (He.ga K x)) (n : NoAttr K (He.ga K x) "body") (sc : FnScope N ["self", "body"] (defScope st))
    (hN0 : N[0]? = some ("self" : Str)) (hN1 : N[1]? = some ("body" : Str)) (hk0 : (defScope st).names.lookup ("self" : Str) = some .local) (hk1 : (defScope st).names.lookup ("body" : Str) = some .local) (hbody : defBody st = [.Assign [.Attribute (.Name "self" p1) "body" p2] (.Name "body" p3) p4])
    (hs : ∀ env : Env, env.scope = defScope st → swapsWith (.Name "body" p3) (some (.Attribute (.Name "self" p1) "body" p2)) p4.line env = pure false) : MakD P w K mg base 1 x := by
  refine ⟨⟨f, fd, M, F.ok (k := 0) sc (fun vs H Q E h => ?_) (fun cdv A outer s H vs Q E hr h => ?_), hb⟩, hm, c, n⟩
  · obtain ⟨a, v, C, dx, e, _⟩ := h
    rw [e]
    rfl
  · obtain ⟨a, v, C, dx, rfl, h1, h2, h3, h4⟩ := h
    rw [hbody]
    refine ⟨_, pss_one (ps_fld (pe_var (i := 0) hN0 (.inl hk0) (by decide) (by decide)) (pe_var (i := 1) hN1 (.inl hk1) (by decide) (by decide)) (hs _ rfl)), v, rfl, .ref a, rfl, a, C, dx, [], rfl, h1, h2, h3, by decide, h4⟩
end
end DL

/-! The head's facts where bodies make defs: the tables of their code objects are read beside the rest. -/
namespace DL
open PySem PySem.Spec PyProof.Rows L2 NX
local instance tcNone : TabsC := ⟨[], id⟩
def isTabO (o : Obj) : Bool := match o with
  | ⟨.none, none, .fields _, _⟩ => true
  | _ => false
/-- neither lists nor tables -/
def cutT (K : PySem.W.Frag) : PySem.W.Frag := K.filter fun q => !(isListO q.2 || isTabO q.2)
/-- an empty table -/
def tabE (K : PySem.W.Frag) (P : Addr) : Bool := match K.lookup P with
  | some ⟨.none, none, .fields vs, ss⟩ => vs.isEmpty && ss.isEmpty
  | _ => false
theorem tabE_ok {K : PySem.W.Frag} {h : Heap} {P : Addr} (X : K.In h) (e : tabE K P = true) : h.get? P = some { cls := .none, data := .fields #[] } := by
  unfold tabE at e
  split at e
  · rename_i vs ss hk
    have := X _ _ hk
    rw [Bool.and_eq_true, Array.isEmpty_iff, Array.isEmpty_iff] at e
    rw [this, e.1, e.2]
  · cases e
theorem cutT_nodup {K : PySem.W.Frag} : ∀ {a : Addr} {o : Obj}, (cutT K).lookup a = some o → (a, o) ∈ K ∧ isListO o = false ∧ isTabO o = false := fun {a o} h => by
  have m := mem_of_lookup h
  have m2 := List.mem_filter.mp m
  refine ⟨m2.1, ?_⟩
  have := m2.2
  simp only [Bool.not_or, Bool.and_eq_true, Bool.not_eq_true'] at this
  exact this
theorem cutT_in {g : Addr → Option Obj} {as : List Addr} {h : Heap} (e : g = h.get?) : (cutT (He.frG g as)).In h := fun a o q => by
  obtain ⟨m, _⟩ := cutT_nodup q
  rw [← e]
  exact mem_frG m
theorem cutT_no {K : PySem.W.Frag} : NoList (cutT K) := fun a o h e => by
  obtain ⟨_, m, _⟩ := cutT_nodup h
  unfold isListO at m
  rw [e] at m
  simp at m
/-- the defs whose bodies make defs: their functions -/
abbrev FnAts := List (Str × Option Str × Str)
def csOf (K : PySem.W.Frag) (ts : FnAts) : List (Addr × Addr) := ts.map fun p => (cA K (He.fAd K (p.1, p.2.1)), pA K (cA K (He.fAd K (p.1, p.2.1))))
def tcOf (K : PySem.W.Frag) (ts : FnAts) : List (Addr × Str) := ts.map fun p => (pA K (cA K (He.fAd K (p.1, p.2.1))), p.2.2)
def distB : List Addr → Bool
  | [] => true
  | a :: r => !r.elem a && distB r
def tabsB (K0 K : PySem.W.Frag) (ts : FnAts) : Bool := (csOf K ts).all (fun p => tabE K0 p.2 && (PySem.W.codeHdIn K p.1 p.2 && (K.lookup p.2).isNone)) && (ts.all (fun p => refB K (He.fAd K (p.1, p.2.1))) && distB ((tcOf K ts).map (·.1)))
theorem distB_uni {α : Type} : ∀ {l : List (Addr × α)}, distB (l.map (·.1)) = true → ∀ p ∈ l, ∀ q ∈ l, p.1 = q.1 → p = q
  | [], _, p, hp, _, _, _ => by cases hp
  | a :: r, h, p, hp, q, hq, e => by
    have h2 : (!(r.map (·.1)).elem a.1 && distB (r.map (·.1))) = true := h
    rw [Bool.and_eq_true, Bool.not_eq_true'] at h2
    have no : ∀ z ∈ r, z.1 ≠ a.1 := fun z hz w => by
      have : (r.map (·.1)).elem a.1 = true := by rw [List.elem_eq_mem]; exact decide_eq_true (List.mem_map.mpr ⟨z, hz, w⟩)
      rw [h2.1] at this
      cases this
    rcases List.mem_cons.mp hp with rfl | hp'
    · rcases List.mem_cons.mp hq with rfl | hq'
      · rfl
      · exact absurd e.symm (no q hq')
    · rcases List.mem_cons.mp hq with rfl | hq'
      · exact absurd e (no p hp')
      · exact distB_uni h2.2 p hp' q hq' e
abbrev AlT : Type := He.AlD × Bool
def obsT0 (fa : List He.Fa) (fn : List He.DefD) (ex : PySem.W.Frag → Bool) (ts : FnAts) (K0 : PySem.W.Frag) : AlT := (He.obsD fa fn (cutT K0), ex (cutT K0) && tabsB K0 (cutT K0) ts)
def obsT (n : Nat) (fa : List He.Fa) (fn : List He.DefD) (ex : PySem.W.Frag → Bool) (ts : FnAts) (g : Addr → Option Obj) : AlT := obsT0 fa fn ex ts (He.frG g (He.asD g n))
structure SaysT (fa : List He.Fa) (fn : List He.DefD) (ex : PySem.W.Frag → Bool) (ts : FnAts) (K : PySem.W.Frag) (h : Heap) : Prop where
  d : He.SaysD fa fn K
  x : ex K = true
  no : NoList K
  kin : K.In h
  tab : ∀ p ∈ csOf K ts, h.get? p.2 = some { cls := .none, data := .fields #[] }
  out : ∀ p ∈ csOf K ts, K.lookup p.2 = none
  code : ∀ p ∈ csOf K ts, PySem.W.CodeHd h p.1 p.2
  ref : ∀ p ∈ ts, refB K (He.fAd K (p.1, p.2.1)) = true
  inT : ∀ p ∈ tcOf K ts, p.1 ∈ (csOf K ts).map (·.2)
  uni : ∀ p ∈ tcOf K ts, ∀ q ∈ tcOf K ts, p.1 = q.1 → p = q
theorem saysT_of {fa : List He.Fa} {fn : List He.DefD} {ex : PySem.W.Frag → Bool} {ts : FnAts} {h : Heap} {as : List Addr} (e : obsT0 fa fn ex ts (He.frG h.get? as) = (He.valD fn, true)) : SaysT fa fn ex ts (cutT (He.frG h.get? as)) h := by
  have e1 : He.obsD fa fn (cutT (He.frG h.get? as)) = He.valD fn := congrArg (fun z : AlT => z.1) e
  have e2 : (ex (cutT (He.frG h.get? as)) && tabsB (He.frG h.get? as) (cutT (He.frG h.get? as)) ts) = true := congrArg (fun z : AlT => z.2) e
  rw [Bool.and_eq_true] at e2
  obtain ⟨x, t⟩ := e2
  unfold tabsB at t
  rw [Bool.and_eq_true, Bool.and_eq_true] at t
  obtain ⟨t1, t2, t3⟩ := t
  have all := List.all_eq_true.mp t1
  have a3 : ∀ p ∈ csOf (cutT (He.frG h.get? as)) ts, tabE (He.frG h.get? as) p.2 = true ∧ PySem.W.codeHdIn (cutT (He.frG h.get? as)) p.1 p.2 = true ∧ ((cutT (He.frG h.get? as)).lookup p.2).isNone = true := fun p hp => by
    have := all p hp
    rw [Bool.and_eq_true, Bool.and_eq_true] at this
    exact this
  have kin : (cutT (He.frG h.get? as)).In h := cutT_in rfl
  refine ⟨e1, x, cutT_no, kin, fun p hp => tabE_ok He.frG_in (a3 p hp).1, fun p hp => ?_, fun p hp => PySem.W.codeHd_of_K kin (a3 p hp).2.1, List.all_eq_true.mp t2, fun p hp => ?_, distB_uni t3⟩
  · have := (a3 p hp).2.2
    rw [Option.isNone_iff_eq_none] at this
    exact this
  · obtain ⟨q, hq, e⟩ := List.mem_map.mp hp
    rw [← e]
    exact List.mem_map.mpr ⟨_, List.mem_map.mpr ⟨q, hq, rfl⟩, rfl⟩
def hookT (n : Nat) (fa : List He.Fa) (fn : List He.DefD) (ex : PySem.W.Frag → Bool) (ts : FnAts) : PySem.W.Hook where
  α := AlT
  obs := fun s => obsT n fa fn ex ts s.heap.get?
  val := fun _ => (He.valD fn, true)
  says := fun _ h => ∃ K : PySem.W.Frag, SaysT fa fn ex ts K h
  of := fun _ _ e => ⟨_, saysT_of e⟩
  keeps := fun _ _ _ ⟨K, c⟩ k => ⟨K, ⟨c.d, c.x, c.no, PySem.W.Frag.In.keeps c.kin k, fun p hp => k _ _ (c.tab p hp), c.out, fun p hp => (c.code p hp).keeps k, c.ref, c.inT, c.uni⟩⟩
theorem obsT_eq {n : Nat} {fa : List He.Fa} {fn : List He.DefD} {ex : PySem.W.Frag → Bool} {ts : FnAts} {g : Addr → Option Obj} {s : Shared} (h : ∀ a, g a = s.heap.get? a) : obsT n fa fn ex ts g = (hookT n fa fn ex ts).obs s := by
  have e : g = s.heap.get? := funext h
  rw [e] <;> rfl
/-- a method, by the head's facts -/
theorem metAt_of {K : PySem.W.Frag} {C m qual : Str} {st : Stmt} {ps : List Str} {fd : FuncData} {kws : List (Str × V)} (F : FunD K m qual (defArgs st) (defBody st) (defScope st) [] kws (He.ma K (He.ga K C) m) fd) (c : (He.Fa.meth C m).ok K = true)
    (h : ∀ (kV doc pm : Value) (an : Option Addr) (cdv ct : Value) (us : List Value), us.length = ps.length → bindArgs (PySem.W.fnOf m qual (defArgs st) (defBody st) (defScope st) .none kV doc pm an cdv ct) ⟨us, []⟩ = pure (ps.zip us)) : MetAt K C m qual st ps :=
  ⟨_, fd, fun_ofD F, He.meth_ok c, F.bindsN h⟩
theorem metC_of [TabsC] {K : PySem.W.Frag} {mg : Str → Option Value} {base : Heap} {C m qual : Str} {st : Stmt} {ps : List Str} {fd : FuncData} {kws : List (Str × V)} (F : FunD K m qual (defArgs st) (defBody st) (defScope st) [] kws (He.ma K (He.ga K C) m) fd) (c : (He.Fa.meth C m).ok K = true)
    (h : ∀ (kV doc pm : Value) (an : Option Addr) (cdv ct : Value) (us : List Value), us.length = ps.length → bindArgs (PySem.W.fnOf m qual (defArgs st) (defBody st) (defScope st) .none kV doc pm an cdv ct) ⟨us, []⟩ = pure (ps.zip us))
    (r : refB K (He.ma K (He.ga K C) m) = true) (t : (pA K (cA K (He.ma K (He.ga K C) m)), qual) ∈ TabsC.T) (b : LamX.TabB base mg (cA K (He.ma K (He.ga K C) m)) (pA K (cA K (He.ma K (He.ga K C) m)))) : MetC K mg base C m qual st ps :=
  ⟨_, fd, _, _, funC_of (fun_ofD F) r, He.meth_ok c, F.bindsN h, t, b⟩
end DL

/-! list(range(..)) -/
namespace DL
open PySem PySem.Spec PyProof.Rows L2 NX
variable [TabsC]
section
variable {X : Cx} {Γ : Ga} {W : WX} {a b : Expr} {φa φb : RE} {pos p p1 : Pos}
theorem dts_range {K : PySem.W.Frag} {G : Hp} (i j : Int) : Dts K G (rgV i j) (rangeL i (j - i).toNat) := by
  unfold rgV rangeL
  induction (List.range (j - i).toNat) with
  | nil => exact .nil
  | cons x r ih => exact .cons (.int _) ih
def listRg1N (φ : RE) : RN := fun δ E P => φ δ E fun d δ1 => match d with
  | .int j => (-(2 ^ 62) ≤ j ∧ j ≤ 2 ^ 24) ∧ P (.lst (rangeL 0 j.toNat)) δ1
  | _ => False
theorem dn_listRg1 (hm : X.mg "list" = none) (hm2 : X.mg "range" = none) (ha : DE X Γ W a φa) (hc : X.calm = true := by rfl) (hg : Gl X "list" := by rfl) (hg2 : Gl X "range" := by rfl)
    (na : starEach [a] X.env = (false, eval a X.env) :: starEach [] X.env := by rfl) (na2 : starEach [.Call (.Name "range" p) [a] [] p1] X.env = (false, eval (.Call (.Name "range" p) [a] [] p1) X.env) :: starEach [] X.env := by rfl) {p2 : Pos} :
    DN X Γ W (.Call (.Name "list" p2) [.Call (.Name "range" p) [a] [] p1] [] pos) (listRg1N φa) := by
  refine dn_mk (pe_listRg hc hg hm (prg_1 hg2 hm2 ha.run na) na2) ?_ fun σ H Q hid δ G R q => ?_
  · intro δ E E' P P' he hp q
    refine ha.mono _ _ _ _ _ he (fun x δ1 q1 => ?_) q
    cases x <;> first | exact ⟨q1.1, hp _ _ q1.2⟩ | exact q1
  · refine ha.go R q fun d δ1 v H1 G1 q1 R1 s1 d1 => ?_
    cases d1 with
    | int j =>
      obtain ⟨⟨h1, h2⟩, q2⟩ := q1
      refine ⟨j, rfl, ⟨by decide, by decide, by omega, by omega, by omega⟩, fun l nl => ?_⟩
      have e : rangeL 0 (j - 0).toNat = rangeL 0 j.toNat := by rw [Int.sub_zero]
      have dd : Dts X.K G1 (rgV 0 j) (rangeL 0 j.toNat) := e ▸ dts_range 0 j
      exact q2 _ _ _ (R1.grow (Grow.newO (o := .lst (rgV 0 j)) R1.sub nl)) s1 (.of R1 nl ⟨_, upd_same, dd⟩)
    | _ => exact q1.elim
end
end DL

/-! x.pop(i), x.insert(i, e) -/
namespace DL
open PySem PySem.Spec PyProof.Rows L2 NX
variable [TabsC]
theorem dpa_erase {K : PySem.W.Frag} {G : Hp} : ∀ {vs : List V} {ds : List D} (j : Nat), Dts K G vs ds → Dts K G (vs.eraseIdx j) (ds.eraseIdx j)
  | _, _, _, .nil => by cases ‹Nat› <;> exact .nil
  | _, _, 0, .cons _ b => b
  | _, _, j + 1, .cons a b => .cons a (dpa_erase j b)
theorem seqIx {j n : Nat} (h : j < n) : seqIndex? (j : Int) n = some j := by
  unfold seqIndex?
  have e : (if (j : Int) < 0 then (j : Int) + (n : Int) else (j : Int)) = (j : Int) := if_neg (by omega)
  show (if (0 ≤ (if (j : Int) < 0 then (j : Int) + (n : Int) else (j : Int)) && (if (j : Int) < 0 then (j : Int) + (n : Int) else (j : Int)) < (n : Int)) = true then some (if (j : Int) < 0 then (j : Int) + (n : Int) else (j : Int)).toNat else none) = some j
  rw [e, if_pos (by simp; omega), Int.toNat_natCast]
section
variable {X : Cx} {Γ : Ga} {W : WX} {a b : Expr} {φa φb : RE} {pos p : Pos}
def popAtR (i : Nat) (φ : RE) : RE := fun δ E P => optK (ownO (δ.get i)) fun _ => φ δ E fun x δ1 => match x with
  | .int k => optK (ownO (δ1.get i)) fun ds => ∃ (j : Nat) (d : D), k = (j : Int) ∧ j < 2 ^ 62 ∧ ds[j]? = some d ∧ P d (putO δ1 i (ds.eraseIdx j))
  | _ => False
theorem de_popAt (i : Nat) {x : Str} {xp apos cpos : Pos} (pe : ∀ {t : TA}, PA X [a] t → PE X (.Call (.Attribute (.Name x xp) "pop" apos) [a] [] cpos) (tBM X.K "list" rPopAt (tVar i) t)) (ha : DE X Γ W a φa) (he : starEach (a :: []) X.env = (false, eval a X.env) :: starEach [] X.env := by rfl) :
    DE X Γ W (.Call (.Attribute (.Name x xp) "pop" apos) [a] [] cpos) (popAtR i φa) := by
  refine de_mk (pe (pa_cons ha.run pa_nil he)) ?_ fun σ H Q hid δ G R q => ?_
  · intro δ E E' P P' he hp q
    refine optK_mono (fun _ q => ha.mono _ _ _ _ _ he (fun y δ1 q1 => ?_) q) q
    cases y <;> first | exact optK_mono (fun _ ⟨j, d, h1, h2, h3, h4⟩ => ⟨j, d, h1, h2, h3, hp _ _ h4⟩) q1 | exact q1
  · obtain ⟨ds0, e0, q⟩ := optK_get q
    obtain ⟨p, vs, s, hs1, c, at1, hp, hd⟩ := own_at R e0
    refine ⟨.ref p, at1, .inl ⟨rfl, _, .inl (.inl hp)⟩, ha.go R q fun d δ1 v H1 G1 q1 R1 s1 d1 => ?_⟩
    cases d1 with
    | int k =>
      obtain ⟨ds, e1, j, d, rfl, h2, h3, q2⟩ := optK_get q1
      obtain ⟨p', vs', s', hs', c', at', hp', hd'⟩ := own_at R1 e1
      cases at1.inj at'
      obtain ⟨w, ew, dw⟩ := dpa_get hd' h3
      have jl : j < vs'.length := (List.getElem?_eq_some_iff.mp ew).1
      exact ⟨_, _, _, j, w, rfl, rfl, hp', by omega, by omega, seqIx jl, ew, q2 w _ G1 (own_put R1 e1 at1 (dpa_erase j hd')) s1 dw⟩
    | _ => exact q1.elim
end
end DL

/-! raise C('text'); try .. except C as n / except C; isinstance of what was caught. -/
namespace DL
open PySem PySem.Spec PyProof.Rows L2 NX
variable [TabsC]
/-- a name is stored: nothing any more -/
theorem Rel.gone {K : PySem.W.Frag} {Γ : Ga} {hid : Hd} {σ : L2.St} {H : Hp} {δ : DS} {G : Hp} (R : Rel K Γ hid σ H δ G) {i : Nat} (hio : ∀ o, δ.get i ≠ some (.io o)) : Rel K Γ hid (σ.set i none) H (List.set δ i none) G := by
  have g : ∀ {j s}, DS.get (List.set δ i none) j = some s → i ≠ j ∧ δ.get j = some s := fun {j s} e => by
    rw [DS.get_set] at e
    by_cases c : i = j ∧ j < δ.length
    · rw [if_pos c] at e; cases e
    · rw [if_neg c] at e
      refine ⟨fun z => c ⟨z, DS.get_lt e⟩, e⟩
  have a : ∀ {j p}, i ≠ j → (At (σ.set i none) j p ↔ At σ j p) := fun {j p} n => by
    unfold At
    rw [List.getElem?_set_ne n]
  refine ⟨R.sub, R.ext, R.old, R.fr, fun q hq => ?_, by rw [List.length_set, List.length_set]; exact R.len, fun j s e => ?_, fun j k p hj hk aj ak => ?_, R.hds, R.gb, R.tb⟩
  · obtain ⟨h1, h2, o, h3⟩ := R.prs q hq
    have n : i ≠ q.1 := fun z => hio o (z ▸ h3)
    exact ⟨(a n).mpr h1, h2, o, by rw [DS.get_set, if_neg (fun z => n z.1)]; exact h3⟩
  · obtain ⟨c, e⟩ := g e
    have q := R.sl j s e
    cases s with
    | sh d => obtain ⟨v, h1, h2⟩ := q; exact ⟨v, by rw [List.getElem?_set_ne c]; exact h1, h2⟩
    | ow o => obtain ⟨p, h1, h2⟩ := q; exact ⟨p, (a c).mpr h1, h2⟩
    | io o => obtain ⟨p, h1, h2⟩ := q; exact ⟨p, (a c).mpr h1, h2⟩
  · have nj : ∀ j, Own (List.set δ i none) j → i ≠ j ∧ Own δ j := fun j ⟨o, ho⟩ => by
      rcases ho with ho | ho
      · obtain ⟨c, e⟩ := g ho; exact ⟨c, o, .inl e⟩
      · obtain ⟨c, e⟩ := g ho; exact ⟨c, o, .inr e⟩
    obtain ⟨c1, o1⟩ := nj j hj
    obtain ⟨c2, o2⟩ := nj k hk
    exact R.dist j k p o1 o2 ((a c1).mp aj) ((a c2).mp ak)
theorem notIo_ne {o : Option Sl} (h : notIo o = true) : ∀ m, o ≠ some (.io m) := fun m z => by rw [z] at h; cases h
section
variable {X : Cx} {Γ : Ga} {W : WX} {ψ : RB}
def raiseR (C : Addr) : RB := fun δ E _ => E (C, none) δ
theorem dp_raise {C : Addr} {bmB : List Value} {B newId initId : String} {x m : Str} {j : Nat} {p p2 pos pos2 : Pos} (F : ExcBaseFacts B newId initId bmB) (q : PySem.W.excIn X.K C bmB newId = true) (gC : X.mg x = some (.ref C))
    (kC : PySem.W.keepIn X.K (.ref C) = true) (r : Raises X (.ref C)) (tk : Takes X W) (hc : X.calm = true := by rfl) (hg : Gl X x := by rfl) (hdb : (x == ("__debug__" : Str)) = false := by decide) :
    DP X Γ W (.Raise (some (.Call (.Name x p) [.Constant (.str m) j p2] [] pos)) none pos2) (raiseR C) :=
  dp_mk (ps_raise hc tk (pmk_own F q gC kC r hg hdb)) (fun _ _ _ _ _ he _ q => he _ _ q) fun Dn σ H hid δ G R q => q _ _ σ H G R ⟨rfl, rfl⟩
/-- behind the suite the name is gone -/
def goneK (i : Nat) (P : Fw → DS → Prop) : Fw → DS → Prop := fun fl δ => notIo (δ.get i) = true ∧ P fl (List.set δ i none)
/-- what an exception of the body meets -/
def catchK (K : PySem.W.Frag) (c : Value) (i : Nat) (ψh : Addr → Addr → RB) (E : KE) (P : Fw → DS → Prop) : KE := fun x δ => x.2 = none ∧ ∃ b, PySem.W.exmOne K (.ref x.1) c = some b ∧
  (b = true → ∀ a, setK (δ.get i) i (.sh (objD a)) δ fun δ1 => ψh a x.1 δ1 E0K (goneK i P)) ∧ (b = false → E x δ)
def tryAsR (K : PySem.W.Frag) (c : Value) (i : Nat) (ψ : RB) (ψh : Addr → Addr → RB) : RB := fun δ E P => ψ δ (catchK K c i ψh E P) P
theorem dp_tryAs {x n : Str} {c : Value} (i : Nat) {body suite : List Stmt} {b₀ : Stmt} {np pos pos' : Pos} {ψh : Addr → Addr → RB} (hN : X.N.Nodup) (hc : Names X x c) (tk : Takes X W)
    (hb : ∀ (W' : WX) (pn : List (Addr × Obj)) (xe : Value → Shared → Prop), Takes (X.tr pn xe) W' → PassesOwn (model X.prog X.w) X.A X.env xe → DB (X.tr pn xe) Γ W' body ψ)
    (hh : ∀ (a : Addr) (oe : Obj) (C : Addr) (pn : List (Addr × Obj)), Zc (.ref C) none oe → (∃ vs, oe.data = .fields vs) → DB (X.suite a ((a, oe) :: pn)) Γ W0 (b₀ :: suite) (ψh a C))
    (hs : X.stack = X.env :: X.outer := by rfl) (hf : X.env.frame = some X.env.locals := by rfl) (hi : X.N[i]? = some n := by rfl) (hln : X.env.kindOf n = some .local := by rfl) :
    DP X Γ W (.Try body [.ExceptHandler (some (.Name x np)) (some n) (b₀ :: suite) pos'] [] [] pos) (tryAsR X.K c i ψ ψh) := by
  have mb : Mono ψ := (hb W0 [] (fun _ _ => False) takes0 PassesOwn.never).mono
  have mh : ∀ a C, Mono (ψh a C) := fun a C => (hh a { cls := .ref C, dict := none, data := .fields #[] } C [] ⟨rfl, rfl⟩ ⟨_, rfl⟩).mono
  have gk : ∀ {P P' : Fw → DS → Prop}, (∀ a δ, P a δ → P' a δ) → ∀ fl δ, goneK i P fl δ → goneK i P' fl δ := fun hp _ _ q => ⟨q.1, hp _ _ q.2⟩
  refine dp_mk (ps_try_as (tb := fun W' => LS X.K Γ W' ψ) (ts := fun a cls d D σ H => ∃ C, cls = .ref C ∧ d = none ∧ LS X.K Γ W0 (ψh a C) D σ H) hs hf hN hi hln hc tk (fun W' pn xe t p => (hb W' pn xe t p).run) (fun a oe cls d pn hz hf => ⟨fun pins s σ H D I q => ?_⟩)) ?_ ?_
  · obtain ⟨C, e1, e2, q⟩ := q
    subst e1 e2
    exact (hh a oe C pn hz hf).run.run pins s σ H D I q
  · intro δ E E' P P' he hp q
    refine mb _ _ _ _ _ (fun x δ1 ⟨q0, b, q1, q2, q3⟩ => ⟨q0, b, q1, fun z a => setK_mono (fun δ2 h => mh _ _ _ _ _ _ _ (fun _ _ z => z) (gk hp) h) (q2 z a), fun z => he _ _ (q3 z)⟩) hp q
  · intro Dn σ H hid δ G R q
    refine ⟨hid, δ, G, R, mb _ _ _ _ _ (fun x δ1 q1 cls d σ1 H1 G1 R1 ex => ?_) (fun _ _ z => z) q⟩
    obtain ⟨q0, b, qb, qy, qn⟩ := q1
    obtain ⟨rfl, ex2⟩ := ex
    rw [q0] at ex2
    refine ⟨b, qb, fun e a ha => ⟨x.1, rfl, ex2, ?_⟩, fun e => qn e _ _ _ _ _ R1 ⟨rfl, by rw [q0]; exact ex2⟩⟩
    obtain ⟨io, q2⟩ := setK_go (qy e a)
    refine ⟨hid, _, G1, R1.setD' io (.obj a), mh _ _ _ _ _ _ _ E0_up (fun fl δ3 q3 => ?_) q2⟩
    obtain ⟨n3, q4⟩ := q3
    have io3 := notIo_ne n3
    cases fl with
    | nx => exact fun σ4 H4 G4 R4 => q4 _ _ _ (R4.gone io3)
    | bk => exact fun σ4 H4 G4 R4 => q4 _ _ _ (R4.gone io3)
    | ct => exact fun σ4 H4 G4 R4 => q4 _ _ _ (R4.gone io3)
    | rt d => exact fun v σ4 H4 G4 R4 d4 => q4 _ _ _ _ (R4.gone io3) d4
    | rtO o => exact fun p σ4 H4 G4 R4 n4 => q4 _ _ _ _ (R4.gone io3) ⟨n4.g, n4.h0, n4.hd, fun j ⟨o2, ho⟩ aj => by
        have e : i ≠ j ∧ Own δ3 j := by
          rcases ho with ho | ho
          all_goals
            rw [DS.get_set] at ho
            by_cases c : i = j ∧ j < δ3.length
            · rw [if_pos c] at ho; cases ho
            · rw [if_neg c] at ho
              refine ⟨fun z => c ⟨z, DS.get_lt ho⟩, ?_⟩
              first | exact ⟨o2, .inl ho⟩ | exact ⟨o2, .inr ho⟩
        refine n4.ow j e.2 ?_
        unfold At at aj ⊢
        rw [List.getElem?_set_ne e.1] at aj
        exact aj, n4.mo⟩
/-- try .. except C: .. -/
def catchOK (K : PySem.W.Frag) (c : Value) (ψh : Addr → Addr → RB) (E : KE) (P : Fw → DS → Prop) : KE := fun x δ => x.2 = none ∧ ∃ b, PySem.W.exmOne K (.ref x.1) c = some b ∧
  (b = true → ∀ a, ψh a x.1 δ E0K P) ∧ (b = false → E x δ)
def tryOnlyR (K : PySem.W.Frag) (c : Value) (ψ : RB) (ψh : Addr → Addr → RB) : RB := fun δ E P => ψ δ (catchOK K c ψh E P) P
theorem dp_tryOnly {x : Str} {c : Value} {body suite : List Stmt} {b₀ : Stmt} {np pos pos' : Pos} {ψh : Addr → Addr → RB} (hc : Names X x c) (tk : Takes X W)
    (hb : ∀ (W' : WX) (pn : List (Addr × Obj)) (xe : Value → Shared → Prop), Takes (X.tr pn xe) W' → PassesOwn (model X.prog X.w) X.A X.env xe → DB (X.tr pn xe) Γ W' body ψ)
    (hh : ∀ (a : Addr) (oe : Obj) (C : Addr) (pn : List (Addr × Obj)), Zc (.ref C) none oe → (∃ vs, oe.data = .fields vs) → DB (X.suite a ((a, oe) :: pn)) Γ W0 (b₀ :: suite) (ψh a C))
    (hs : X.stack = X.env :: X.outer := by rfl) (hf : X.env.frame = some X.env.locals := by rfl) :
    DP X Γ W (.Try body [.ExceptHandler (some (.Name x np)) none (b₀ :: suite) pos'] [] [] pos) (tryOnlyR X.K c ψ ψh) := by
  have mb : Mono ψ := (hb W0 [] (fun _ _ => False) takes0 PassesOwn.never).mono
  have mh : ∀ a C, Mono (ψh a C) := fun a C => (hh a { cls := .ref C, dict := none, data := .fields #[] } C [] ⟨rfl, rfl⟩ ⟨_, rfl⟩).mono
  refine dp_mk (ps_try_only (tb := fun W' => LS X.K Γ W' ψ) (ts := fun a cls d D σ H => ∃ C, cls = .ref C ∧ d = none ∧ LS X.K Γ W0 (ψh a C) D σ H) hs hf hc tk (fun W' pn xe t p => (hb W' pn xe t p).run) (fun a oe cls d pn hz hf => ⟨fun pins s σ H D I q => ?_⟩)) ?_ ?_
  · obtain ⟨C, e1, e2, q⟩ := q
    subst e1 e2
    exact (hh a oe C pn hz hf).run.run pins s σ H D I q
  · intro δ E E' P P' he hp q
    refine mb _ _ _ _ _ (fun x δ1 ⟨q0, b, q1, q2, q3⟩ => ⟨q0, b, q1, fun z a => mh _ _ _ _ _ _ _ (fun _ _ z => z) hp (q2 z a), fun z => he _ _ (q3 z)⟩) hp q
  · intro Dn σ H hid δ G R q
    refine ⟨hid, δ, G, R, mb _ _ _ _ _ (fun x δ1 q1 cls d σ1 H1 G1 R1 ex => ?_) (fun _ _ z => z) q⟩
    obtain ⟨q0, b, qb, qy, qn⟩ := q1
    obtain ⟨rfl, ex2⟩ := ex
    rw [q0] at ex2
    exact ⟨b, qb, fun e a ha => ⟨x.1, rfl, ex2, hid, δ1, G1, R1, mh _ _ _ _ _ _ _ E0_up (fun _ _ z => z) (qy e a)⟩, fun e => qn e _ _ _ _ _ R1 ⟨rfl, by rw [q0]; exact ex2⟩⟩
/-- isinstance(e, C) of the caught one -/
def isiER (K : PySem.W.Frag) (a C : Addr) (cv : Value) (φ : RE) : RE := fun δ E P => φ δ E fun d δ1 => d = objD a ∧ ExcC K C ∧ ∃ b, PySem.W.kitOne K (.ref C) cv = some b ∧ P (.bool b) δ1
theorem de_isiE {a C : Addr} {oe : Obj} {pn : List (Addr × Obj)} {e e2 : Expr} {φ : RE} {p pos : Pos} {c : V} {cv : Value} (hz : Zc (.ref C) none oe) (hf : ∃ vs, oe.data = .fields vs) (hcv : ∀ u, RelV c u → u = cv) (hm : X.mg "isinstance" = none)
    (ha : DE (X.suite a ((a, oe) :: pn)) Γ W e φ) (h2 : PE (X.suite a ((a, oe) :: pn)) e2 (tC c)) (hg : Gl X "isinstance" := by rfl)
    (he : starEach (e :: [e2]) X.env = (false, eval e X.env) :: starEach [e2] X.env := by rfl) (he2 : starEach (e2 :: []) X.env = (false, eval e2 X.env) :: starEach [] X.env := by rfl) (hpl : (backTo pos (starEach [e2] X.env)).any (·.1) = false := by rfl) :
    DE (X.suite a ((a, oe) :: pn)) Γ W (.Call (.Name "isinstance" p) [e, e2] [] pos) (isiER X.K a C cv φ) := by
  have cr : CallR (X.suite a ((a, oe) :: pn)) (.builtin "isinstance") (fun xs H Q => ExcC X.K C ∧ rIsE X.K C a xs H Q) := fun pins s σ H xs us Q I r ⟨k, h⟩ => call_isE k hz hf pins s σ H xs us Q I r h
  refine de_mk (pe_callB cr hg hm (by decide +kernel) (pa_cons ha.run (pa_cons h2 pa_nil he2) he) (by decide) (by decide) he hpl) (fun _ _ _ _ _ he hp q => ha.mono _ _ _ _ _ he (fun d δ1 ⟨h1, h2, b, h3, h4⟩ => ⟨h1, h2, b, h3, hp _ _ h4⟩) q) fun σ H Q hid δ G R q => ?_
  refine ha.go R q fun d δ1 v H1 G1 q1 R1 s1 d1 => ?_
  obtain ⟨rfl, k, b, hb, q2⟩ := q1
  cases d1 with
  | obj a => exact ⟨k, c, cv, b, rfl, hcv, hb, q2 _ H1 G1 R1 s1 (.bl b)⟩
end
end DL

/-! What the classes of errors are. -/
namespace DL
open PySem PySem.Spec PyProof.Rows L2 NX
abbrev VB : List Value := [.type "ValueError", .type "Exception", .type "BaseException", .type "object"]
/-- the address of a global class -/
abbrev eA (K : PySem.W.Frag) (x : Str) : Addr := He.ga K x
def excB (K : PySem.W.Frag) (x : Str) : Bool :=
  PySem.W.excIn K (eA K x) VB "ValueError.__new__" && PySem.W.keepIn K (.ref (eA K x)) && (PySem.W.subIn K (.ref (eA K x)) (.type "BaseException") == some true) && (PySem.W.typeIn K (.ref (eA K x)) == some (.type "type")) &&
  (PySem.W.findIn K (.ref (eA K x)) "__getattribute__" == some (some (.builtin "BaseException.__getattribute__"))) && (PySem.W.findIn K (.ref (eA K x)) "__getattr__" == some none) && PySem.W.hasDictIn K (eA K x) &&
  (PySem.W.findIn K (.ref (eA K x)) "__class__" == some (some (.builtin "object.__class__"))) && (PySem.W.specialIn K (.builtin "object.__class__") "__get__" == some (some (.builtin "getset_descriptor.__get__"))) &&
  (PySem.W.takesIn K (.builtin "object.__class__") == some true) && (PySem.W.mroIn K (eA K x) (.type "object") == some true)
structure ExcF (K : PySem.W.Frag) (mg : Str → Option Value) (x : Str) : Prop where
  g : mg x = some (.ref (eA K x))
  q : PySem.W.excIn K (eA K x) VB "ValueError.__new__" = true
  k : PySem.W.keepIn K (.ref (eA K x)) = true
  s : PySem.W.subIn K (.ref (eA K x)) (.type "BaseException") = some true
  t : PySem.W.typeIn K (.ref (eA K x)) = some (.type "type")
  c : ExcC K (eA K x)
theorem ExcF.of {K : PySem.W.Frag} {mg : Str → Option Value} {x : Str} (g : mg x = some (.ref (eA K x))) (h : excB K x = true) : ExcF K mg x := by
  unfold excB at h
  simp only [Bool.and_eq_true, beq_iff_eq] at h
  obtain ⟨⟨⟨⟨⟨⟨⟨⟨⟨⟨h1, h2⟩, h3⟩, h4⟩, h5⟩, h6⟩, h7⟩, h8⟩, h9⟩, h10⟩, h11⟩ := h
  exact ⟨g, h1, h2, h3, h4, ⟨h5, h6, h3, h7, h8, h9, h10, h11⟩⟩
/-- a class of errors that is named -/
structure ExcG (K : PySem.W.Frag) (mg : Str → Option Value) (x : Str) : Prop where
  g : mg x = some (.ref (eA K x))
/-- an except clause of y, and isinstance of y, at an exception of the class x -/
def relB (K : PySem.W.Frag) (x y : Str) (b : Bool) : Bool := (PySem.W.exmOne K (.ref (eA K x)) (.ref (eA K y)) == some b) && (PySem.W.kitOne K (.ref (eA K x)) (.ref (eA K y)) == some b)
def isVB (K : PySem.W.Frag) (x : Str) : Bool := PySem.W.kitOne K (.ref (eA K x)) (.type "ValueError") == some true
theorem relB.ex {K : PySem.W.Frag} {x y : Str} {b : Bool} (h : relB K x y b = true) : PySem.W.exmOne K (.ref (eA K x)) (.ref (eA K y)) = some b ∧ PySem.W.kitOne K (.ref (eA K x)) (.ref (eA K y)) = some b := by
  unfold relB at h
  simp only [Bool.and_eq_true, beq_iff_eq] at h
  exact h
theorem isVB.ex {K : PySem.W.Frag} {x : Str} (h : isVB K x = true) : PySem.W.kitOne K (.ref (eA K x)) (.type "ValueError") = some true := by
  unfold isVB at h
  simpa using h
variable [TabsC]
section
variable {X : Cx} {Γ : Ga} {W : WX} {ψ : RB}
/-- raise C('text') by the facts of C -/
theorem dp_raiseF {x m : Str} {j : Nat} {p p2 pos pos2 : Pos} (F : ExcF X.K X.mg x) (tk : Takes X W) (hc : X.calm = true := by rfl) (hg : Gl X x := by rfl) (hdb : (x == ("__debug__" : Str)) = false := by decide) :
    DP X Γ W (.Raise (some (.Call (.Name x p) [.Constant (.str m) j p2] [] pos)) none pos2) (raiseR (eA X.K x)) :=
  dp_raise PySem.F.excBase_ValueError F.q F.g F.k (raises_own F.s F.t) tk hc hg hdb
theorem ExcG.nm {x : Str} (F : ExcG X.K X.mg x) (hg : Gl X x := by rfl) (hdb : (x == ("__debug__" : Str)) = false := by decide) : Names X x (.ref (eA X.K x)) := ⟨hg, hdb, .inl F.g⟩
/-- isinstance(e, C) within the suite of a clause -/
theorem de_isiF {a C : Addr} {oe : Obj} {pn : List (Addr × Obj)} {e : Expr} {x : Str} {φ : RE} {p p2 pos : Pos} (F : ExcG X.K X.mg x) (hz : Zc (.ref C) none oe) (hf : ∃ vs, oe.data = .fields vs) (hm : X.mg "isinstance" = none)
    (ha : DE (X.suite a ((a, oe) :: pn)) Γ W e φ) (hg : Gl X "isinstance" := by rfl) (hg2 : Gl X x := by rfl) (hdb : (x == ("__debug__" : Str)) = false := by decide)
    (he : starEach (e :: [.Name x p2]) X.env = (false, eval e X.env) :: starEach [.Name x p2] X.env := by rfl) (hpl : (backTo pos (starEach [.Name x p2] X.env)).any (·.1) = false := by rfl) :
    DE (X.suite a ((a, oe) :: pn)) Γ W (.Call (.Name "isinstance" p) [e, .Name x p2] [] pos) (isiER X.K a C (.ref (eA X.K x)) φ) :=
  de_isiE (c := .ref (eA X.K x)) hz hf (fun u h => by cases h; rfl) hm ha (pe_glob (X := X.suite a ((a, oe) :: pn)) hg2 F.g rfl hdb) hg he (by rfl) hpl
theorem de_isiV {a C : Addr} {oe : Obj} {pn : List (Addr × Obj)} {e : Expr} {φ : RE} {p p2 pos : Pos} (hz : Zc (.ref C) none oe) (hf : ∃ vs, oe.data = .fields vs) (hm : X.mg "isinstance" = none) (hm2 : X.mg "ValueError" = none)
    (ha : DE (X.suite a ((a, oe) :: pn)) Γ W e φ) (hg : Gl X "isinstance" := by rfl) (hg2 : Gl X "ValueError" := by rfl)
    (he : starEach (e :: [.Name "ValueError" p2]) X.env = (false, eval e X.env) :: starEach [.Name "ValueError" p2] X.env := by rfl) (hpl : (backTo pos (starEach [.Name "ValueError" p2] X.env)).any (·.1) = false := by rfl) :
    DE (X.suite a ((a, oe) :: pn)) Γ W (.Call (.Name "isinstance" p) [e, .Name "ValueError" p2] [] pos) (isiER X.K a C (.type "ValueError") φ) :=
  de_isiE (c := .ty "ValueError") hz hf (fun u h => by cases h; rfl) hm ha (pe_bltn (X := X.suite a ((a, oe) :: pn)) (u := .type "ValueError") hg2 hm2 (by decide +kernel) rfl) hg he (by rfl) hpl
end
end DL

/-! Defs as values: handed on, called by a slot. -/
namespace DL
open PySem PySem.Spec PyProof.Rows L2 NX
variable [TabsC]
section
variable {X : Cx} {Γ : Ga} {W : WX} {a : Expr} {es : List Expr} {ρ : RA} {x : Str} {p pos : Pos} {CX : CXT} {k j : Nat} {ps : List Str} {S : SP}
/-- a def as a value -/
theorem de_fnv (hm : X.mg x = some (.ref (eA X.K x))) (hg : Gl X x := by rfl) (hdb : (x == ("__debug__" : Str)) = false := by decide) : DE X Γ W (.Name x p) (cR (objD (eA X.K x))) :=
  de_c (v := .ref (eA X.K x)) (pe_glob hg hm rfl hdb) fun _ => .obj _
/-- what stands at an address may be called -/
structure HeldD (X : Cx) (CX : CXT) (j : Nat) (f : Addr) (S : SP) : Prop where
  ex : ∃ (k : Nat) (fd : FuncData) (ps : List Str), k ≤ j ∧ FnOk X.prog X.w X.K X.mg X.base CX k f fd ps (spD X.K S) ∧ PySem.W.keepIn X.K (.ref f) = true ∧ Binds X.K fd ps []
  mono : MonoS S
theorem CalD.held (c : CalD X.prog X.w X.K X.mg X.base CX k x ps S) (hk : k ≤ j) (hm : X.mg x = some (.ref (eA X.K x))) : HeldD X CX j (eA X.K x) S := by
  obtain ⟨f, fd, F, hm2, h1, h2, _⟩ := c.ex
  have e := hm.symm.trans hm2
  injection e with e
  injection e with e
  subst e
  exact ⟨⟨k, fd, ps, hk, F, h1, h2⟩, c.mono⟩
/-- x(..), x in slot i -/
def calVR (i : Nat) (T : Addr → SP → Prop) (ρ : RA) : RE := fun δ E P => ∃ f S, T f S ∧ objK (δ.get i) f (ρ δ E fun ds δ1 => S ds (fun x => E x δ1) fun d => P d δ1)
def tCallV (W : WX) (i : Nat) (T : Addr → Sp → Prop) (t : TA) : TE := fun σ H Q => ∃ f sp, T f sp ∧ σ[i]? = some (some (.ref f)) ∧ t σ H fun vs H1 => sp vs H1 Q (WE W σ)
theorem pe_calV {T : Addr → Sp → Prop} {i : Nat} {t : TA} (A : ∀ f sp, T f sp → ∃ (k : Nat) (fd : FuncData) (ps : List Str), k ≤ j ∧ FnOk X.prog X.w X.K X.mg X.base CX k f fd ps sp ∧ PySem.W.keepIn X.K (.ref f) = true ∧ Binds X.K fd ps []) (hr : Room j X.A) (hx : ∀ σ, PassesAt CX X σ (WE W σ))
    (ha : PA X (a :: es) t) (hN : X.N[i]? = some x) (hv : Vis X.env.scope x) (hdb : (x == ("__debug__" : Str)) = false) (hcd : (x == ("__classdict__" : Str)) = false)
    (he : starEach (a :: es) X.env = (false, eval a X.env) :: starEach es X.env) (hpl : (backTo pos (starEach es X.env)).any (·.1) = false) : PE X (.Call (.Name x p) (a :: es) [] pos) (tCallV W i T t) := by
  refine ⟨fun pins s σ H Q I h => ?_⟩
  obtain ⟨f, sp, hT, hs, ht⟩ := h
  obtain ⟨k, fd, ps, hk, F, hkp, hb⟩ := A f sp hT
  refine wpAny_Call_Name_kw (thn ((pe_var (pos := p) hN hv hdb hcd).run pins s σ H (fun v H1 => v = .ref f ∧ H1 = H) I ⟨.ref f, hs, rfl, rfl⟩) fun u s1 ⟨v, H1, I1, r1, q1⟩ => ?_)
  obtain ⟨rfl, rfl⟩ := q1
  cases r1
  refine PySem.W.callWith_K (h₀ := X.base) I.ok.mod.kin hkp (thn (ha.run pos pins s1 σ _ _ I1 ht) fun us s2 ⟨vs, H2, I2, r, q⟩ => ⟨I2.kIn, ?_⟩) he hpl
  exact run_fnA F (hr.mono hk) hb (hx σ) I2 r q
theorem de_calV {T : Addr → SP → Prop} (i : Nat) (A : ∀ f S, T f S → HeldD X CX j f S) (hr : Room j X.A) (hx : ∀ σ, PassesAt CX X σ (WE W σ)) (ha : DA X Γ W (a :: es) ρ) (hN : X.N[i]? = some x := by rfl) (hv : Vis X.env.scope x := by first | exact Or.inl rfl | exact Or.inr (Or.inl rfl) | exact Or.inr (Or.inr rfl))
    (hd : (x == ("__debug__" : Str)) = false := by decide) (hcd : (x == ("__classdict__" : Str)) = false := by decide) (he : starEach (a :: es) X.env = (false, eval a X.env) :: starEach es X.env := by rfl) (hpl : (backTo pos (starEach es X.env)).any (·.1) = false := by rfl) :
    DE X Γ W (.Call (.Name x p) (a :: es) [] pos) (calVR i T ρ) := by
  refine de_mk (pe_calV (W := W) (T := fun f sp => ∃ S, T f S ∧ sp = spD X.K S) (i := i) (fun f sp ⟨S, h, e⟩ => by rw [e]; exact (A f S h).ex) hr hx ha.run hN hv hd hcd he hpl) ?_ fun σ H Q hid δ G R q => ?_
  · rintro δ E E' P P' he hp ⟨f, S, hT, q⟩
    obtain ⟨e, q⟩ := objK_get q
    refine ⟨f, S, hT, ?_⟩
    rw [e]
    exact objK_of (ha.mono _ _ _ _ _ he (fun ds δ1 z => (A f S hT).mono _ _ _ _ _ (fun _ => he _ _) (fun _ => hp _ _) z) q)
  · obtain ⟨f, S, hT, q⟩ := q
    obtain ⟨e, q⟩ := objK_get q
    refine ⟨f, _, ⟨S, hT, rfl⟩, obj_slot R e, ha.go R q fun ds δ1 vs H1 G1 q1 R1 s1 d1 => ?_⟩
    exact ⟨G1, ds, R1.sub, d1, R1.tb.gg, (A f S hT).mono _ _ _ _ _ (fun x1 h1 cls d H2 G2 g ex => h1 cls d σ H2 G2 (R1.grow g) ex) (fun d h1 v H2 G2 g dd => h1 v H2 G2 (R1.grow g) (s1.trans g.data) dd) q1⟩
end
end DL

/-! x.isdigit() -/
namespace DL
open PySem PySem.Spec PyProof.Rows L2 NX
variable [TabsC]
section
variable {X : Cx} {Γ : Ga} {W : WX} {a : Expr} {φ : RE} {pos : Pos}
def isdR (φ : RE) : RE := fun δ E P => φ δ E fun x δ1 => match x with
  | .str u => P (.bool (Txt.isdigit u)) δ1
  | _ => False
theorem de_isdigit {apos : Pos} (ha : DE X Γ W a φ) (hbase : attributeBase a "isdigit" X.env (eval a X.env) = eval a X.env := by rfl) (hline : (apos.endLine == pos.line) = true := by rfl) :
    DE X Γ W (.Call (.Attribute a "isdigit" apos) [] [] pos) (isdR φ) := by
  refine de_mk (pe_m0 PySem.F.slot_str_isdigit PySem.F.type_str_isdigit mt_isdigit ha.run hbase hline) ?_ fun σ H Q hid δ G R q => ha.go R q fun d δ1 v H1 G1 q1 R1 s1 d1 => ?_
  · intro δ E E' P P' he hp q
    refine ha.mono _ _ _ _ _ he (fun x δ1 q1 => ?_) q
    cases x <;> first | exact q1.elim | exact hp _ _ q1
  · cases d1 with
    | str u => exact ⟨⟨u, rfl⟩, u, rfl, rfl, trivial, q1 _ H1 G1 R1 s1 (.bl _)⟩
    | _ => exact q1.elim
end
end DL

/-! Dicts as data. -/
namespace DL
open PySem PySem.Spec PyProof.Rows L2 NX
variable [TabsC]
section
variable {X : Cx} {Γ : Ga} {W : WX} {a : Expr} {φ : RE} {pos : Pos}
/-- {} -/
def dnewR : RE := fun δ _ P => P (dctD []) δ
theorem de_dnew : DE X Γ W (.Dict [] [] pos) dnewR :=
  de_mk pe_dnewK (fun _ _ _ _ _ _ hp q => hp _ _ q) fun σ H Q hid δ G R q p np => by
    have g := Grow.new (o := .dK []) R.sub np
    exact q _ _ _ (R.grow g) g.data (.dct (kvs := []) (l := []) (.inl upd_same) rfl .nil)
end
end DL

/-! Fractions: as data, their sizes. -/
namespace DL
open PySem PySem.Spec PyProof.Rows L2
variable [NX.TabsC]
/-! ### sizes -/
def Bt (k : Nat) (x : Int) : Prop := x.natAbs < 2 ^ k
theorem Bt.mono {k l : Nat} {x : Int} (h : Bt k x) (hl : k ≤ l) : Bt l x := Nat.lt_of_lt_of_le h (Nat.pow_le_pow_right (by decide) hl)
theorem Bt.mul {k l : Nat} {x y : Int} (h : Bt k x) (h2 : Bt l y) : Bt (k + l) (x * y) := by
  unfold Bt
  rw [Int.natAbs_mul, Nat.pow_add]
  exact Nat.mul_lt_mul'' h h2
theorem Bt.add {k : Nat} {x y : Int} (h : Bt k x) (h2 : Bt k y) : Bt (k + 1) (x + y) := by
  unfold Bt at *
  have e : 2 ^ (k + 1) = 2 ^ k + 2 ^ k := by rw [Nat.pow_succ]; omega
  omega
theorem Bt.sub {k : Nat} {x y : Int} (h : Bt k x) (h2 : Bt k y) : Bt (k + 1) (x - y) := by
  unfold Bt at *
  have e : 2 ^ (k + 1) = 2 ^ k + 2 ^ k := by rw [Nat.pow_succ]; omega
  omega
theorem Bt.neg {k : Nat} {x : Int} (h : Bt k x) : Bt k (0 - x) := by
  unfold Bt at *
  omega
theorem Bt.le {k : Nat} {x y : Int} (h : Bt k y) (hl : x.natAbs ≤ y.natAbs) : Bt k x := Nat.lt_of_le_of_lt hl h
theorem bits_lt {x : Int} {k : Nat} (h : Bt k x) : Builtin.Int.intBits x ≤ k := by
  unfold Builtin.Int.intBits
  split
  · exact Nat.zero_le _
  · rename_i hz
    have h0 : x.natAbs ≠ 0 := by
      intro z
      have : x = 0 := by omega
      simp [this] at hz
    have := (Nat.log2_lt h0).mpr h
    omega
theorem Bt.cm {k l : Nat} {x y : Int} (h : Bt k x) (h2 : Bt l y) (hl : k + l ≤ 134217728) : CMulX x y := by
  unfold CMulX
  have h1 := bits_lt h
  have h3 := bits_lt h2
  omega
theorem Bt.cd {k : Nat} {x y : Int} (h : Bt k y) (hy : 0 < y) (hl : k ≤ 9000) : CDivW x y := by
  refine ⟨hy, ?_⟩
  have h0 : y.natAbs ≠ 0 := by omega
  exact (Nat.log2_lt h0).mpr (h.mono hl)
theorem Bt.of_lt {k : Nat} {x : Int} (h : -(2 ^ k : Int) < x) (h2 : x < (2 ^ k : Int)) : Bt k x := by
  unfold Bt
  have e : ((2 ^ k : Nat) : Int) = (2 ^ k : Int) := by simp
  omega
/-! ### fractions -/
def qD (q : Rat) : D := .tuple [.int q.num, .int q.den]
structure BQ (k : Nat) (q : Rat) : Prop where
  n : Bt k q.num
  d : Bt k (q.den : Int)
theorem BQ.mono {k l : Nat} {q : Rat} (h : BQ k q) (hl : k ≤ l) : BQ l q := ⟨h.n.mono hl, h.d.mono hl⟩
theorem den_pos (q : Rat) : (0 : Int) < q.den := by have := q.den_pos; omega
theorem qD_inj {p q : Rat} (h : qD p = qD q) : p = q := by
  unfold qD at h
  injection h with h
  injection h with h1 h2
  injection h1 with h1
  injection h2 with h2 _
  injection h2 with h2
  exact Rat.ext h1 (by omega)
/-- the numbers of n by d, in lowest terms -/
theorem divInt_num {n d : Int} (hd : 0 < d) : (Rat.divInt n d).num = n / ((Nat.gcd n.natAbs d.natAbs : Nat) : Int) ∧ ((Rat.divInt n d).den : Int) = d / ((Nat.gcd n.natAbs d.natAbs : Nat) : Int) := by
  rw [Rat.num_divInt, Rat.den_divInt, if_neg (by omega), Int.sign_eq_one_of_pos hd, Int.one_mul]
  have e : d.gcd n = Nat.gcd n.natAbs d.natAbs := by rw [Nat.gcd_comm]; rfl
  rw [e]
  refine ⟨rfl, ?_⟩
  rw [Int.natCast_ediv, Int.natAbs_of_nonneg (by omega)]
theorem divInt_neg2 (n d : Int) : Rat.divInt (0 - n) (0 - d) = Rat.divInt n d := by
  rw [Int.zero_sub, Int.zero_sub, Rat.neg_divInt_neg]
theorem natAbs_div_le (n : Int) (g : Nat) : (n / (g : Int)).natAbs ≤ n.natAbs := by
  by_cases hg : g = 0
  · subst hg; simp
  · have hg1 : (1 : Int) ≤ g := by omega
    have h1 := Int.ediv_mul_le n (show (g : Int) ≠ 0 by omega)
    have h2 := Int.lt_ediv_add_one_mul_self n (show (0 : Int) < g by omega)
    rcases Int.lt_or_le n 0 with hn | hn
    · have h3 : n / (g : Int) < 0 := Int.ediv_neg_of_neg_of_pos hn (by omega)
      have h4 : n ≤ n / (g : Int) := by
        rcases Int.lt_or_le (n / (g : Int)) n with h | h
        · exfalso
          have : (n / (g : Int) + 1) * g ≤ n * 1 := by
            have a1 : n / (g : Int) + 1 ≤ n := by omega
            have a2 : (n / (g : Int) + 1) * g ≤ (n / (g : Int) + 1) * 1 := Int.mul_le_mul_of_nonpos_left (by omega) hg1
            omega
          omega
        · exact h
      omega
    · have h3 : 0 ≤ n / (g : Int) := Int.ediv_nonneg hn (by omega)
      have h4 : n / (g : Int) ≤ n := Int.ediv_le_self _ hn
      omega
theorem BQ.divInt {k : Nat} {n d : Int} (hn : Bt k n) (hd : Bt k d) (h0 : d ≠ 0) : BQ k (Rat.divInt n d) := by
  rcases Int.lt_or_gt_of_ne h0 with h | h
  · rw [← divInt_neg2]
    obtain ⟨e1, e2⟩ := divInt_num (n := 0 - n) (d := 0 - d) (by omega)
    exact ⟨by rw [e1]; exact hn.neg.le (natAbs_div_le _ _), by rw [e2]; exact hd.neg.le (natAbs_div_le _ _)⟩
  · obtain ⟨e1, e2⟩ := divInt_num (n := n) (d := d) h
    exact ⟨by rw [e1]; exact hn.le (natAbs_div_le _ _), by rw [e2]; exact hd.le (natAbs_div_le _ _)⟩
theorem add_divInt (p q : Rat) : Rat.divInt (p.num * q.den + q.num * p.den) (p.den * q.den) = p + q := by
  have h := Rat.divInt_add_divInt p.num q.num (d₁ := p.den) (d₂ := q.den) (by have := den_pos p; omega) (by have := den_pos q; omega)
  rw [Rat.num_divInt_den, Rat.num_divInt_den] at h
  exact h.symm
theorem sub_divInt (p q : Rat) : Rat.divInt (p.num * q.den - q.num * p.den) (p.den * q.den) = p - q := by
  have h := add_divInt p (-q)
  rw [Rat.neg_num, Rat.neg_den] at h
  rw [Rat.sub_eq_add_neg, ← h]
  congr 1
  rw [Int.neg_mul]
  omega
theorem mul_divInt (p q : Rat) : Rat.divInt (p.num * q.num) (p.den * q.den) = p * q := by
  have h := Rat.divInt_mul_divInt p.num q.num (d₁ := p.den) (d₂ := q.den)
  rw [Rat.num_divInt_den, Rat.num_divInt_den] at h
  exact h.symm
theorem den_ne (q : Rat) : (q.den : Int) ≠ 0 := by have := den_pos q; omega
theorem den2_ne (p q : Rat) : (p.den : Int) * q.den ≠ 0 := Int.mul_ne_zero (den_ne p) (den_ne q)
theorem BQ.add {k : Nat} {p q : Rat} (hp : BQ k p) (hq : BQ k q) : BQ (k + k + 1) (p + q) := by
  rw [← add_divInt]
  exact BQ.divInt ((hp.n.mul hq.d).add (hq.n.mul hp.d)) ((hp.d.mul hq.d).mono (by omega)) (den2_ne p q)
theorem BQ.sub {k : Nat} {p q : Rat} (hp : BQ k p) (hq : BQ k q) : BQ (k + k + 1) (p - q) := by
  rw [← sub_divInt]
  exact BQ.divInt ((hp.n.mul hq.d).sub (hq.n.mul hp.d)) ((hp.d.mul hq.d).mono (by omega)) (den2_ne p q)
theorem BQ.mul {k l : Nat} {p q : Rat} (hp : BQ k p) (hq : BQ l q) : BQ (k + l) (p * q) := by
  rw [← mul_divInt]
  exact BQ.divInt (hp.n.mul hq.n) (hp.d.mul hq.d) (den2_ne p q)
theorem BQ.int {k : Nat} {i : Int} (h : Bt k i) (hk : 0 < k) : BQ k (i : Rat) :=
  ⟨by rw [Rat.num_intCast]; exact h, by rw [Rat.den_intCast]; show 1 < 2 ^ k; exact Nat.one_lt_two_pow (by omega)⟩
theorem qD_int (i : Int) : qD (i : Rat) = .tuple [.int i, .int 1] := by
  unfold qD
  rw [Rat.num_intCast, Rat.den_intCast]
  rfl
theorem lt_num (p q : Rat) : (p.num * q.den < q.num * p.den) ↔ p < q := (Rat.lt_iff p q).symm
end DL

/-! Loops, places, equal data. -/
namespace DL
open PySem PySem.Spec PyProof.Rows L2
variable [NX.TabsC]
theorem forK_ind {γ : RG} {b : RB} {E : KE} {P : Fw → DS → Prop} {I : List D → DS → Prop} (hend : ∀ δ, I [] δ → P .nx δ)
    (step : ∀ d rest δ, I (d :: rest) δ → (∀ δ2, I rest δ2 → forK γ b E P rest δ2) → γ d δ fun δ1 => b δ1 E (foK (forK γ b E P rest) P)) : ∀ ds δ, I ds δ → forK γ b E P ds δ
  | [], δ, h => hend δ h
  | d :: rest, δ, h => step d rest δ h fun δ2 h2 => forK_ind hend step rest δ2 h2
theorem lcK_ind {vs : List Nat} {γ : RG} {t : RT} {e : RE} {P : List D → DS → Prop} {I : List D → List D → DS → Prop} (hend : ∀ acc δ, I [] acc δ → P acc δ)
    (step : ∀ d rest acc δ, I (d :: rest) acc δ → (∀ acc2 δ2, I rest acc2 δ2 → lcK vs γ t e P rest acc2 δ2) →
      γ d δ fun δ1 => t δ1 E0K fun b δ2 => bifP b (e δ2 E0K fun y δ3 => ioG vs δ3 (lcK vs γ t e P rest (acc ++ [y]) (wipeD δ3 vs))) (ioG vs δ2 (lcK vs γ t e P rest acc (wipeD δ2 vs)))) : ∀ ds acc δ, I ds acc δ → lcK vs γ t e P ds acc δ
  | [], acc, δ, h => hend acc δ h
  | d :: rest, acc, δ, h => step d rest acc δ h fun acc2 δ2 h2 => lcK_ind hend step rest acc2 δ2 h2
/-! ### places -/
theorem atI_nn {α : Type} {xs : List α} {i : Int} (h0 : 0 ≤ i) (h1 : i < xs.length) : ∃ d, atI xs i = some d ∧ xs[i.toNat]? = some d ∧ d ∈ xs := by
  have hl : i.toNat < xs.length := by omega
  refine ⟨xs[i.toNat], ?_, List.getElem?_eq_getElem hl, List.getElem_mem hl⟩
  have := atI_nat (xs := xs) (j := i.toNat) (v := xs[i.toNat]) (List.getElem?_eq_getElem hl)
  rw [Int.toNat_of_nonneg h0] at this
  exact this
theorem atI_all {α : Type} {xs : List α} {i : Int} {F : α → Prop} (h0 : 0 ≤ i) (h1 : i < xs.length) (h : ∀ d ∈ xs, F d) : optK (atI xs i) F := by
  obtain ⟨d, e, _, m⟩ := atI_nn h0 h1
  exact optK_some e (h d m)
theorem atI_map {α β : Type} {f : α → β} {xs : List α} {j : Nat} {x : α} (h : xs[j]? = some x) : atI (xs.map f) (j : Int) = some (f x) := by
  apply atI_nat
  rw [List.getElem?_map, h]
  rfl
/-! ### equal data -/
theorem eqv_qD (p q : Rat) : PyData.eqv (qD p) (qD q) = decide (p = q) := by
  have e : PyData.eqv (qD p) (qD q) = ((p.num == q.num) && (((p.den : Int) == (q.den : Int)) && true)) := by simp only [qD, PyData.eqv, PyData.eqvAll]
  rw [e]
  by_cases h : p = q
  · subst h; simp
  · rw [decide_eq_false h]
    by_cases h1 : p.num = q.num
    · have h2 : p.den ≠ q.den := fun z => h (Rat.ext h1 z)
      simp [h1]
      omega
    · simp [h1]
theorem shaped_qD (q : Rat) : SeqAt.shaped (qD q) = true := rfl
theorem canLayAll_of {ds : List D} (h : ∀ d ∈ ds, PyData.canLay0 d = true) : PyData.canLayAll0 ds = true := by
  induction ds with
  | nil => rfl
  | cons d r ih =>
    show (PyData.canLay0 d && PyData.canLayAll0 r) = true
    rw [h d List.mem_cons_self, ih fun x hx => h x (List.mem_cons_of_mem _ hx)]
    rfl
theorem depthAll_of {ds : List D} {k : Nat} (h : ∀ d ∈ ds, PyData.depth d ≤ k) : PyData.depthAll ds ≤ k := by
  induction ds with
  | nil => exact Nat.zero_le _
  | cons d r ih =>
    have h1 := h d List.mem_cons_self
    have h2 := ih fun x hx => h x (List.mem_cons_of_mem _ hx)
    simp only [PyData.depthAll]
    omega
/-- a list of data of little depth -/
theorem shaped_list {ds : List D} (h1 : ∀ d ∈ ds, PyData.canLay0 d = true) (h2 : ∀ d ∈ ds, PyData.depth d ≤ 63) : SeqAt.shaped (.list ds) = true := by
  have h3 := depthAll_of h2
  have h4 := canLayAll_of h1
  show (PyData.canLay0 (.list ds) && decide (PyData.depth (.list ds) ≤ 64)) = true
  simp only [PyData.canLay0, PyData.depth, h4, Bool.true_and]
  exact decide_eq_true (by omega)
theorem shaped_tuple {ds : List D} (h1 : ∀ d ∈ ds, PyData.canLay0 d = true) (h2 : ∀ d ∈ ds, PyData.depth d ≤ 63) : SeqAt.shaped (.tuple ds) = true := by
  have h3 := depthAll_of h2
  have h4 := canLayAll_of h1
  show (PyData.canLay0 (.tuple ds) && decide (PyData.depth (.tuple ds) ≤ 64)) = true
  simp only [PyData.canLay0, PyData.depth, h4, Bool.true_and]
  exact decide_eq_true (by omega)
theorem shaped_parts {d : D} (h : SeqAt.shaped d = true) : PyData.canLay0 d = true ∧ PyData.depth d ≤ 64 := by
  obtain ⟨a, b⟩ := Bool.and_eq_true_iff.mp (show (PyData.canLay0 d && decide (PyData.depth d ≤ 64)) = true from h)
  exact ⟨a, of_decide_eq_true b⟩
theorem shaped_qs (qs : List Rat) : SeqAt.shaped (.list (qs.map qD)) = true := by
  refine shaped_list (fun d hd => ?_) (fun d hd => ?_)
  · obtain ⟨q, _, rfl⟩ := List.mem_map.mp hd; rfl
  · obtain ⟨q, _, rfl⟩ := List.mem_map.mp hd; exact (by decide : 1 ≤ 63)
def ptD (p : Int × Rat) : D := .tuple [.int p.1, qD p.2]
theorem shaped_pts (ps : List (Int × Rat)) : SeqAt.shaped (.list (ps.map ptD)) = true := by
  refine shaped_list (fun d hd => ?_) (fun d hd => ?_)
  · obtain ⟨q, _, rfl⟩ := List.mem_map.mp hd; rfl
  · obtain ⟨q, _, rfl⟩ := List.mem_map.mp hd; exact (by decide : 2 ≤ 63)
mutual
theorem eqv_self : ∀ d : D, PyData.canLay0 d = true → PyData.eqv d d = true
  | .none, _ => rfl
  | .bool b, _ => by simp [PyData.eqv]
  | .int i, _ => by simp [PyData.eqv]
  | .str x, _ => by simp [PyData.eqv]
  | .list xs, h => by simp only [PyData.eqv]; exact eqvAll_self xs h
  | .tuple xs, h => by simp only [PyData.eqv]; exact eqvAll_self xs h
  | .dict _, h => by simp [PyData.canLay0] at h
theorem eqvAll_self : ∀ ds : List D, PyData.canLayAll0 ds = true → PyData.eqvAll ds ds = true
  | [], _ => rfl
  | d :: r, h => by
    obtain ⟨a, b⟩ := Bool.and_eq_true_iff.mp (show (PyData.canLay0 d && PyData.canLayAll0 r) = true from h)
    simp only [PyData.eqvAll, eqv_self d a, eqvAll_self r b, Bool.and_self]
end
theorem anyEq_q (q : Rat) (qs : List Rat) : anyEq (qD q) (qs.map qD) = decide (q ∈ qs) := by
  unfold anyEq
  induction qs with
  | nil => simp
  | cons p r ih =>
    rw [List.map_cons, List.any_cons, ih, eqv_qD, Bool.eq_iff_iff]
    simp only [Bool.or_eq_true, decide_eq_true_eq, List.mem_cons]
    constructor
    · rintro (h | h)
      · exact .inl h.symm
      · exact .inr h
    · rintro (h | h)
      · exact .inl h.symm
      · exact .inr h
theorem decide_eq {p q : Prop} [Decidable p] [Decidable q] (h : p ↔ q) : decide p = decide q := decide_eq_decide.mpr h
end DL

/-! Loops by places. -/
namespace DL
open PySem PySem.Spec PyProof.Rows L2
variable [NX.TabsC]
theorem forK_nat {α : Type} {xs : List α} {g : α → D} {γ : RG} {b : RB} {E : KE} {P : Fw → DS → Prop} (I : Nat → DS → Prop) (hend : ∀ δ, I xs.length δ → P .nx δ)
    (step : ∀ k x δ, xs[k]? = some x → I k δ → ∀ F : DS → Prop, (∀ δ2, I (k + 1) δ2 → F δ2) → γ (g x) δ fun δ1 => b δ1 E (foK F P)) (δ : DS) (h : I 0 δ) : forK γ b E P (xs.map g) δ := by
  have key : ∀ (rest : List α) (k : Nat) (δ : DS), rest = xs.drop k → I k δ → k + rest.length = xs.length → forK γ b E P (rest.map g) δ := by
    intro rest
    induction rest with
    | nil =>
      intro k δ e h hk
      have : k = xs.length := by simpa using hk
      subst this
      exact hend δ h
    | cons x r ih =>
      intro k δ e h hk
      have ex : xs[k]? = some x := by rw [← List.head?_drop, ← e]; rfl
      refine step k x δ ex h _ fun δ2 h2 => ih (k + 1) δ2 ?_ h2 ?_
      · rw [← List.drop_drop, ← e]; rfl
      · rw [List.length_cons] at hk; omega
  exact key xs 0 δ (by rw [List.drop_zero]) h (by omega)
theorem lcK_fm {α : Type} {xs : List α} {g : α → D} {vs : List Nat} {γ : RG} {t : RT} {e : RE} {P : List D → DS → Prop} {δ0 : DS} (f : α → Option D)
    (step : ∀ x, x ∈ xs → ∀ (acc : List D) (F : List D → DS → Prop), F (acc ++ (f x).toList) δ0 →
      γ (g x) δ0 fun δ1 => t δ1 E0K fun b δ2 => bifP b (e δ2 E0K fun y δ3 => ioG vs δ3 (F (acc ++ [y]) (wipeD δ3 vs))) (ioG vs δ2 (F acc (wipeD δ2 vs)))) (h : P (xs.filterMap f) δ0) : lcK vs γ t e P (xs.map g) [] δ0 := by
  have key : ∀ (rest : List α) (acc : List D), (∀ x ∈ rest, x ∈ xs) → P (acc ++ rest.filterMap f) δ0 → lcK vs γ t e P (rest.map g) acc δ0 := by
    intro rest
    induction rest with
    | nil =>
      intro acc _ h
      rw [List.filterMap_nil, List.append_nil] at h
      exact h
    | cons x r ih =>
      intro acc hm h
      refine step x (hm x List.mem_cons_self) acc (lcK vs γ t e P (r.map g)) (ih _ (fun y hy => hm y (List.mem_cons_of_mem _ hy)) ?_)
      rw [List.append_assoc]
      have e2 : (f x).toList ++ r.filterMap f = (x :: r).filterMap f := by
        rw [List.filterMap_cons]
        cases f x <;> rfl
      rw [e2]
      exact h
  exact key xs [] (fun _ h => h) h
theorem enumL_map {α : Type} (xs : List α) (g : α → D) : enumL (xs.map g) = (xs.zipIdx).map fun p => PyData.tuple [.int (p.2 : Nat), g p.1] := by
  unfold enumL
  rw [List.zipIdx_map, List.map_map]
  rfl
theorem zipIdx_get {α : Type} {xs : List α} {k : Nat} {p : α × Nat} (h : xs.zipIdx[k]? = some p) : xs[k]? = some p.1 ∧ p.2 = k := by
  rw [List.getElem?_zipIdx] at h
  cases e : xs[k]? with
  | none => rw [e] at h; cases h
  | some a => rw [e] at h; cases h; exact ⟨rfl, by simp⟩
theorem range_get {n k x : Nat} (h : (List.range n)[k]? = some x) : x = k ∧ k < n := by
  obtain ⟨hl, e⟩ := List.getElem?_eq_some_iff.mp h
  rw [List.length_range] at hl
  rw [List.getElem_range] at e
  exact ⟨e.symm, hl⟩
theorem get_lt {α : Type} {xs : List α} {k : Nat} {x : α} (h : xs[k]? = some x) : k < xs.length := (List.getElem?_eq_some_iff.mp h).1
theorem get_mem {α : Type} {xs : List α} {k : Nat} {x : α} (h : xs[k]? = some x) : x ∈ xs := List.mem_of_getElem? h
theorem mem_get {α : Type} {xs : List α} {x : α} (h : x ∈ xs) : ∃ k : Nat, xs[k]? = some x := List.getElem?_of_mem h
theorem filterMap_some {α β : Type} (f : α → β) (xs : List α) : xs.filterMap (fun x => some (f x)) = xs.map f := by
  induction xs with
  | nil => rfl
  | cons x r ih => rw [List.filterMap_cons, ih]; rfl
theorem filterMap_if {α β : Type} (f : α → β) (p : α → Bool) (xs : List α) : xs.filterMap (fun x => bif p x then some (f x) else none) = (xs.filter p).map f := by
  induction xs with
  | nil => rfl
  | cons x r ih =>
    rw [List.filterMap_cons, List.filter_cons, ih]
    cases p x <;> rfl
end DL
namespace DL
open PySem PySem.Spec PyProof.Rows L2
variable [NX.TabsC]
instance (k : Nat) (x : Int) : Decidable (Bt k x) := inferInstanceAs (Decidable (_ < _))
instance (x y : Int) : Decidable (CMulX x y) := inferInstanceAs (Decidable (_ ≤ _))
theorem setK_of {o : Option Sl} {i : Nat} {s : Sl} {δ : DS} {P : DS → Prop} (h : notIo o = true) (q : P (List.set δ i (some s))) : setK o i s δ P := by
  cases o with
  | none => exact q
  | some s => cases s <;> first | exact q | cases h
theorem eqv_int (a b : Int) : PyData.eqv (.int a) (.int b) = decide (a = b) := by
  simp only [PyData.eqv]
  rw [Bool.eq_iff_iff]
  simp
theorem bif_eqi {a b : Int} {A B : Prop} (h1 : a = b → A) (h2 : a ≠ b → B) : bifP (PyData.eqv (.int a) (.int b)) A B := by
  rw [eqv_int]
  exact bif_dec h1 h2
theorem bif_nei {a b : Int} {A B : Prop} (h1 : a ≠ b → A) (h2 : a = b → B) : bifP (!PyData.eqv (.int a) (.int b)) A B := by
  rw [eqv_int]
  by_cases h : a = b
  · rw [decide_eq_true h]; exact h2 h
  · rw [decide_eq_false h]; exact h1 h
theorem lcK_none {α : Type} {xs : List α} {g : α → D} {vs : List Nat} {γ : RG} {t : RT} {e : RE} {P : List D → DS → Prop} {δ0 : DS}
    (step : ∀ x, x ∈ xs → ∀ (acc : List D) (F : List D → DS → Prop), F acc δ0 →
      γ (g x) δ0 fun δ1 => t δ1 E0K fun b δ2 => bifP b (e δ2 E0K fun y δ3 => ioG vs δ3 (F (acc ++ [y]) (wipeD δ3 vs))) (ioG vs δ2 (F acc (wipeD δ2 vs)))) (h : P [] δ0) : lcK vs γ t e P (xs.map g) [] δ0 := by
  refine lcK_fm (fun _ => none) (fun x hx acc F hF => step x hx acc F (by simpa using hF)) ?_
  have e : xs.filterMap (fun _ => (none : Option D)) = [] := by simp
  rw [e]
  exact h
theorem lcK_all {α : Type} {xs : List α} {g : α → D} {vs : List Nat} {γ : RG} {t : RT} {e : RE} {P : List D → DS → Prop} {δ0 : DS} (f : α → D)
    (step : ∀ x, x ∈ xs → ∀ (acc : List D) (F : List D → DS → Prop), F (acc ++ [f x]) δ0 →
      γ (g x) δ0 fun δ1 => t δ1 E0K fun b δ2 => bifP b (e δ2 E0K fun y δ3 => ioG vs δ3 (F (acc ++ [y]) (wipeD δ3 vs))) (ioG vs δ2 (F acc (wipeD δ2 vs)))) (h : P (xs.map f) δ0) : lcK vs γ t e P (xs.map g) [] δ0 := by
  refine lcK_fm (fun x => some (f x)) (fun x hx acc F hF => step x hx acc F hF) ?_
  rw [filterMap_some]
  exact h
theorem take_succ_of {α : Type} {xs : List α} {k : Nat} {x : α} (h : xs[k]? = some x) : xs.take (k + 1) = xs.take k ++ [x] := by
  rw [List.take_succ, h]
  rfl
theorem gcd_step {a b : Nat} : Nat.gcd (b % a) a = Nat.gcd a b := (Nat.gcd_rec a b).symm
theorem absI_abs (n : Int) : absI n = (n.natAbs : Int) := by unfold absI; split <;> omega
theorem nameG_of {i : Nat} {d : D} {δ : DS} {P : DS → Prop} (h : notIo (DS.get δ i) = true) (q : P (List.set δ i (some (.sh d)))) : nameG i d δ P := setK_of h q
theorem consG_of {γ : RG} {γs : RGs} {d : D} {r : List D} {δ : DS} {P : DS → Prop} (h : γ d δ fun δ1 => γs r δ1 P) : consG γ γs (d :: r) δ P := h
theorem tupG_of {n : Nat} {γs : RGs} {ds : List D} {δ : DS} {P : DS → Prop} (e : ds.length = n) (h : γs ds δ P) : tupG n γs (.tuple ds) δ P := ⟨e, h⟩
theorem cutR {ψ1 ψ2 : RB} {δ : DS} {E : KE} {P : Fw → DS → Prop} (C : DS → Prop) (h1 : ∀ P' : Fw → DS → Prop, (∀ δ1, C δ1 → P' .nx δ1) → ψ1 δ E P') (h2 : ∀ δ1, C δ1 → ψ2 δ1 E P) : seqR ψ1 ψ2 δ E P := h1 (seqK ψ2 E P) h2
theorem cutK {ψ1 ψ2 : RB} {δ : DS} {E : KE} {P : Fw → DS → Prop} (C : DS → Prop) (h1 : ∀ P' : Fw → DS → Prop, (∀ δ1, C δ1 → P' .nx δ1) → ψ1 δ E P') (h2 : ∀ δ1, C δ1 → ψ2 δ1 E P) : seqK (seqR ψ1 ψ2) E P .nx δ := h1 (seqK ψ2 E P) h2
end DL

/-! Loops over pinned lists, by places. -/
namespace DL
open PySem PySem.Spec PyProof.Rows L2
variable [NX.TabsC]
theorem forP_nat {α : Type} {s : Nat} {L : List D} {xs : List α} {g : α → D} {γ : RG} {b : RB} {E : KE} {P : Fw → DS → Prop} (I : Nat → DS → Prop) (hio : ∀ k δ, I k δ → ioO (δ.get s) = some L) (hend : ∀ δ, I xs.length δ → P .nx δ)
    (step : ∀ k x δ, xs[k]? = some x → I k δ → ∀ F : DS → Prop, (∀ δ2, I (k + 1) δ2 → F δ2) → γ (g x) δ fun δ1 => b δ1 E (foK F P)) (δ : DS) (h : I 0 δ) : forP s L γ b E P (xs.map g) δ := by
  have key : ∀ (rest : List α) (k : Nat) (δ : DS), rest = xs.drop k → I k δ → k + rest.length = xs.length → forP s L γ b E P (rest.map g) δ := by
    intro rest
    induction rest with
    | nil =>
      intro k δ e h hk
      have : k = xs.length := by simpa using hk
      subst this
      exact ⟨hio _ _ h, hend δ h⟩
    | cons x r ih =>
      intro k δ e h hk
      have ex : xs[k]? = some x := by rw [← List.head?_drop, ← e]; rfl
      refine ⟨hio _ _ h, step k x δ ex h _ fun δ2 h2 => ih (k + 1) δ2 ?_ h2 ?_⟩
      · rw [← List.drop_drop, ← e]; rfl
      · rw [List.length_cons] at hk; omega
  exact key xs 0 δ (by rw [List.drop_zero]) h (by omega)
theorem nilG_of {δ : DS} {P : DS → Prop} (h : P δ) : nilG [] δ P := h
theorem unassoc2 {ψ1 ψ2 φ : RB} {δ : DS} {E : KE} {P : Fw → DS → Prop} (h : (seqR ψ1 ψ2) δ E (seqK φ E P)) : (seqR ψ1 (seqR ψ2 φ)) δ E P := by
  have e : seqK ψ2 E (seqK φ E P) = seqK (seqR ψ2 φ) E P := by
    funext fl δ
    cases fl <;> first | rfl | (exact propext ⟨fun h => h, fun h => h⟩)
  show ψ1 δ E (seqK (seqR ψ2 φ) E P)
  rw [← e]
  exact h
theorem reassoc2 {ψ1 ψ2 φ : RB} {δ : DS} {E : KE} {P : Fw → DS → Prop} (h : (seqR ψ1 (seqR ψ2 φ)) δ E P) : (seqR ψ1 ψ2) δ E (seqK φ E P) := by
  have e : seqK ψ2 E (seqK φ E P) = seqK (seqR ψ2 φ) E P := by
    funext fl δ
    cases fl <;> first | rfl | (exact propext ⟨fun h => h, fun h => h⟩)
  show ψ1 δ E (seqK ψ2 E (seqK φ E P))
  rw [e]
  exact h
theorem unassoc3 {ψ1 ψ2 ψ3 φ : RB} {δ : DS} {E : KE} {P : Fw → DS → Prop} (h : (seqR ψ1 (seqR ψ2 ψ3)) δ E (seqK φ E P)) : (seqR ψ1 (seqR ψ2 (seqR ψ3 φ))) δ E P := by
  have e : seqK (seqR ψ2 ψ3) E (seqK φ E P) = seqK (seqR ψ2 (seqR ψ3 φ)) E P := by
    funext fl δ
    cases fl <;> first | rfl | (exact propext ⟨fun h => unassoc2 h, fun h => reassoc2 h⟩)
  show ψ1 δ E (seqK (seqR ψ2 (seqR ψ3 φ)) E P)
  rw [← e]
  exact h
theorem reassoc3 {ψ1 ψ2 ψ3 φ : RB} {δ : DS} {E : KE} {P : Fw → DS → Prop} (h : (seqR ψ1 (seqR ψ2 (seqR ψ3 φ))) δ E P) : (seqR ψ1 (seqR ψ2 ψ3)) δ E (seqK φ E P) := by
  have e : seqK (seqR ψ2 ψ3) E (seqK φ E P) = seqK (seqR ψ2 (seqR ψ3 φ)) E P := by
    funext fl δ
    cases fl <;> first | rfl | (exact propext ⟨fun h => unassoc2 h, fun h => reassoc2 h⟩)
  show ψ1 δ E (seqK (seqR ψ2 ψ3) E (seqK φ E P))
  rw [e]
  exact h
theorem unassoc4 {ψ1 ψ2 ψ3 ψ4 φ : RB} {δ : DS} {E : KE} {P : Fw → DS → Prop} (h : (seqR ψ1 (seqR ψ2 (seqR ψ3 ψ4))) δ E (seqK φ E P)) : (seqR ψ1 (seqR ψ2 (seqR ψ3 (seqR ψ4 φ)))) δ E P := by
  have e : seqK (seqR ψ2 (seqR ψ3 ψ4)) E (seqK φ E P) = seqK (seqR ψ2 (seqR ψ3 (seqR ψ4 φ))) E P := by
    funext fl δ
    cases fl <;> first | rfl | (exact propext ⟨fun h => unassoc3 h, fun h => reassoc3 h⟩)
  show ψ1 δ E (seqK (seqR ψ2 (seqR ψ3 (seqR ψ4 φ))) E P)
  rw [← e]
  exact h
theorem reassoc4 {ψ1 ψ2 ψ3 ψ4 φ : RB} {δ : DS} {E : KE} {P : Fw → DS → Prop} (h : (seqR ψ1 (seqR ψ2 (seqR ψ3 (seqR ψ4 φ)))) δ E P) : (seqR ψ1 (seqR ψ2 (seqR ψ3 ψ4))) δ E (seqK φ E P) := by
  have e : seqK (seqR ψ2 (seqR ψ3 ψ4)) E (seqK φ E P) = seqK (seqR ψ2 (seqR ψ3 (seqR ψ4 φ))) E P := by
    funext fl δ
    cases fl <;> first | rfl | (exact propext ⟨fun h => unassoc3 h, fun h => reassoc3 h⟩)
  show ψ1 δ E (seqK (seqR ψ2 (seqR ψ3 ψ4)) E (seqK φ E P))
  rw [e]
  exact h
theorem unassoc5 {ψ1 ψ2 ψ3 ψ4 ψ5 φ : RB} {δ : DS} {E : KE} {P : Fw → DS → Prop} (h : (seqR ψ1 (seqR ψ2 (seqR ψ3 (seqR ψ4 ψ5)))) δ E (seqK φ E P)) : (seqR ψ1 (seqR ψ2 (seqR ψ3 (seqR ψ4 (seqR ψ5 φ))))) δ E P := by
  have e : seqK (seqR ψ2 (seqR ψ3 (seqR ψ4 ψ5))) E (seqK φ E P) = seqK (seqR ψ2 (seqR ψ3 (seqR ψ4 (seqR ψ5 φ)))) E P := by
    funext fl δ
    cases fl <;> first | rfl | (exact propext ⟨fun h => unassoc4 h, fun h => reassoc4 h⟩)
  show ψ1 δ E (seqK (seqR ψ2 (seqR ψ3 (seqR ψ4 (seqR ψ5 φ)))) E P)
  rw [← e]
  exact h
theorem reassoc5 {ψ1 ψ2 ψ3 ψ4 ψ5 φ : RB} {δ : DS} {E : KE} {P : Fw → DS → Prop} (h : (seqR ψ1 (seqR ψ2 (seqR ψ3 (seqR ψ4 (seqR ψ5 φ))))) δ E P) : (seqR ψ1 (seqR ψ2 (seqR ψ3 (seqR ψ4 ψ5)))) δ E (seqK φ E P) := by
  have e : seqK (seqR ψ2 (seqR ψ3 (seqR ψ4 ψ5))) E (seqK φ E P) = seqK (seqR ψ2 (seqR ψ3 (seqR ψ4 (seqR ψ5 φ)))) E P := by
    funext fl δ
    cases fl <;> first | rfl | (exact propext ⟨fun h => unassoc4 h, fun h => reassoc4 h⟩)
  show ψ1 δ E (seqK (seqR ψ2 (seqR ψ3 (seqR ψ4 ψ5))) E (seqK φ E P))
  rw [e]
  exact h
theorem unassoc6 {ψ1 ψ2 ψ3 ψ4 ψ5 ψ6 φ : RB} {δ : DS} {E : KE} {P : Fw → DS → Prop} (h : (seqR ψ1 (seqR ψ2 (seqR ψ3 (seqR ψ4 (seqR ψ5 ψ6))))) δ E (seqK φ E P)) : (seqR ψ1 (seqR ψ2 (seqR ψ3 (seqR ψ4 (seqR ψ5 (seqR ψ6 φ)))))) δ E P := by
  have e : seqK (seqR ψ2 (seqR ψ3 (seqR ψ4 (seqR ψ5 ψ6)))) E (seqK φ E P) = seqK (seqR ψ2 (seqR ψ3 (seqR ψ4 (seqR ψ5 (seqR ψ6 φ))))) E P := by
    funext fl δ
    cases fl <;> first | rfl | (exact propext ⟨fun h => unassoc5 h, fun h => reassoc5 h⟩)
  show ψ1 δ E (seqK (seqR ψ2 (seqR ψ3 (seqR ψ4 (seqR ψ5 (seqR ψ6 φ))))) E P)
  rw [← e]
  exact h
theorem reassoc6 {ψ1 ψ2 ψ3 ψ4 ψ5 ψ6 φ : RB} {δ : DS} {E : KE} {P : Fw → DS → Prop} (h : (seqR ψ1 (seqR ψ2 (seqR ψ3 (seqR ψ4 (seqR ψ5 (seqR ψ6 φ)))))) δ E P) : (seqR ψ1 (seqR ψ2 (seqR ψ3 (seqR ψ4 (seqR ψ5 ψ6))))) δ E (seqK φ E P) := by
  have e : seqK (seqR ψ2 (seqR ψ3 (seqR ψ4 (seqR ψ5 ψ6)))) E (seqK φ E P) = seqK (seqR ψ2 (seqR ψ3 (seqR ψ4 (seqR ψ5 (seqR ψ6 φ))))) E P := by
    funext fl δ
    cases fl <;> first | rfl | (exact propext ⟨fun h => unassoc5 h, fun h => reassoc5 h⟩)
  show ψ1 δ E (seqK (seqR ψ2 (seqR ψ3 (seqR ψ4 (seqR ψ5 ψ6)))) E (seqK φ E P))
  rw [e]
  exact h
theorem unassoc7 {ψ1 ψ2 ψ3 ψ4 ψ5 ψ6 ψ7 φ : RB} {δ : DS} {E : KE} {P : Fw → DS → Prop} (h : (seqR ψ1 (seqR ψ2 (seqR ψ3 (seqR ψ4 (seqR ψ5 (seqR ψ6 ψ7)))))) δ E (seqK φ E P)) : (seqR ψ1 (seqR ψ2 (seqR ψ3 (seqR ψ4 (seqR ψ5 (seqR ψ6 (seqR ψ7 φ))))))) δ E P := by
  have e : seqK (seqR ψ2 (seqR ψ3 (seqR ψ4 (seqR ψ5 (seqR ψ6 ψ7))))) E (seqK φ E P) = seqK (seqR ψ2 (seqR ψ3 (seqR ψ4 (seqR ψ5 (seqR ψ6 (seqR ψ7 φ)))))) E P := by
    funext fl δ
    cases fl <;> first | rfl | (exact propext ⟨fun h => unassoc6 h, fun h => reassoc6 h⟩)
  show ψ1 δ E (seqK (seqR ψ2 (seqR ψ3 (seqR ψ4 (seqR ψ5 (seqR ψ6 (seqR ψ7 φ)))))) E P)
  rw [← e]
  exact h
theorem reassoc7 {ψ1 ψ2 ψ3 ψ4 ψ5 ψ6 ψ7 φ : RB} {δ : DS} {E : KE} {P : Fw → DS → Prop} (h : (seqR ψ1 (seqR ψ2 (seqR ψ3 (seqR ψ4 (seqR ψ5 (seqR ψ6 (seqR ψ7 φ))))))) δ E P) : (seqR ψ1 (seqR ψ2 (seqR ψ3 (seqR ψ4 (seqR ψ5 (seqR ψ6 ψ7)))))) δ E (seqK φ E P) := by
  have e : seqK (seqR ψ2 (seqR ψ3 (seqR ψ4 (seqR ψ5 (seqR ψ6 ψ7))))) E (seqK φ E P) = seqK (seqR ψ2 (seqR ψ3 (seqR ψ4 (seqR ψ5 (seqR ψ6 (seqR ψ7 φ)))))) E P := by
    funext fl δ
    cases fl <;> first | rfl | (exact propext ⟨fun h => unassoc6 h, fun h => reassoc6 h⟩)
  show ψ1 δ E (seqK (seqR ψ2 (seqR ψ3 (seqR ψ4 (seqR ψ5 (seqR ψ6 ψ7))))) E (seqK φ E P))
  rw [e]
  exact h
theorem unassoc8 {ψ1 ψ2 ψ3 ψ4 ψ5 ψ6 ψ7 ψ8 φ : RB} {δ : DS} {E : KE} {P : Fw → DS → Prop} (h : (seqR ψ1 (seqR ψ2 (seqR ψ3 (seqR ψ4 (seqR ψ5 (seqR ψ6 (seqR ψ7 ψ8))))))) δ E (seqK φ E P)) : (seqR ψ1 (seqR ψ2 (seqR ψ3 (seqR ψ4 (seqR ψ5 (seqR ψ6 (seqR ψ7 (seqR ψ8 φ)))))))) δ E P := by
  have e : seqK (seqR ψ2 (seqR ψ3 (seqR ψ4 (seqR ψ5 (seqR ψ6 (seqR ψ7 ψ8)))))) E (seqK φ E P) = seqK (seqR ψ2 (seqR ψ3 (seqR ψ4 (seqR ψ5 (seqR ψ6 (seqR ψ7 (seqR ψ8 φ))))))) E P := by
    funext fl δ
    cases fl <;> first | rfl | (exact propext ⟨fun h => unassoc7 h, fun h => reassoc7 h⟩)
  show ψ1 δ E (seqK (seqR ψ2 (seqR ψ3 (seqR ψ4 (seqR ψ5 (seqR ψ6 (seqR ψ7 (seqR ψ8 φ))))))) E P)
  rw [← e]
  exact h
theorem reassoc8 {ψ1 ψ2 ψ3 ψ4 ψ5 ψ6 ψ7 ψ8 φ : RB} {δ : DS} {E : KE} {P : Fw → DS → Prop} (h : (seqR ψ1 (seqR ψ2 (seqR ψ3 (seqR ψ4 (seqR ψ5 (seqR ψ6 (seqR ψ7 (seqR ψ8 φ)))))))) δ E P) : (seqR ψ1 (seqR ψ2 (seqR ψ3 (seqR ψ4 (seqR ψ5 (seqR ψ6 (seqR ψ7 ψ8))))))) δ E (seqK φ E P) := by
  have e : seqK (seqR ψ2 (seqR ψ3 (seqR ψ4 (seqR ψ5 (seqR ψ6 (seqR ψ7 ψ8)))))) E (seqK φ E P) = seqK (seqR ψ2 (seqR ψ3 (seqR ψ4 (seqR ψ5 (seqR ψ6 (seqR ψ7 (seqR ψ8 φ))))))) E P := by
    funext fl δ
    cases fl <;> first | rfl | (exact propext ⟨fun h => unassoc7 h, fun h => reassoc7 h⟩)
  show ψ1 δ E (seqK (seqR ψ2 (seqR ψ3 (seqR ψ4 (seqR ψ5 (seqR ψ6 (seqR ψ7 ψ8)))))) E (seqK φ E P))
  rw [e]
  exact h
theorem unassoc9 {ψ1 ψ2 ψ3 ψ4 ψ5 ψ6 ψ7 ψ8 ψ9 φ : RB} {δ : DS} {E : KE} {P : Fw → DS → Prop} (h : (seqR ψ1 (seqR ψ2 (seqR ψ3 (seqR ψ4 (seqR ψ5 (seqR ψ6 (seqR ψ7 (seqR ψ8 ψ9)))))))) δ E (seqK φ E P)) : (seqR ψ1 (seqR ψ2 (seqR ψ3 (seqR ψ4 (seqR ψ5 (seqR ψ6 (seqR ψ7 (seqR ψ8 (seqR ψ9 φ))))))))) δ E P := by
  have e : seqK (seqR ψ2 (seqR ψ3 (seqR ψ4 (seqR ψ5 (seqR ψ6 (seqR ψ7 (seqR ψ8 ψ9))))))) E (seqK φ E P) = seqK (seqR ψ2 (seqR ψ3 (seqR ψ4 (seqR ψ5 (seqR ψ6 (seqR ψ7 (seqR ψ8 (seqR ψ9 φ)))))))) E P := by
    funext fl δ
    cases fl <;> first | rfl | (exact propext ⟨fun h => unassoc8 h, fun h => reassoc8 h⟩)
  show ψ1 δ E (seqK (seqR ψ2 (seqR ψ3 (seqR ψ4 (seqR ψ5 (seqR ψ6 (seqR ψ7 (seqR ψ8 (seqR ψ9 φ)))))))) E P)
  rw [← e]
  exact h
theorem reassoc9 {ψ1 ψ2 ψ3 ψ4 ψ5 ψ6 ψ7 ψ8 ψ9 φ : RB} {δ : DS} {E : KE} {P : Fw → DS → Prop} (h : (seqR ψ1 (seqR ψ2 (seqR ψ3 (seqR ψ4 (seqR ψ5 (seqR ψ6 (seqR ψ7 (seqR ψ8 (seqR ψ9 φ))))))))) δ E P) : (seqR ψ1 (seqR ψ2 (seqR ψ3 (seqR ψ4 (seqR ψ5 (seqR ψ6 (seqR ψ7 (seqR ψ8 ψ9)))))))) δ E (seqK φ E P) := by
  have e : seqK (seqR ψ2 (seqR ψ3 (seqR ψ4 (seqR ψ5 (seqR ψ6 (seqR ψ7 (seqR ψ8 ψ9))))))) E (seqK φ E P) = seqK (seqR ψ2 (seqR ψ3 (seqR ψ4 (seqR ψ5 (seqR ψ6 (seqR ψ7 (seqR ψ8 (seqR ψ9 φ)))))))) E P := by
    funext fl δ
    cases fl <;> first | rfl | (exact propext ⟨fun h => unassoc8 h, fun h => reassoc8 h⟩)
  show ψ1 δ E (seqK (seqR ψ2 (seqR ψ3 (seqR ψ4 (seqR ψ5 (seqR ψ6 (seqR ψ7 (seqR ψ8 ψ9))))))) E (seqK φ E P))
  rw [e]
  exact h
theorem cut1 {ψ1 φ : RB} {δ : DS} {E : KE} {P : Fw → DS → Prop} (C : DS → Prop) (h1 : ∀ P' : Fw → DS → Prop, (∀ δ1, C δ1 → P' .nx δ1) → ψ1 δ E P') (h2 : ∀ δ1, C δ1 → φ δ1 E P) : (seqR ψ1 φ) δ E P := by
  exact h1 (seqK φ E P) h2
theorem cut1r {ψ1 φ : RB} {δ : DS} {E : KE} {P : Fw → DS → Prop} (C : DS → Prop) (h1 : ∀ P' : Fw → DS → Prop, (∀ δ1, C δ1 → P' .nx δ1) → (∀ d δ1, P (.rt d) δ1 → P' (.rt d) δ1) → ψ1 δ E P') (h2 : ∀ δ1, C δ1 → φ δ1 E P) : (seqR ψ1 φ) δ E P := by
  exact h1 (seqK φ E P) h2 (fun _ _ h => h)
theorem cut2 {ψ1 ψ2 φ : RB} {δ : DS} {E : KE} {P : Fw → DS → Prop} (C : DS → Prop) (h1 : ∀ P' : Fw → DS → Prop, (∀ δ1, C δ1 → P' .nx δ1) → (seqR ψ1 ψ2) δ E P') (h2 : ∀ δ1, C δ1 → φ δ1 E P) : (seqR ψ1 (seqR ψ2 φ)) δ E P := by
  have h := h1 (seqK φ E P) h2
  exact unassoc2 h
theorem cut2r {ψ1 ψ2 φ : RB} {δ : DS} {E : KE} {P : Fw → DS → Prop} (C : DS → Prop) (h1 : ∀ P' : Fw → DS → Prop, (∀ δ1, C δ1 → P' .nx δ1) → (∀ d δ1, P (.rt d) δ1 → P' (.rt d) δ1) → (seqR ψ1 ψ2) δ E P') (h2 : ∀ δ1, C δ1 → φ δ1 E P) : (seqR ψ1 (seqR ψ2 φ)) δ E P := by
  have h := h1 (seqK φ E P) h2 (fun _ _ h => h)
  exact unassoc2 h
theorem cut3 {ψ1 ψ2 ψ3 φ : RB} {δ : DS} {E : KE} {P : Fw → DS → Prop} (C : DS → Prop) (h1 : ∀ P' : Fw → DS → Prop, (∀ δ1, C δ1 → P' .nx δ1) → (seqR ψ1 (seqR ψ2 ψ3)) δ E P') (h2 : ∀ δ1, C δ1 → φ δ1 E P) : (seqR ψ1 (seqR ψ2 (seqR ψ3 φ))) δ E P := by
  have h := h1 (seqK φ E P) h2
  exact unassoc3 h
theorem cut3r {ψ1 ψ2 ψ3 φ : RB} {δ : DS} {E : KE} {P : Fw → DS → Prop} (C : DS → Prop) (h1 : ∀ P' : Fw → DS → Prop, (∀ δ1, C δ1 → P' .nx δ1) → (∀ d δ1, P (.rt d) δ1 → P' (.rt d) δ1) → (seqR ψ1 (seqR ψ2 ψ3)) δ E P') (h2 : ∀ δ1, C δ1 → φ δ1 E P) : (seqR ψ1 (seqR ψ2 (seqR ψ3 φ))) δ E P := by
  have h := h1 (seqK φ E P) h2 (fun _ _ h => h)
  exact unassoc3 h
theorem cut4 {ψ1 ψ2 ψ3 ψ4 φ : RB} {δ : DS} {E : KE} {P : Fw → DS → Prop} (C : DS → Prop) (h1 : ∀ P' : Fw → DS → Prop, (∀ δ1, C δ1 → P' .nx δ1) → (seqR ψ1 (seqR ψ2 (seqR ψ3 ψ4))) δ E P') (h2 : ∀ δ1, C δ1 → φ δ1 E P) : (seqR ψ1 (seqR ψ2 (seqR ψ3 (seqR ψ4 φ)))) δ E P := by
  have h := h1 (seqK φ E P) h2
  exact unassoc4 h
theorem cut4r {ψ1 ψ2 ψ3 ψ4 φ : RB} {δ : DS} {E : KE} {P : Fw → DS → Prop} (C : DS → Prop) (h1 : ∀ P' : Fw → DS → Prop, (∀ δ1, C δ1 → P' .nx δ1) → (∀ d δ1, P (.rt d) δ1 → P' (.rt d) δ1) → (seqR ψ1 (seqR ψ2 (seqR ψ3 ψ4))) δ E P') (h2 : ∀ δ1, C δ1 → φ δ1 E P) : (seqR ψ1 (seqR ψ2 (seqR ψ3 (seqR ψ4 φ)))) δ E P := by
  have h := h1 (seqK φ E P) h2 (fun _ _ h => h)
  exact unassoc4 h
theorem cut5 {ψ1 ψ2 ψ3 ψ4 ψ5 φ : RB} {δ : DS} {E : KE} {P : Fw → DS → Prop} (C : DS → Prop) (h1 : ∀ P' : Fw → DS → Prop, (∀ δ1, C δ1 → P' .nx δ1) → (seqR ψ1 (seqR ψ2 (seqR ψ3 (seqR ψ4 ψ5)))) δ E P') (h2 : ∀ δ1, C δ1 → φ δ1 E P) : (seqR ψ1 (seqR ψ2 (seqR ψ3 (seqR ψ4 (seqR ψ5 φ))))) δ E P := by
  have h := h1 (seqK φ E P) h2
  exact unassoc5 h
theorem cut5r {ψ1 ψ2 ψ3 ψ4 ψ5 φ : RB} {δ : DS} {E : KE} {P : Fw → DS → Prop} (C : DS → Prop) (h1 : ∀ P' : Fw → DS → Prop, (∀ δ1, C δ1 → P' .nx δ1) → (∀ d δ1, P (.rt d) δ1 → P' (.rt d) δ1) → (seqR ψ1 (seqR ψ2 (seqR ψ3 (seqR ψ4 ψ5)))) δ E P') (h2 : ∀ δ1, C δ1 → φ δ1 E P) : (seqR ψ1 (seqR ψ2 (seqR ψ3 (seqR ψ4 (seqR ψ5 φ))))) δ E P := by
  have h := h1 (seqK φ E P) h2 (fun _ _ h => h)
  exact unassoc5 h
theorem cut6 {ψ1 ψ2 ψ3 ψ4 ψ5 ψ6 φ : RB} {δ : DS} {E : KE} {P : Fw → DS → Prop} (C : DS → Prop) (h1 : ∀ P' : Fw → DS → Prop, (∀ δ1, C δ1 → P' .nx δ1) → (seqR ψ1 (seqR ψ2 (seqR ψ3 (seqR ψ4 (seqR ψ5 ψ6))))) δ E P') (h2 : ∀ δ1, C δ1 → φ δ1 E P) : (seqR ψ1 (seqR ψ2 (seqR ψ3 (seqR ψ4 (seqR ψ5 (seqR ψ6 φ)))))) δ E P := by
  have h := h1 (seqK φ E P) h2
  exact unassoc6 h
theorem cut6r {ψ1 ψ2 ψ3 ψ4 ψ5 ψ6 φ : RB} {δ : DS} {E : KE} {P : Fw → DS → Prop} (C : DS → Prop) (h1 : ∀ P' : Fw → DS → Prop, (∀ δ1, C δ1 → P' .nx δ1) → (∀ d δ1, P (.rt d) δ1 → P' (.rt d) δ1) → (seqR ψ1 (seqR ψ2 (seqR ψ3 (seqR ψ4 (seqR ψ5 ψ6))))) δ E P') (h2 : ∀ δ1, C δ1 → φ δ1 E P) : (seqR ψ1 (seqR ψ2 (seqR ψ3 (seqR ψ4 (seqR ψ5 (seqR ψ6 φ)))))) δ E P := by
  have h := h1 (seqK φ E P) h2 (fun _ _ h => h)
  exact unassoc6 h
theorem cut7 {ψ1 ψ2 ψ3 ψ4 ψ5 ψ6 ψ7 φ : RB} {δ : DS} {E : KE} {P : Fw → DS → Prop} (C : DS → Prop) (h1 : ∀ P' : Fw → DS → Prop, (∀ δ1, C δ1 → P' .nx δ1) → (seqR ψ1 (seqR ψ2 (seqR ψ3 (seqR ψ4 (seqR ψ5 (seqR ψ6 ψ7)))))) δ E P') (h2 : ∀ δ1, C δ1 → φ δ1 E P) : (seqR ψ1 (seqR ψ2 (seqR ψ3 (seqR ψ4 (seqR ψ5 (seqR ψ6 (seqR ψ7 φ))))))) δ E P := by
  have h := h1 (seqK φ E P) h2
  exact unassoc7 h
theorem cut7r {ψ1 ψ2 ψ3 ψ4 ψ5 ψ6 ψ7 φ : RB} {δ : DS} {E : KE} {P : Fw → DS → Prop} (C : DS → Prop) (h1 : ∀ P' : Fw → DS → Prop, (∀ δ1, C δ1 → P' .nx δ1) → (∀ d δ1, P (.rt d) δ1 → P' (.rt d) δ1) → (seqR ψ1 (seqR ψ2 (seqR ψ3 (seqR ψ4 (seqR ψ5 (seqR ψ6 ψ7)))))) δ E P') (h2 : ∀ δ1, C δ1 → φ δ1 E P) : (seqR ψ1 (seqR ψ2 (seqR ψ3 (seqR ψ4 (seqR ψ5 (seqR ψ6 (seqR ψ7 φ))))))) δ E P := by
  have h := h1 (seqK φ E P) h2 (fun _ _ h => h)
  exact unassoc7 h
theorem cut8 {ψ1 ψ2 ψ3 ψ4 ψ5 ψ6 ψ7 ψ8 φ : RB} {δ : DS} {E : KE} {P : Fw → DS → Prop} (C : DS → Prop) (h1 : ∀ P' : Fw → DS → Prop, (∀ δ1, C δ1 → P' .nx δ1) → (seqR ψ1 (seqR ψ2 (seqR ψ3 (seqR ψ4 (seqR ψ5 (seqR ψ6 (seqR ψ7 ψ8))))))) δ E P') (h2 : ∀ δ1, C δ1 → φ δ1 E P) : (seqR ψ1 (seqR ψ2 (seqR ψ3 (seqR ψ4 (seqR ψ5 (seqR ψ6 (seqR ψ7 (seqR ψ8 φ)))))))) δ E P := by
  have h := h1 (seqK φ E P) h2
  exact unassoc8 h
theorem cut8r {ψ1 ψ2 ψ3 ψ4 ψ5 ψ6 ψ7 ψ8 φ : RB} {δ : DS} {E : KE} {P : Fw → DS → Prop} (C : DS → Prop) (h1 : ∀ P' : Fw → DS → Prop, (∀ δ1, C δ1 → P' .nx δ1) → (∀ d δ1, P (.rt d) δ1 → P' (.rt d) δ1) → (seqR ψ1 (seqR ψ2 (seqR ψ3 (seqR ψ4 (seqR ψ5 (seqR ψ6 (seqR ψ7 ψ8))))))) δ E P') (h2 : ∀ δ1, C δ1 → φ δ1 E P) : (seqR ψ1 (seqR ψ2 (seqR ψ3 (seqR ψ4 (seqR ψ5 (seqR ψ6 (seqR ψ7 (seqR ψ8 φ)))))))) δ E P := by
  have h := h1 (seqK φ E P) h2 (fun _ _ h => h)
  exact unassoc8 h
theorem cut9 {ψ1 ψ2 ψ3 ψ4 ψ5 ψ6 ψ7 ψ8 ψ9 φ : RB} {δ : DS} {E : KE} {P : Fw → DS → Prop} (C : DS → Prop) (h1 : ∀ P' : Fw → DS → Prop, (∀ δ1, C δ1 → P' .nx δ1) → (seqR ψ1 (seqR ψ2 (seqR ψ3 (seqR ψ4 (seqR ψ5 (seqR ψ6 (seqR ψ7 (seqR ψ8 ψ9)))))))) δ E P') (h2 : ∀ δ1, C δ1 → φ δ1 E P) : (seqR ψ1 (seqR ψ2 (seqR ψ3 (seqR ψ4 (seqR ψ5 (seqR ψ6 (seqR ψ7 (seqR ψ8 (seqR ψ9 φ))))))))) δ E P := by
  have h := h1 (seqK φ E P) h2
  exact unassoc9 h
theorem cut9r {ψ1 ψ2 ψ3 ψ4 ψ5 ψ6 ψ7 ψ8 ψ9 φ : RB} {δ : DS} {E : KE} {P : Fw → DS → Prop} (C : DS → Prop) (h1 : ∀ P' : Fw → DS → Prop, (∀ δ1, C δ1 → P' .nx δ1) → (∀ d δ1, P (.rt d) δ1 → P' (.rt d) δ1) → (seqR ψ1 (seqR ψ2 (seqR ψ3 (seqR ψ4 (seqR ψ5 (seqR ψ6 (seqR ψ7 (seqR ψ8 ψ9)))))))) δ E P') (h2 : ∀ δ1, C δ1 → φ δ1 E P) : (seqR ψ1 (seqR ψ2 (seqR ψ3 (seqR ψ4 (seqR ψ5 (seqR ψ6 (seqR ψ7 (seqR ψ8 (seqR ψ9 φ))))))))) δ E P := by
  have h := h1 (seqK φ E P) h2 (fun _ _ h => h)
  exact unassoc9 h
theorem cutKr {ψ1 ψ2 : RB} {δ : DS} {E : KE} {P : Fw → DS → Prop} (C : DS → Prop) (h1 : ∀ P' : Fw → DS → Prop, (∀ δ1, C δ1 → P' .nx δ1) → (∀ d δ1, P (.rt d) δ1 → P' (.rt d) δ1) → ψ1 δ E P') (h2 : ∀ δ1, C δ1 → ψ2 δ1 E P) : seqK (seqR ψ1 ψ2) E P .nx δ := h1 (seqK ψ2 E P) h2 fun _ _ h => h
theorem nextK {ψ : RB} {δ : DS} {E : KE} {P : Fw → DS → Prop} (h : ψ δ E P) : seqK ψ E P .nx δ := h
theorem atI_mod {ns : List Int} (h : 0 < ns.length) (m : Int) : ∃ z, z ∈ ns ∧ atI (ns.map PyData.int) (m % ((ns.map PyData.int).length : Int)) = some (.int z) := by
  have h1 := Int.emod_nonneg m (show ((ns.map PyData.int).length : Int) ≠ 0 by rw [List.length_map]; omega)
  have h2 := Int.emod_lt_of_pos m (show 0 < ((ns.map PyData.int).length : Int) by rw [List.length_map]; omega)
  obtain ⟨d, e, _, hm⟩ := atI_nn h1 h2
  obtain ⟨z, hz, rfl⟩ := List.mem_map.mp hm
  exact ⟨z, hz, e⟩
theorem pinK_of {i : Nat} {P : Fw → DS → Prop} {fl : Fw} {δ : DS} {o : MO} (e : δ.get i = some (.io o)) (h : P fl (List.set δ i (some (.ow o)))) : pinK i P fl δ := by
  unfold pinK
  rw [e]
  exact h
theorem ioG_of {vs : List Nat} {δ : DS} {A : Prop} (h : noIoB vs δ = true) (a : A) : ioG vs δ A := bif_true h a
theorem ixN_nat {n k : Nat} (h : k < n) : ixN n (k : Int) = some k := by
  unfold ixN
  have h1 : (0 : Int) ≤ (k : Int) := Int.natCast_nonneg k
  have h2 : (k : Int) < (n : Int) := by omega
  simp [h1, h2]
theorem at0 {α : Type} {x : α} {r : List α} : atI (x :: r) 0 = some x := atI_nat (j := 0) rfl
theorem at1 {α : Type} {x y : α} {r : List α} : atI (x :: y :: r) 1 = some y := atI_nat (j := 1) rfl
theorem at2 {α : Type} {x y z : α} {r : List α} : atI (x :: y :: z :: r) 2 = some z := atI_nat (j := 2) rfl
theorem ix0 {α : Type} {x : α} {r : List α} : ixN (x :: r).length 0 = some 0 := ixN_nat (k := 0) (by simp)
theorem ix1 {α : Type} {x y : α} {r : List α} : ixN (x :: y :: r).length 1 = some 1 := ixN_nat (k := 1) (by simp)
theorem nxR_of {δ : DS} {E : KE} {P : Fw → DS → Prop} (h : P .nx δ) : nxR δ E P := h
theorem lcK_nat {α : Type} {xs : List α} {g : α → D} {vs : List Nat} {γ : RG} {t : RT} {e : RE} {P : List D → DS → Prop} (I : Nat → List D → DS → Prop) (hend : ∀ acc δ, I xs.length acc δ → P acc δ)
    (step : ∀ k x acc δ, xs[k]? = some x → I k acc δ → ∀ F : List D → DS → Prop, (∀ acc2 δ2, I (k + 1) acc2 δ2 → F acc2 δ2) →
      γ (g x) δ fun δ1 => t δ1 E0K fun b δ2 => bifP b (e δ2 E0K fun y δ3 => ioG vs δ3 (F (acc ++ [y]) (wipeD δ3 vs))) (ioG vs δ2 (F acc (wipeD δ2 vs)))) (δ : DS) (h : I 0 [] δ) : lcK vs γ t e P (xs.map g) [] δ := by
  have key : ∀ (rest : List α) (k : Nat) (acc : List D) (δ : DS), rest = xs.drop k → I k acc δ → k + rest.length = xs.length → lcK vs γ t e P (rest.map g) acc δ := by
    intro rest
    induction rest with
    | nil =>
      intro k acc δ _ h hk
      have : k = xs.length := by simpa using hk
      subst this
      exact hend acc δ h
    | cons x r ih =>
      intro k acc δ e h hk
      have ex : xs[k]? = some x := by rw [← List.head?_drop, ← e]; rfl
      refine step k x acc δ ex h _ fun acc2 δ2 h2 => ih (k + 1) acc2 δ2 ?_ h2 ?_
      · rw [← List.drop_drop, ← e]; rfl
      · rw [List.length_cons] at hk; omega
  exact key xs 0 [] δ (by rw [List.drop_zero]) h (by omega)
theorem atI_neg1 {α : Type} {xs : List α} {v : α} (h : xs[xs.length - 1]? = some v) : atI xs (-1) = some v := by
  have hl : 0 < xs.length := by
    have := (List.getElem?_eq_some_iff.mp h).1
    omega
  have e : ixN xs.length (-1) = some (xs.length - 1) := by
    unfold ixN
    rw [if_neg (by omega), if_pos (by omega)]
    congr 1
    omega
  unfold atI
  rw [e]
  exact h
end DL

/-! Unfoldings, amounts, signs, in plain words. -/
namespace DL
open PySem PySem.Spec PyProof.Rows L2
variable [NX.TabsC]
/-! ### unfoldings -/
abbrev Nd := Option Nat × Int
def onD : Option Nat → D
  | none => .none
  | some k => .int (k : Int)
def ndD (n : Nd) : D := .tuple [onD n.1, .int n.2]
def par (t : List Nd) (k : Nat) : Option Nat := (t[k]?).bind (·.1)
def prc (t : List Nd) (k : Nat) : Int := ((t[k]?).map (·.2)).getD 0
def tmF (t : List Nd) : Nat → Nat → Nat
  | 0, _ => 0
  | f + 1, k => match par t k with
    | none => 0
    | some b => tmF t f b + 1
def tm (t : List Nd) (k : Nat) : Nat := tmF t k k
def nexts (t : List Nd) (k : Nat) : List Nat := (List.range t.length).filter fun j => decide (par t j = some k)
/-- parents stand ahead -/
def Ord (t : List Nd) : Prop := ∀ (k : Nat) (n : Nd), t[k]? = some n → (n.1 = none ↔ k = 0) ∧ ∀ b, n.1 = some b → b < k
theorem par_lt {t : List Nd} (h : Ord t) {k b : Nat} (e : par t k = some b) : b < k := by
  unfold par at e
  obtain ⟨n, e1, e2⟩ := Option.bind_eq_some_iff.mp e
  exact (h k n e1).2 b e2
theorem par_get {t : List Nd} {k : Nat} {n : Nd} (e : t[k]? = some n) : par t k = n.1 := by unfold par; rw [e]; rfl
theorem prc_get {t : List Nd} {k : Nat} {n : Nd} (e : t[k]? = some n) : prc t k = n.2 := by unfold prc; rw [e]; rfl
theorem tmF_fuel {t : List Nd} (h : Ord t) : ∀ (k f : Nat), k ≤ f → tmF t f k = tmF t k k := by
  intro k
  induction k using Nat.strongRecOn with
  | _ k ih =>
    intro f hf
    cases f with
    | zero =>
      have : k = 0 := by omega
      subst this
      rfl
    | succ f =>
      cases k with
      | zero =>
        unfold tmF
        cases e : par t 0 with
        | none => rfl
        | some b => have := par_lt h e; omega
      | succ k =>
        show (match par t (k + 1) with | none => 0 | some b => tmF t f b + 1) = (match par t (k + 1) with | none => 0 | some b => tmF t k b + 1)
        cases e : par t (k + 1) with
        | none => rfl
        | some b =>
          have hb := par_lt h e
          show tmF t f b + 1 = tmF t k b + 1
          rw [ih b (by omega) f (by omega), ih b (by omega) k (by omega)]
theorem tm_none {t : List Nd} {k : Nat} (e : par t k = none) : tm t k = 0 := by
  unfold tm
  cases k with
  | zero => rfl
  | succ k =>
    show (match par t (k + 1) with | none => 0 | some b => tmF t k b + 1) = 0
    rw [e]
theorem tm_some {t : List Nd} (h : Ord t) {k b : Nat} (e : par t k = some b) : tm t k = tm t b + 1 := by
  have hb := par_lt h e
  unfold tm
  cases k with
  | zero => omega
  | succ k =>
    show (match par t (k + 1) with | none => 0 | some b => tmF t k b + 1) = _
    rw [e]
    show tmF t k b + 1 = _
    rw [tmF_fuel h b k (by omega)]
structure Pre (m : Nat) (t : List Nd) : Prop where
  l1 : 1 ≤ t.length
  lm : t.length ≤ m
  ord : Ord t
  pr : ∀ (k : Nat) (n : Nd), t[k]? = some n → 0 ≤ n.2 ∧ n.2 ≤ 1000000000
  tm : ∀ k, k < t.length → tm t k ≤ 7
  nx : ∀ k, (nexts t k).length ≤ 4
def Fair (t : List Nd) : Prop := ∀ (k : Nat) (n : Nd), t[k]? = some n → nexts t k ≠ [] → (∃ j ∈ nexts t k, prc t j ≤ n.2) ∧ ∃ j ∈ nexts t k, n.2 ≤ prc t j
structure Unf (m : Nat) (t : List Nd) : Prop extends Pre m t where
  fair : Fair t
theorem mem_nexts {t : List Nd} {k j : Nat} : j ∈ nexts t k ↔ j < t.length ∧ par t j = some k := by
  unfold nexts
  rw [List.mem_filter, List.mem_range, decide_eq_true_eq]
theorem Pre.root {m : Nat} {t : List Nd} (h : Pre m t) : par t 0 = none := by
  obtain ⟨n, e⟩ : ∃ n, t[0]? = some n := ⟨_, List.getElem?_eq_getElem (by have := h.l1; omega)⟩
  rw [par_get e]
  exact (h.ord 0 n e).1.mpr rfl
theorem shaped_tr (t : List Nd) : SeqAt.shaped (.list (t.map ndD)) = true := by
  refine shaped_list (fun d hd => ?_) (fun d hd => ?_)
  · obtain ⟨⟨o, p⟩, _, rfl⟩ := List.mem_map.mp hd; cases o <;> rfl
  · obtain ⟨⟨o, p⟩, _, rfl⟩ := List.mem_map.mp hd; cases o <;> exact (by decide : 1 ≤ 63)
theorem nd_at {t : List Nd} {k : Nat} {n : Nd} (e : t[k]? = some n) : atI (t.map ndD) (k : Int) = some (ndD n) := atI_map e
/-! ### amounts -/
inductive Op where
  | plus | minus | times | most | least
deriving DecidableEq
def Op.str : Op → Str
  | .plus => Str.ofString "plus"
  | .minus => Str.ofString "minus"
  | .times => Str.ofString "times"
  | .most => Str.ofString "most"
  | .least => Str.ofString "least"
def Op.ap : Op → Int → Int → Int
  | .plus, i, j => i + j
  | .minus, i, j => i - j
  | .times, i, j => i * j
  | .most, i, j => max2 i j
  | .least, i, j => min2 i j
inductive Amt where
  | num (i : Int) | price | time | bin (o : Op) (a b : Amt)
deriving DecidableEq
def amtD : Amt → D
  | .num i => .tuple [.str (Str.ofString "number"), .int i]
  | .price => .tuple [.str (Str.ofString "price")]
  | .time => .tuple [.str (Str.ofString "time")]
  | .bin o a b => .tuple [.str o.str, amtD a, amtD b]
def Amt.parts : Amt → Nat
  | .num _ => 1
  | .price => 1
  | .time => 1
  | .bin _ a b => 1 + a.parts + b.parts
def Amt.ok : Amt → Prop
  | .num i => 0 ≤ i ∧ i ≤ 1000000000
  | .price => True
  | .time => True
  | .bin _ a b => a.ok ∧ b.ok
def Amt.val (p t : Int) : Amt → Int
  | .num i => i
  | .price => p
  | .time => t
  | .bin o a b => o.ap (a.val p t) (b.val p t)
theorem Amt.pos : ∀ a : Amt, 1 ≤ a.parts
  | .num _ => Nat.le_refl _
  | .price => Nat.le_refl _
  | .time => Nat.le_refl _
  | .bin _ a b => by unfold Amt.parts; omega
theorem Op.bt {k l : Nat} {i j : Int} (o : Op) (hi : Bt k i) (hj : Bt l j) : Bt (k + l + 1) (o.ap i j) := by
  have h1 : Bt (k + l) i := hi.mono (by omega)
  have h2 : Bt (k + l) j := hj.mono (by omega)
  cases o with
  | plus => exact h1.add h2
  | minus => exact h1.sub h2
  | times => exact Bt.mono (l := k + l + 1) (hi.mul hj) (by omega)
  | most =>
    show Bt (k + l + 1) (max2 i j)
    unfold max2
    split
    · exact Bt.mono (l := k + l + 1) h2 (by omega)
    · exact Bt.mono (l := k + l + 1) h1 (by omega)
  | least =>
    show Bt (k + l + 1) (min2 i j)
    unfold min2
    split
    · exact Bt.mono (l := k + l + 1) h2 (by omega)
    · exact Bt.mono (l := k + l + 1) h1 (by omega)
theorem Amt.bt {p t : Int} (hp : Bt 30 p) (ht : Bt 30 t) : ∀ {a : Amt}, a.ok → Bt (31 * a.parts) (a.val p t)
  | .num i, h => (show Bt 30 i from Bt.of_lt (by have := h.1; omega) (by have := h.2; omega)).mono (by show 30 ≤ 31 * 1; decide)
  | .price, _ => hp.mono (by show 30 ≤ 31 * 1; decide)
  | .time, _ => ht.mono (by show 30 ≤ 31 * 1; decide)
  | .bin o a b, h => by
    have h1 := Amt.bt hp ht (a := a) h.1
    have h2 := Amt.bt hp ht (a := b) h.2
    have e : (Amt.bin o a b).parts = 1 + a.parts + b.parts := rfl
    exact (o.bt h1 h2).mono (by rw [e]; omega)
/-- depth -/
def Amt.deep : Amt → Nat
  | .bin _ a b => 1 + max a.deep b.deep
  | _ => 0
theorem Amt.deep_lt : ∀ a : Amt, 2 * a.deep + 1 ≤ a.parts
  | .num _ => Nat.le_refl _
  | .price => Nat.le_refl _
  | .time => Nat.le_refl _
  | .bin o a b => by
    have h1 := Amt.deep_lt a
    have h2 := Amt.deep_lt b
    have h3 := Amt.pos a
    have h4 := Amt.pos b
    have e1 : (Amt.bin o a b).parts = 1 + a.parts + b.parts := rfl
    have e2 : (Amt.bin o a b).deep = 1 + max a.deep b.deep := rfl
    omega
inductive Sgn where
  | mk (upto : Bool) (a b : Amt)
deriving DecidableEq
def sgnD : Sgn → D
  | .mk u a b => .tuple [.str (if u then Str.ofString "upto" else Str.ofString "below"), amtD a, amtD b]
def Sgn.ok : Sgn → Prop
  | .mk _ a b => a.ok ∧ b.ok
def Sgn.deep : Sgn → Nat
  | .mk _ a b => max a.deep b.deep
def Sgn.parts : Sgn → Nat
  | .mk _ a b => 1 + a.parts + b.parts
def Sgn.holds (p t : Int) : Sgn → Bool
  | .mk u a b => if u then decide (a.val p t ≤ b.val p t) else decide (a.val p t < b.val p t)
end DL

/-! Unfoldings that grow; prices put on both sides. -/
namespace DL
open PySem PySem.Spec PyProof.Rows L2
variable [NX.TabsC]
theorem par_app {t : List Nd} {x : Nd} {j : Nat} (h : j < t.length) : par (t ++ [x]) j = par t j := by unfold par; rw [List.getElem?_append_left h]
theorem par_new {t : List Nd} {x : Nd} : par (t ++ [x]) t.length = x.1 := by unfold par; simp
theorem prc_app {t : List Nd} {x : Nd} {j : Nat} (h : j < t.length) : prc (t ++ [x]) j = prc t j := by unfold prc; rw [List.getElem?_append_left h]
theorem prc_new {t : List Nd} {x : Nd} : prc (t ++ [x]) t.length = x.2 := by unfold prc; simp
theorem get_app {t : List Nd} {x n : Nd} {k : Nat} (e : (t ++ [x])[k]? = some n) : (k < t.length ∧ t[k]? = some n) ∨ (k = t.length ∧ n = x) := by
  by_cases h : k < t.length
  · rw [List.getElem?_append_left h] at e
    exact .inl ⟨h, e⟩
  · rw [List.getElem?_append_right (by omega)] at e
    have hk : k - t.length = 0 := by
      cases q : k - t.length with
      | zero => rfl
      | succ m => rw [q] at e; cases e
    rw [hk] at e
    cases e
    exact .inr ⟨by omega, rfl⟩
theorem ord_app {t : List Nd} {b : Nat} {p : Int} (h : Ord t) (hb : b < t.length) : Ord (t ++ [(some b, p)]) := by
  intro k n e
  rcases get_app e with ⟨_, e⟩ | ⟨rfl, rfl⟩
  · exact h k n e
  · refine ⟨⟨fun z => (by cases z), fun z => by omega⟩, fun c hc => ?_⟩
    cases hc
    exact hb
theorem tm_congr {t u : List Nd} (ht : Ord t) (hu : Ord u) : ∀ k, (∀ j, j ≤ k → par t j = par u j) → tm t k = tm u k := by
  intro k
  induction k using Nat.strongRecOn with
  | _ k ih =>
    intro h
    cases e : par t k with
    | none => rw [tm_none e, tm_none (by rw [← h k (Nat.le_refl _)]; exact e)]
    | some b =>
      have hb := par_lt ht e
      rw [tm_some ht e, tm_some hu (by rw [← h k (Nat.le_refl _)]; exact e), ih b hb fun j hj => h j (by omega)]
theorem tm_app {t : List Nd} {b : Nat} {p : Int} (h : Ord t) (hb : b < t.length) {j : Nat} (hj : j < t.length) : tm (t ++ [(some b, p)]) j = tm t j :=
  tm_congr (ord_app h hb) h j fun i hi => par_app (by omega)
theorem tm_new {t : List Nd} {b : Nat} {p : Int} (h : Ord t) (hb : b < t.length) : tm (t ++ [(some b, p)]) t.length = tm t b + 1 := by
  rw [tm_some (ord_app h hb) par_new, tm_app h hb hb]
theorem nexts_app {t : List Nd} {b : Nat} {p : Int} (j : Nat) : nexts (t ++ [(some b, p)]) j = nexts t j ++ (if b = j then [t.length] else []) := by
  unfold nexts
  rw [List.length_append, List.length_singleton, List.range_succ, List.filter_append]
  congr 1
  · refine List.filter_congr fun i hi => ?_
    rw [par_app (List.mem_range.mp hi)]
  · rw [List.filter_cons, par_new]
    by_cases c : b = j
    · subst c; simp
    · rw [if_neg c]
      simp [c]
theorem nexts_big {t : List Nd} (h : Ord t) {j : Nat} (hj : t.length ≤ j) : nexts t j = [] := by
  unfold nexts
  rw [List.filter_eq_nil_iff]
  intro i hi z
  have hi := List.mem_range.mp hi
  have := par_lt h (of_decide_eq_true z)
  omega
theorem Pre.app {m : Nat} {t : List Nd} {b : Nat} {p : Int} (h : Pre m t) (hl : t.length < m) (hb : b < t.length) (hc : (nexts t b).length < 4) (ht : DL.tm t b < 7) (hp : 0 ≤ p ∧ p ≤ 1000000000) : Pre m (t ++ [(some b, p)]) where
  l1 := by rw [List.length_append]; have := h.l1; omega
  lm := by rw [List.length_append, List.length_singleton]; omega
  ord := ord_app h.ord hb
  pr := fun k n e => by
    rcases get_app e with ⟨_, e⟩ | ⟨rfl, rfl⟩
    · exact h.pr k n e
    · exact hp
  tm := fun k hk => by
    rw [List.length_append, List.length_singleton] at hk
    by_cases c : k < t.length
    · rw [tm_app h.ord hb c]; exact h.tm k c
    · have : k = t.length := by omega
      subst this
      rw [tm_new h.ord hb]
      omega
  nx := fun k => by
    rw [nexts_app, List.length_append]
    have := h.nx k
    split
    · rename_i e; subst e; show _ + 1 ≤ 4; omega
    · show _ + 0 ≤ 4; omega
theorem pre_one {m : Nat} {p : Int} (hm : 1 ≤ m) (hp : 0 ≤ p ∧ p ≤ 1000000000) : Pre m [(none, p)] where
  l1 := Nat.le_refl _
  lm := hm
  ord := fun k n e => by
    cases k with
    | zero => cases e; exact ⟨⟨fun _ => rfl, fun _ => rfl⟩, fun b hb => by cases hb⟩
    | succ k => cases e
  pr := fun k n e => by
    cases k with
    | zero => cases e; exact hp
    | succ k => cases e
  tm := fun k hk => by
    have : k = 0 := by simp at hk; exact hk
    subst this
    exact Nat.zero_le _
  nx := fun k => by
    have := List.length_filter_le (fun j => decide (par [(none, p)] j = some k)) (List.range 1)
    unfold nexts
    show (List.filter _ (List.range 1)).length ≤ 4
    rw [List.length_range] at this
    omega
/-! ### room for one more -/
theorem nodup_le : ∀ (k : Nat) (l : List Nat), l.Nodup → (∀ x ∈ l, x < k) → l.length ≤ k
  | 0, l, _, h => by
    cases l with
    | nil => exact Nat.le_refl _
    | cons x r => exact absurd (h x List.mem_cons_self) (Nat.not_lt_zero _)
  | k + 1, l, nd, h => by
    by_cases c : k ∈ l
    · have h1 := nodup_le k (l.erase k) (nd.erase k) fun x hx => by
        have h2 := h x (List.mem_of_mem_erase hx)
        have h3 : x ≠ k := fun z => by
          rw [z] at hx
          exact (List.Nodup.not_mem_erase nd) hx
        omega
      rw [List.length_erase_of_mem c] at h1
      omega
    · have h1 := nodup_le k l nd fun x hx => by
        have h2 := h x hx
        have h3 : x ≠ k := fun z => c (z ▸ hx)
        omega
      omega
theorem nodup_get : ∀ {l : List Nat}, l.Nodup → ∀ {i j x : Nat}, l[i]? = some x → l[j]? = some x → i = j
  | [], _, _, _, _, h, _ => by cases h
  | a :: r, nd, i, j, x, h1, h2 => by
    rw [List.nodup_cons] at nd
    cases i with
    | zero =>
      cases j with
      | zero => rfl
      | succ j =>
        cases h1
        exact absurd (List.mem_of_getElem? (by simpa using h2)) nd.1
    | succ i =>
      cases j with
      | zero =>
        cases h2
        exact absurd (List.mem_of_getElem? (by simpa using h1)) nd.1
      | succ j => rw [nodup_get nd.2 (i := i) (j := j) (by simpa using h1) (by simpa using h2)]
theorem nexts_nodup (t : List Nd) (k : Nat) : (nexts t k).Nodup := List.Nodup.sublist List.filter_sublist List.nodup_range
theorem flat_nodup {t : List Nd} {l : List Nat} (h : l.Nodup) : (l.flatMap (nexts t)).Nodup := by
  unfold List.Nodup at *
  rw [List.pairwise_flatMap]
  refine ⟨fun a _ => nexts_nodup t a, h.imp fun {a b} hab x hx y hy e => ?_⟩
  subst e
  have h1 := (mem_nexts.mp hx).2
  have h2 := (mem_nexts.mp hy).2
  rw [h1] at h2
  exact hab (by injection h2)
theorem flat_len {t : List Nd} : ∀ {l : List Nat}, (∀ x ∈ l, (nexts t x).length = 4) → (l.flatMap (nexts t)).length = 4 * l.length
  | [], _ => rfl
  | x :: r, h => by
    rw [List.flatMap_cons, List.length_append, h x List.mem_cons_self, flat_len fun y hy => h y (List.mem_cons_of_mem _ hy), List.length_cons]
    omega
theorem room {m : Nat} {t : List Nd} (h : Pre m t) (hl : t.length < 64) : ∃ j, j < t.length ∧ (nexts t j).length ≠ 4 ∧ tm t j ≠ 7 := by
  apply Classical.byContradiction
  intro no
  have full : ∀ j, j < t.length → tm t j ≠ 7 → (nexts t j).length = 4 := fun j hj h7 => by
    apply Classical.byContradiction
    intro z
    exact no ⟨j, hj, z, h7⟩
  have up : ∀ (l : List Nat) (d : Nat), d < 6 → (∀ x ∈ l, x < t.length ∧ tm t x = d) → ∀ x ∈ l.flatMap (nexts t), x < t.length ∧ tm t x = d + 1 := fun l d hd hx x hm => by
    obtain ⟨a, ha, hxa⟩ := List.mem_flatMap.mp hm
    obtain ⟨h1, h2⟩ := mem_nexts.mp hxa
    exact ⟨h1, by rw [tm_some h.ord h2, (hx a ha).2]⟩
  have h0 : ∀ x ∈ [0], x < t.length ∧ tm t x = 0 := fun x hx => by
    rw [List.mem_singleton.mp hx]
    exact ⟨by have := h.l1; omega, rfl⟩
  have h1 := up [0] 0 (by omega) h0
  have h2 := up _ 1 (by omega) h1
  have h3 := up _ 2 (by omega) h2
  have n1 : ([0].flatMap (nexts t)).length = 4 * 1 := flat_len fun x hx => full x (h0 x hx).1 (by rw [(h0 x hx).2]; decide)
  have n2 := flat_len (t := t) (l := [0].flatMap (nexts t)) fun x hx => full x (h1 x hx).1 (by rw [(h1 x hx).2]; decide)
  have n3 := flat_len (t := t) (l := ([0].flatMap (nexts t)).flatMap (nexts t)) fun x hx => full x (h2 x hx).1 (by rw [(h2 x hx).2]; decide)
  have nd : ((([0].flatMap (nexts t)).flatMap (nexts t)).flatMap (nexts t)).Nodup := flat_nodup (flat_nodup (flat_nodup (by simp)))
  have := nodup_le t.length _ nd fun x hx => (h3 x hx).1
  omega
/-! ### prices on both sides -/
/-- the same nodes, prices put otherwise up to a place -/
structure Fr (t u : List Nd) : Prop where
  par : ∀ j, j < u.length → par u j = par t j
  pr : ∀ (k : Nat) (n : Nd), u[k]? = some n → 0 ≤ n.2 ∧ n.2 ≤ 1000000000
  lt : u.length ≤ t.length
  one : ∀ j b, j < u.length → DL.par t j = some b → (nexts t b).length = 1 → prc u j = prc u b
  lo : ∀ j b, j < u.length → DL.par t j = some b → (nexts t b).length ≠ 1 → (nexts t b)[0]? = some j → prc u j ≤ prc u b
  hi : ∀ j b, j < u.length → DL.par t j = some b → (nexts t b).length ≠ 1 → (nexts t b)[0]? ≠ some j → (nexts t b)[(nexts t b).length - 1]? = some j → prc u b ≤ prc u j
theorem Fr.unf {m : Nat} {t u : List Nd} (h : Pre m t) (f : Fr t u) (hl : u.length = t.length) : Unf m u := by
  have hp : ∀ j, DL.par u j = DL.par t j := fun j => by
    by_cases c : j < u.length
    · exact f.par j c
    · unfold DL.par
      rw [List.getElem?_eq_none (by omega), List.getElem?_eq_none (by omega)]
  have ho : Ord u := fun k n e => by
    have hk := get_lt e
    obtain ⟨n2, e2⟩ : ∃ n2, t[k]? = some n2 := ⟨_, List.getElem?_eq_getElem (by omega)⟩
    have h1 : n.1 = n2.1 := by rw [← par_get e, ← par_get e2]; exact hp k
    rw [h1]
    exact h.ord k n2 e2
  have hn : ∀ k, nexts u k = nexts t k := fun k => by
    unfold nexts
    rw [hl]
    refine List.filter_congr fun j _ => ?_
    rw [hp j]
  refine ⟨⟨by rw [hl]; exact h.l1, by rw [hl]; exact h.lm, ho, f.pr, fun k hk => ?_, fun k => by rw [hn]; exact h.nx k⟩, fun k n e ne => ?_⟩
  · rw [tm_congr ho h.ord k fun j _ => hp j]
    exact h.tm k (by omega)
  · rw [hn] at ne ⊢
    have hk := prc_get e
    have len : 0 < (nexts t k).length := List.length_pos_iff.mpr ne
    obtain ⟨a, ea⟩ : ∃ a, (nexts t k)[0]? = some a := ⟨_, List.getElem?_eq_getElem len⟩
    obtain ⟨z, ez⟩ : ∃ z, (nexts t k)[(nexts t k).length - 1]? = some z := ⟨_, List.getElem?_eq_getElem (by omega)⟩
    have ma := List.mem_of_getElem? ea
    have mz := List.mem_of_getElem? ez
    obtain ⟨la, pa⟩ := mem_nexts.mp ma
    obtain ⟨lz, pz⟩ := mem_nexts.mp mz
    by_cases c : (nexts t k).length = 1
    · have := f.one a k (by omega) pa c
      rw [hk] at this
      exact ⟨⟨a, ma, by omega⟩, ⟨a, ma, by omega⟩⟩
    · have h1 := f.lo a k (by omega) pa c ea
      have haz : (nexts t k)[0]? ≠ some z := fun w => by
        have := nodup_get (nexts_nodup t k) w ez
        omega
      have h2 := f.hi z k (by omega) pz c haz ez
      rw [hk] at h1 h2
      exact ⟨⟨a, ma, h1⟩, ⟨z, mz, h2⟩⟩
theorem Fr.app {t u : List Nd} {b : Nat} {p : Int} (f : Fr t u) (hl : u.length < t.length) (ho : Ord t) (hp : DL.par t u.length = some b) (h0 : 0 ≤ p ∧ p ≤ 1000000000) (h1 : (nexts t b).length = 1 → p = prc u b)
    (h2 : (nexts t b).length ≠ 1 → (nexts t b)[0]? = some u.length → p ≤ prc u b) (h3 : (nexts t b).length ≠ 1 → (nexts t b)[0]? ≠ some u.length → (nexts t b)[(nexts t b).length - 1]? = some u.length → prc u b ≤ p) : Fr t (u ++ [(some b, p)]) := by
  have hb := par_lt ho hp
  have hj : ∀ j, j < (u ++ [((some b, p) : Nd)]).length → j < u.length ∨ j = u.length := fun j h => by rw [List.length_append, List.length_singleton] at h; omega
  have pb : ∀ j c, j < u.length ∨ j = u.length → DL.par t j = some c → c < u.length := fun j c h e => by
    have := par_lt ho e
    rcases h with h | h <;> omega
  refine ⟨fun j h => ?_, fun k n e => ?_, by rw [List.length_append, List.length_singleton]; omega, fun j c h e l => ?_, fun j c h e l z => ?_, fun j c h e l z z2 => ?_⟩
  · rcases hj j h with h | rfl
    · rw [par_app h]; exact f.par j h
    · rw [par_new, hp]
  · rcases get_app e with ⟨_, e⟩ | ⟨rfl, rfl⟩
    · exact f.pr k n e
    · exact h0
  · rw [prc_app (pb j c (hj j h) e)]
    rcases hj j h with h | rfl
    · rw [prc_app h]; exact f.one j c h e l
    · rw [hp] at e; cases e
      rw [prc_new]; exact h1 l
  · rw [prc_app (pb j c (hj j h) e)]
    rcases hj j h with h | rfl
    · rw [prc_app h]; exact f.lo j c h e l z
    · rw [hp] at e; cases e
      rw [prc_new]; exact h2 l z
  · rw [prc_app (pb j c (hj j h) e)]
    rcases hj j h with h | rfl
    · rw [prc_app h]; exact f.hi j c h e l z z2
    · rw [hp] at e; cases e
      rw [prc_new]; exact h3 l z z2
theorem Fr.one_node {t : List Nd} {n : Nd} (ho : Ord t) (e : t[0]? = some n) (h : 0 ≤ n.2 ∧ n.2 ≤ 1000000000) : Fr t [n] := by
  have z : ∀ {j : Nat}, j < [n].length → j = 0 := fun {j} h => by simp at h; exact h
  have no : ∀ j b, j < [n].length → DL.par t j = some b → False := fun j b h e => by
    have := par_lt ho e
    have := z h
    omega
  refine ⟨fun j h => ?_, fun k m e2 => ?_, by have := get_lt e; show 1 ≤ _; omega, fun j b h e => (no j b h e).elim, fun j b h e => (no j b h e).elim, fun j b h e => (no j b h e).elim⟩
  · rw [z h, par_get e]; rfl
  · cases k with
    | zero => cases e2; exact h
    | succ k => cases e2
theorem eqv_on {o : Option Nat} {b : Nat} : PyData.eqv (onD o) (.int (b : Int)) = decide (o = some b) := by
  cases o with
  | none => simp only [onD, PyData.eqv]; simp
  | some k =>
    show PyData.eqv (.int (k : Int)) (.int (b : Int)) = _
    rw [eqv_int]
    exact decide_eq (by constructor; intro h; congr 1; omega; intro h; injection h with h; omega)
theorem late_app {t : List Nd} {b : Nat} {p : Int} (h : Ord t) (hb : b < t.length) : (List.range (t ++ [((some b, p) : Nd)]).length).map (fun j : Nat => PyData.int (tm (t ++ [((some b, p) : Nd)]) j : Nat)) = (List.range t.length).map (fun j : Nat => PyData.int (tm t j : Nat)) ++ [PyData.int ((tm t b : Int) + 1)] := by
  rw [List.length_append, List.length_singleton, List.range_succ, List.map_append]
  congr 1
  · refine List.map_congr_left fun j hj => ?_
    rw [tm_app h hb (List.mem_range.mp hj)]
  · rw [List.map_cons, tm_new h hb]
    rfl
theorem counts_app {t : List Nd} {b : Nat} {p : Int} (h : Ord t) (hb : b < t.length) : (List.range (t ++ [((some b, p) : Nd)]).length).map (fun j : Nat => PyData.int ((nexts (t ++ [((some b, p) : Nd)]) j).length : Nat)) = ((List.range t.length).map (fun j : Nat => PyData.int ((nexts t j).length : Nat)) ++ [PyData.int 0]).set b (PyData.int (((nexts t b).length : Int) + 1)) := by
  apply List.ext_getElem?
  intro j
  rw [List.length_append, List.length_singleton, List.getElem?_map, List.getElem?_set]
  by_cases hj : j < t.length
  · rw [List.getElem?_range (by omega)]
    show some (PyData.int ((nexts (t ++ [((some b, p) : Nd)]) j).length : Nat)) = _
    rw [nexts_app, List.length_append]
    by_cases c : b = j
    · subst c
      rw [if_pos rfl, if_pos rfl, if_pos (by rw [List.length_append, List.length_map, List.length_range]; show b < _ + 1; omega)]
      rfl
    · rw [if_neg c, if_neg c, List.getElem?_append_left (by rw [List.length_map, List.length_range]; exact hj), List.getElem?_map, List.getElem?_range hj]
      rfl
  · rw [if_neg (by omega)]
    by_cases c : j = t.length
    · subst c
      rw [List.getElem?_range (by omega), List.getElem?_append_right (by rw [List.length_map, List.length_range]; exact Nat.le_refl _), List.length_map, List.length_range, Nat.sub_self]
      show some (PyData.int ((nexts (t ++ [((some b, p) : Nd)]) t.length).length : Nat)) = some (PyData.int 0)
      rw [nexts_app, if_neg (by omega), nexts_big h (Nat.le_refl _)]
      rfl
    · rw [List.getElem?_eq_none (by rw [List.length_range]; omega), List.getElem?_eq_none (by rw [List.length_append, List.length_map, List.length_range]; show t.length + 1 ≤ j; omega)]
      rfl
end DL

/-! Amounts reckoned on a pile. -/
namespace DL
open PySem PySem.Spec PyProof.Rows L2
variable [NX.TabsC]
theorem isi_amt (a : Amt) : isiD "tuple" (amtD a) = true := by cases a <;> rfl
def kids : Amt → List Amt
  | .bin _ l r => [l, r]
  | _ => []
/-- as they leave the pile -/
def ordA : Amt → List Amt
  | .num i => [.num i]
  | .price => [.price]
  | .time => [.time]
  | .bin o l r => .bin o l r :: (ordA r ++ ordA l)
theorem ordA_kids (a : Amt) : ordA a = a :: (kids a).reverse.flatMap ordA := by
  cases a <;> first | rfl | (simp [ordA, kids])
theorem ordA_mem : ∀ {a x : Amt}, x ∈ ordA a → a.ok → x.ok ∧ x.parts ≤ a.parts
  | .num i, x, h, ha => by rw [List.mem_singleton.mp h]; exact ⟨ha, Nat.le_refl _⟩
  | .price, x, h, ha => by rw [List.mem_singleton.mp h]; exact ⟨ha, Nat.le_refl _⟩
  | .time, x, h, ha => by rw [List.mem_singleton.mp h]; exact ⟨ha, Nat.le_refl _⟩
  | .bin o l r, x, h, ha => by
    have e : (Amt.bin o l r).parts = 1 + l.parts + r.parts := rfl
    rcases List.mem_cons.mp h with rfl | h
    · exact ⟨ha, Nat.le_refl _⟩
    · rcases List.mem_append.mp h with h | h
      · obtain ⟨h1, h2⟩ := ordA_mem h ha.2
        exact ⟨h1, by omega⟩
      · obtain ⟨h1, h2⟩ := ordA_mem h ha.1
        exact ⟨h1, by omega⟩
theorem ordA_len : ∀ a : Amt, (ordA a).length = a.parts
  | .num i => rfl
  | .price => rfl
  | .time => rfl
  | .bin o l r => by
    show (ordA r ++ ordA l).length + 1 = 1 + l.parts + r.parts
    rw [List.length_append, ordA_len l, ordA_len r]
    omega
def stpA (p t : Int) (π : List Int) : Amt → List Int
  | .bin o l r => π.dropLast.dropLast ++ [o.ap (l.val p t) (r.val p t)]
  | a => π ++ [a.val p t]
theorem dl2 {π : List Int} {x y : Int} : (π ++ [x, y]).dropLast = π ++ [x] ∧ (π ++ [x]).dropLast = π := by
  constructor
  · rw [show π ++ [x, y] = (π ++ [x]) ++ [y] by simp, List.dropLast_concat]
  · rw [List.dropLast_concat]
theorem rev_bin (o : Op) (l r : Amt) : (ordA (.bin o l r)).reverse = (ordA l).reverse ++ ((ordA r).reverse ++ [.bin o l r]) := by
  show ((.bin o l r) :: (ordA r ++ ordA l)).reverse = _
  rw [List.reverse_cons, List.reverse_append, List.append_assoc]
theorem foldA (p t : Int) : ∀ (a : Amt) (π : List Int), (ordA a).reverse.foldl (stpA p t) π = π ++ [a.val p t]
  | .num i, π => rfl
  | .price, π => rfl
  | .time, π => rfl
  | .bin o l r, π => by
    rw [rev_bin, List.foldl_append, List.foldl_append, foldA p t l, foldA p t r]
    show stpA p t (π ++ [l.val p t] ++ [r.val p t]) (.bin o l r) = _
    have e : π ++ [l.val p t] ++ [r.val p t] = π ++ [l.val p t, r.val p t] := by simp
    rw [e]
    show (π ++ [l.val p t, r.val p t]).dropLast.dropLast ++ _ = _
    rw [dl2.1, (dl2 (y := 0)).2]
    rfl
/-- at a pair the pile ends in its two -/
theorem pileA (p t : Int) : ∀ (a : Amt) (π : List Int) (k : Nat) (o : Op) (l r : Amt), (ordA a).reverse[k]? = some (.bin o l r) → ∃ ρ, ((ordA a).reverse.take k).foldl (stpA p t) π = ρ ++ [l.val p t, r.val p t]
  | .num i, π, k, o, l, r, h => by
    cases k with
    | zero => cases h
    | succ k => cases h
  | .price, π, k, o, l, r, h => by
    cases k with
    | zero => cases h
    | succ k => cases h
  | .time, π, k, o, l, r, h => by
    cases k with
    | zero => cases h
    | succ k => cases h
  | .bin o2 l2 r2, π, k, o, l, r, h => by
    rw [rev_bin] at h ⊢
    by_cases c1 : k < (ordA l2).reverse.length
    · rw [List.getElem?_append_left c1] at h
      rw [List.take_append_of_le_length (by omega)]
      exact pileA p t l2 π k o l r h
    · rw [List.getElem?_append_right (by omega)] at h
      rw [List.take_append, List.take_of_length_le (by omega), List.foldl_append, foldA p t l2]
      by_cases c2 : k - (ordA l2).reverse.length < (ordA r2).reverse.length
      · rw [List.getElem?_append_left c2] at h
        rw [List.take_append_of_le_length (by omega)]
        exact pileA p t r2 _ _ o l r h
      · rw [List.getElem?_append_right (by omega)] at h
        have e : k - (ordA l2).reverse.length - (ordA r2).reverse.length = 0 := by
          cases q : k - (ordA l2).reverse.length - (ordA r2).reverse.length with
          | zero => rfl
          | succ m => rw [q] at h; cases h
        rw [e] at h
        cases h
        rw [List.take_append, List.take_of_length_le (by omega), List.foldl_append, foldA p t _, e]
        exact ⟨π, by simp⟩
theorem sorted2 {a b : Int} {l : List Int} (hp : l.Perm [a, b]) (hs : l.Pairwise (· ≤ ·)) : l = [min2 a b, max2 a b] := by
  have hl := hp.length_eq
  match l, hl with
  | [x, y], _ =>
    have h1 : x ≤ y := by
      have := List.pairwise_cons.mp hs
      exact this.1 y (by simp)
    have h2 : x = a ∨ x = b := by simpa using hp.mem_iff (a := x)
    have key : (x = a ∧ y = b) ∨ (x = b ∧ y = a) := by
      rcases h2 with rfl | rfl
      · have := List.Perm.length_eq (List.Perm.cons_inv hp)
        have h3 := (List.Perm.cons_inv hp).mem_iff (a := y)
        simp at h3
        exact .inl ⟨rfl, h3⟩
      · have h4 := List.Perm.cons_inv (hp.trans (List.Perm.swap x a []))
        have h3 := h4.mem_iff (a := y)
        simp at h3
        exact .inr ⟨rfl, h3⟩
    unfold min2 max2
    rcases key with ⟨rfl, rfl⟩ | ⟨rfl, rfl⟩
    · congr 1
      · split <;> omega
      · congr 1
        split <;> omega
    · congr 1
      · split <;> omega
      · congr 1
        split <;> omega
theorem amt_tup (a : Amt) : ∃ ds, amtD a = .tuple ds := by cases a <;> exact ⟨_, rfl⟩
theorem put_last {ds : List D} {d : D} : (ds ++ [d])[(ds ++ [d]).length - 1]? = some d := by simp
theorem amt_lay : ∀ a : Amt, PyData.canLay0 (amtD a) = true ∧ PyData.depth (amtD a) ≤ a.parts
  | .num i => ⟨by show PyData.canLay0 (.tuple [.str (Str.ofString "number"), .int i]) = true; simp only [PyData.canLay0, PyData.canLayAll0]; decide +kernel, Nat.le_refl _⟩
  | .price => ⟨by decide +kernel, Nat.le_refl _⟩
  | .time => ⟨by decide +kernel, Nat.le_refl _⟩
  | .bin o l r => by
    obtain ⟨h1, h2⟩ := amt_lay l
    obtain ⟨h3, h4⟩ := amt_lay r
    have e : (Amt.bin o l r).parts = 1 + l.parts + r.parts := rfl
    have hs : PyData.canLay0 (.str o.str) = true := by cases o <;> decide +kernel
    refine ⟨?_, ?_⟩
    · show PyData.canLay0 (.tuple [.str o.str, amtD l, amtD r]) = true
      have hs2 : PyData.strOk o.str = true := by simpa [PyData.canLay0] using hs
      simp only [PyData.canLay0, PyData.canLayAll0, h1, h3, hs2, Bool.and_self]
    · show PyData.depth (.tuple [.str o.str, amtD l, amtD r]) ≤ _
      simp only [PyData.depth, PyData.depthAll]
      omega
theorem shaped_amts {l : List Amt} (h : ∀ a ∈ l, a.parts ≤ 60) : SeqAt.shaped (.list (l.map amtD)) = true := by
  refine shaped_list (fun d hd => ?_) (fun d hd => ?_)
  · obtain ⟨a, _, rfl⟩ := List.mem_map.mp hd; exact (amt_lay a).1
  · obtain ⟨a, ha, rfl⟩ := List.mem_map.mp hd; exact Nat.le_trans (amt_lay a).2 (Nat.le_trans (h a ha) (by decide))
theorem eqv_ne_nil {ds : List D} (h : ds ≠ []) : PyData.eqv (.list ds) (.list []) = false := by
  cases ds with
  | nil => exact absurd rfl h
  | cons d r => simp only [PyData.eqv, PyData.eqvAll]
theorem eqv_nil : PyData.eqv (.list []) (.list []) = true := by simp only [PyData.eqv, PyData.eqvAll]
theorem kids_sum (x : Amt) : ((kids x).map Amt.parts).sum + 1 = x.parts := by
  cases x with
  | bin o l r =>
    show (l.parts + (r.parts + 0)) + 1 = 1 + l.parts + r.parts
    omega
  | _ => rfl
theorem sum_mem {l : List Nat} {x : Nat} (h : x ∈ l) : x ≤ l.sum := by
  induction l with
  | nil => cases h
  | cons y r ih =>
    rw [List.sum_cons]
    rcases List.mem_cons.mp h with rfl | h
    · omega
    · have := ih h; omega
theorem eqv_bl (a b : Bool) : PyData.eqv (.bool a) (.bool b) = (a == b) := by simp only [PyData.eqv]
end DL

/-! Deals and their moments, in plain words. -/
namespace DL
open PySem PySem.Spec PyProof.Rows L2
variable [NX.TabsC]
inductive Deal where
  | none | coin (a : Amt) | give (d : Deal) | both (d e : Deal) | either (d e : Deal) | later (n : Nat) (d : Deal) | once (s : Sgn) (d : Deal) | untl (s : Sgn) (d : Deal) | any (d : Deal) | byq (q : Rat) (d : Deal) | scale (a : Amt) (d : Deal)
deriving DecidableEq
def Deal.word : Deal → Str
  | .none => Str.ofString "none"
  | .coin _ => Str.ofString "coin"
  | .give _ => Str.ofString "give"
  | .both _ _ => Str.ofString "both"
  | .either _ _ => Str.ofString "either"
  | .later _ _ => Str.ofString "later"
  | .once _ _ => Str.ofString "once"
  | .untl _ _ => Str.ofString "until"
  | .any _ => Str.ofString "any"
  | .byq _ _ => Str.ofString "by"
  | .scale _ _ => Str.ofString "scale"
def dealD : Deal → D
  | .none => .tuple [.str (Str.ofString "none")]
  | .coin a => .tuple [.str (Str.ofString "coin"), amtD a]
  | .give d => .tuple [.str (Str.ofString "give"), dealD d]
  | .both d e => .tuple [.str (Str.ofString "both"), dealD d, dealD e]
  | .either d e => .tuple [.str (Str.ofString "either"), dealD d, dealD e]
  | .later n d => .tuple [.str (Str.ofString "later"), .int (n : Nat), dealD d]
  | .once s d => .tuple [.str (Str.ofString "once"), sgnD s, dealD d]
  | .untl s d => .tuple [.str (Str.ofString "until"), sgnD s, dealD d]
  | .any d => .tuple [.str (Str.ofString "any"), dealD d]
  | .byq q d => .tuple [.str (Str.ofString "by"), qD q, dealD d]
  | .scale a d => .tuple [.str (Str.ofString "scale"), amtD a, dealD d]
/-! ### what is left -/
def leftGive : Deal → Deal
  | .none => .none
  | .give d => d
  | d => .give d
def leftBoth (d e : Deal) : Deal := if d = .none then e else if e = .none then d else .both d e
def leftBy (q : Rat) : Deal → Deal
  | .none => .none
  | .byq r d => if q = 0 then .none else leftBy (q * r) d
  | d => if q = 0 then .none else if q = 1 then d else .byq q d
def leftUntl (s : Sgn) (d : Deal) : Deal := if d = .none then .none else .untl s d
/-! ### moments -/
inductive Mom where
  | due (q : Rat) (d : Deal) | ch (mine : Bool) (a b : Mom)
deriving DecidableEq
def sideS (b : Bool) : Str := if b then Str.ofString "mine" else Str.ofString "theirs"
def momD : Mom → D
  | .due q d => .tuple [.str (Str.ofString "due"), qD q, dealD d]
  | .ch b x y => .tuple [.str (sideS b), momD x, momD y]
def Mom.map (w : Rat → Deal → Mom) : Mom → Mom
  | .due q d => w q d
  | .ch b x y => .ch b (x.map w) (y.map w)
def Mom.exch : Mom → Mom
  | .due q d => .due q d
  | .ch b x y => .ch (!b) x.exch y.exch
def Mom.high : Mom → Nat
  | .due _ _ => 0
  | .ch _ x y => 1 + max x.high y.high
/-- the moment of a deal where the price is p, the time t -/
def momF (p t : Int) : Deal → Mom
  | .none => .due 0 .none
  | .coin a => .due (a.val p t : Int) .none
  | .give d => (momF p t d).exch.map fun q l => .due (0 - q) (leftGive l)
  | .both d e => (momF p t d).map fun q l => (momF p t e).map fun r m => .due (q + r) (leftBoth l m)
  | .either d e => .ch false (momF p t d) (momF p t e)
  | .later n d => if n = 0 then momF p t d else .due 0 (.later (n - 1) d)
  | .once s d => if s.holds p t then momF p t d else .due 0 (.once s d)
  | .untl s d => if s.holds p t then .due 0 .none else (momF p t d).map fun q l => .due q (leftUntl s l)
  | .any d => .ch false (momF p t d) (.due 0 (.any d))
  | .byq q d => (momF p t d).map fun r l => .due (q * r) (leftBy q l)
  | .scale a d => (momF p t d).map fun r l => .due ((a.val p t : Int) * r) (leftBy (a.val p t : Int) l)
/-! ### sizes -/
def qz (q : Rat) : Nat := max (Nat.log2 q.num.natAbs) (Nat.log2 q.den) + 1
theorem lt_log2 (n : Nat) : n < 2 ^ (Nat.log2 n + 1) := by
  by_cases h : n = 0
  · subst h; decide
  · exact (Nat.log2_lt h).mp (Nat.lt_succ_self _)
theorem qz_bq (q : Rat) : BQ (qz q) q := by
  refine ⟨?_, ?_⟩
  · exact Nat.lt_of_lt_of_le (lt_log2 _) (Nat.pow_le_pow_right (by decide) (by unfold qz; omega))
  · show (q.den : Int).natAbs < _
    rw [Int.natAbs_natCast]
    exact Nat.lt_of_lt_of_le (lt_log2 _) (Nat.pow_le_pow_right (by decide) (by unfold qz; omega))
theorem qz_le {q : Rat} {k : Nat} (h : BQ k q) (hk : 0 < k) : qz q ≤ k := by
  have h1 : Nat.log2 q.num.natAbs < k := by
    by_cases z : q.num.natAbs = 0
    · rw [z]; exact hk
    · exact (Nat.log2_lt z).mpr h.n
  have h2 : Nat.log2 q.den < k := by
    have := h.d
    unfold Bt at this
    rw [Int.natAbs_natCast] at this
    exact (Nat.log2_lt (by have := q.den_pos; omega)).mpr this
  unfold qz
  omega
def Deal.W : Deal → Nat
  | .none => 1
  | .coin a => 31 * a.parts + 1
  | .give d => d.W + 1
  | .both d e => d.W + e.W + 1
  | .either d e => d.W + e.W + 1
  | .later _ d => d.W + 1
  | .once _ d => d.W + 1
  | .untl _ d => d.W + 1
  | .any d => d.W + 1
  | .byq q d => qz q + d.W + 1
  | .scale a d => 31 * a.parts + d.W + 1
def Deal.ok : Deal → Prop
  | .none => True
  | .coin a => a.ok ∧ a.deep ≤ 9 ∧ a.parts ≤ 1000
  | .give d => d.ok
  | .both d e => d.ok ∧ e.ok
  | .either d e => d.ok ∧ e.ok
  | .later _ d => d.ok
  | .once s d => (s.ok ∧ s.deep ≤ 9 ∧ s.parts ≤ 1000) ∧ d.ok
  | .untl s d => (s.ok ∧ s.deep ≤ 9 ∧ s.parts ≤ 1000) ∧ d.ok
  | .any d => d.ok
  | .byq _ d => d.ok
  | .scale a d => (a.ok ∧ a.deep ≤ 9 ∧ a.parts ≤ 1000) ∧ d.ok
def Deal.deep : Deal → Nat
  | .none => 0
  | .coin _ => 0
  | .give d => d.deep + 1
  | .both d e => max d.deep e.deep + 1
  | .either d e => max d.deep e.deep + 1
  | .later _ d => d.deep + 1
  | .once _ d => d.deep + 1
  | .untl _ d => d.deep + 1
  | .any d => d.deep + 1
  | .byq _ d => d.deep + 1
  | .scale _ d => d.deep + 1
theorem Deal.W_pos : ∀ d : Deal, 1 ≤ d.W := fun d => by cases d <;> unfold Deal.W <;> omega
/-- every due and what is left of it -/
def Mom.All (Q : Rat → Deal → Prop) : Mom → Prop
  | .due q d => Q q d
  | .ch _ x y => x.All Q ∧ y.All Q
theorem Mom.All.map {Q Q' : Rat → Deal → Prop} {w : Rat → Deal → Mom} (h : ∀ q d, Q q d → (w q d).All Q') : ∀ {m : Mom}, m.All Q → (m.map w).All Q'
  | .due q d, a => h q d a
  | .ch _ x y, a => ⟨Mom.All.map h a.1, Mom.All.map h a.2⟩
theorem Mom.All.exch {Q : Rat → Deal → Prop} : ∀ {m : Mom}, m.All Q → m.exch.All Q
  | .due q d, a => a
  | .ch _ x y, a => ⟨Mom.All.exch a.1, Mom.All.exch a.2⟩
theorem Mom.All.imp {Q Q' : Rat → Deal → Prop} (h : ∀ q d, Q q d → Q' q d) : ∀ {m : Mom}, m.All Q → m.All Q'
  | .due q d, a => h q d a
  | .ch _ x y, a => ⟨Mom.All.imp h a.1, Mom.All.imp h a.2⟩
/-- a due of so many bits, what is left of no more weight, no deeper, of the same sort -/
def DueOk (w k : Nat) (q : Rat) (d : Deal) : Prop := BQ w q ∧ d.W ≤ w ∧ d.ok ∧ d.deep ≤ k
theorem DueOk.mono {w w' k k' : Nat} {q : Rat} {d : Deal} (h : DueOk w k q d) (hw : w ≤ w') (hk : k ≤ k') : DueOk w' k' q d := ⟨h.1.mono hw, by have := h.2.1; omega, h.2.2.1, by have := h.2.2.2; omega⟩
theorem lg_ok {d : Deal} (h : d.ok) : (leftGive d).ok ∧ (leftGive d).W ≤ d.W + 1 ∧ (leftGive d).deep ≤ d.deep + 1 := by
  cases d <;> first | exact ⟨h, by unfold leftGive Deal.W; omega, by unfold leftGive Deal.deep; omega⟩ | exact ⟨h, by unfold leftGive; omega, by unfold leftGive; omega⟩ | exact ⟨h, by show _ ≤ _; simp only [leftGive, Deal.W]; omega, by show _ ≤ _; simp only [leftGive, Deal.deep]; omega⟩
theorem lb_ok {d e : Deal} (h : d.ok) (h2 : e.ok) : (leftBoth d e).ok ∧ (leftBoth d e).W ≤ d.W + e.W + 1 ∧ (leftBoth d e).deep ≤ max d.deep e.deep + 1 := by
  unfold leftBoth
  split
  · exact ⟨h2, by omega, by omega⟩
  · split
    · exact ⟨h, by omega, by omega⟩
    · exact ⟨⟨h, h2⟩, Nat.le_refl _, Nat.le_refl _⟩
theorem lu_ok {s : Sgn} {d : Deal} (hs : s.ok ∧ s.deep ≤ 9 ∧ s.parts ≤ 1000) (h : d.ok) : (leftUntl s d).ok ∧ (leftUntl s d).W ≤ d.W + 1 ∧ (leftUntl s d).deep ≤ d.deep + 1 := by
  unfold leftUntl
  split
  · exact ⟨trivial, by show 1 ≤ _; omega, by show 0 ≤ _; omega⟩
  · exact ⟨⟨hs, h⟩, Nat.le_refl _, Nat.le_refl _⟩
theorem qz_mul (p q : Rat) : qz (p * q) ≤ qz p + qz q := qz_le ((qz_bq p).mul (qz_bq q)) (by unfold qz; omega)
theorem ly_ok : ∀ {d : Deal} {q : Rat}, d.ok → (leftBy q d).ok ∧ (leftBy q d).W ≤ qz q + d.W + 1 ∧ (leftBy q d).deep ≤ d.deep + 1
  | .byq r d, q, h => by
    unfold leftBy
    split
    · exact ⟨trivial, by show 1 ≤ _; omega, by show 0 ≤ _; omega⟩
    · obtain ⟨h1, h2, h3⟩ := ly_ok (d := d) (q := q * r) h
      have := qz_mul q r
      have e : (Deal.byq r d).W = qz r + d.W + 1 := rfl
      have e2 : (Deal.byq r d).deep = d.deep + 1 := rfl
      exact ⟨h1, by omega, by omega⟩
  | .none, q, h => ⟨trivial, by show 1 ≤ _; omega, by show 0 ≤ _; omega⟩
  | .coin a, q, h => ly_aux h rfl
  | .give a, q, h => ly_aux h rfl
  | .both a b, q, h => ly_aux h rfl
  | .either a b, q, h => ly_aux h rfl
  | .later a b, q, h => ly_aux h rfl
  | .once a b, q, h => ly_aux h rfl
  | .untl a b, q, h => ly_aux h rfl
  | .any a, q, h => ly_aux h rfl
  | .scale a b, q, h => ly_aux h rfl
where
  ly_aux {d : Deal} {q : Rat} (h : d.ok) (e : leftBy q d = if q = 0 then .none else if q = 1 then d else .byq q d) : (leftBy q d).ok ∧ (leftBy q d).W ≤ qz q + d.W + 1 ∧ (leftBy q d).deep ≤ d.deep + 1 := by
    rw [e]
    split
    · exact ⟨trivial, by show 1 ≤ _; omega, by show 0 ≤ _; omega⟩
    · split
      · exact ⟨h, by omega, by omega⟩
      · exact ⟨h, Nat.le_refl _, Nat.le_refl _⟩
theorem BQ.sub0 {k : Nat} {q : Rat} (h : BQ k q) : BQ k (0 - q) := by
  have e : (0 : Rat) - q = -q := by rw [Rat.sub_eq_add_neg, Rat.zero_add]
  rw [e]
  exact ⟨by rw [Rat.neg_num]; have := h.n; unfold Bt at *; omega, by rw [Rat.neg_den]; exact h.d⟩
theorem BQ.add2 {k l : Nat} {p q : Rat} (hp : BQ k p) (hq : BQ l q) : BQ (k + l + 1) (p + q) := by
  rw [← add_divInt]
  have h1 : Bt (k + l) (p.num * q.den) := hp.n.mul hq.d
  have h2 : Bt (l + k) (q.num * p.den) := hq.n.mul hp.d
  exact BQ.divInt (h1.add (h2.mono (by omega))) ((hp.d.mul hq.d).mono (by omega)) (den2_ne p q)
theorem val_bq {p t : Int} (hp : Bt 30 p) (ht : Bt 30 t) {a : Amt} (h : a.ok) : BQ (31 * a.parts) ((a.val p t : Int) : Rat) := BQ.int (Amt.bt hp ht h) (by have := Amt.pos a; omega)
theorem val_qz {p t : Int} (hp : Bt 30 p) (ht : Bt 30 t) {a : Amt} (h : a.ok) : qz ((a.val p t : Int) : Rat) ≤ 31 * a.parts := qz_le (val_bq hp ht h) (by have := Amt.pos a; omega)
theorem bq0 {k : Nat} (hk : 0 < k) : BQ k (0 : Rat) := by
  have := BQ.int (k := k) (i := 0) (by unfold Bt; exact Nat.pow_pos (by decide)) hk
  simpa using this
theorem bq1 {k : Nat} (hk : 0 < k) : BQ k (1 : Rat) := by
  have := BQ.int (k := k) (i := 1) (by unfold Bt; exact Nat.one_lt_two_pow (by omega)) hk
  simpa using this
theorem mom_ok {p t : Int} (hp : Bt 30 p) (ht : Bt 30 t) : ∀ {x : Deal}, x.ok → (momF p t x).All (DueOk x.W x.deep)
  | .none, _ => ⟨bq0 (by decide), Nat.le_refl _, trivial, Nat.le_refl _⟩
  | .coin a, h => ⟨(val_bq hp ht h.1).mono (by show _ ≤ 31 * a.parts + 1; omega), by show 1 ≤ 31 * a.parts + 1; omega, trivial, Nat.le_refl _⟩
  | .give d, h => by
    refine Mom.All.map (fun q l a => ?_) (Mom.All.exch (mom_ok hp ht (x := d) h))
    obtain ⟨h1, h2, h3⟩ := lg_ok a.2.2.1
    have w := a.2.1
    have k := a.2.2.2
    exact ⟨a.1.sub0.mono (by show _ ≤ d.W + 1; omega), by show _ ≤ d.W + 1; omega, h1, by show _ ≤ d.deep + 1; omega⟩
  | .both d e, h => by
    refine Mom.All.map (fun q l a => Mom.All.map (fun r m b => ?_) (mom_ok hp ht (x := e) h.2)) (mom_ok hp ht (x := d) h.1)
    obtain ⟨h1, h2, h3⟩ := lb_ok a.2.2.1 b.2.2.1
    have w := a.2.1
    have k := a.2.2.2
    have w2 := b.2.1
    have k2 := b.2.2.2
    exact ⟨a.1.add2 b.1, by show _ ≤ d.W + e.W + 1; omega, h1, by show _ ≤ max d.deep e.deep + 1; omega⟩
  | .either d e, h => ⟨(mom_ok hp ht (x := d) h.1).imp fun q l a => a.mono (by show _ ≤ d.W + e.W + 1; omega) (by show _ ≤ max d.deep e.deep + 1; omega), (mom_ok hp ht (x := e) h.2).imp fun q l a => a.mono (by show _ ≤ d.W + e.W + 1; omega) (by show _ ≤ max d.deep e.deep + 1; omega)⟩
  | .later n d, h => by
    unfold momF
    split
    · exact (mom_ok hp ht (x := d) h).imp fun q l a => a.mono (by show _ ≤ d.W + 1; omega) (by show _ ≤ d.deep + 1; omega)
    · exact ⟨bq0 (by show 0 < d.W + 1; omega), Nat.le_refl _, h, Nat.le_refl _⟩
  | .once s d, h => by
    unfold momF
    split
    · exact (mom_ok hp ht (x := d) h.2).imp fun q l a => a.mono (by show _ ≤ d.W + 1; omega) (by show _ ≤ d.deep + 1; omega)
    · exact ⟨bq0 (by show 0 < d.W + 1; omega), Nat.le_refl _, h, Nat.le_refl _⟩
  | .untl s d, h => by
    unfold momF
    split
    · exact ⟨bq0 (by show 0 < d.W + 1; omega), by show 1 ≤ d.W + 1; omega, trivial, by show 0 ≤ _; omega⟩
    · refine Mom.All.map (fun q l a => ?_) (mom_ok hp ht (x := d) h.2)
      obtain ⟨h1, h2, h3⟩ := lu_ok (s := s) h.1 a.2.2.1
      have w := a.2.1
      have k := a.2.2.2
      exact ⟨a.1.mono (by show _ ≤ d.W + 1; omega), by show _ ≤ d.W + 1; omega, h1, by show _ ≤ d.deep + 1; omega⟩
  | .any d, h => ⟨(mom_ok hp ht (x := d) h).imp fun q l a => a.mono (by show _ ≤ d.W + 1; omega) (by show _ ≤ d.deep + 1; omega), bq0 (by show 0 < d.W + 1; omega), Nat.le_refl _, h, Nat.le_refl _⟩
  | .byq c d, h => by
    refine Mom.All.map (fun r l a => ?_) (mom_ok hp ht (x := d) h)
    obtain ⟨h1, h2, h3⟩ := ly_ok (q := c) a.2.2.1
    have w := a.2.1
    have k := a.2.2.2
    exact ⟨((qz_bq c).mul a.1).mono (by show _ ≤ qz c + d.W + 1; omega), by show _ ≤ qz c + d.W + 1; omega, h1, by show _ ≤ d.deep + 1; omega⟩
  | .scale b d, h => by
    refine Mom.All.map (fun r l a => ?_) (mom_ok hp ht (x := d) h.2)
    obtain ⟨h1, h2, h3⟩ := ly_ok (q := ((b.val p t : Int) : Rat)) a.2.2.1
    have w := a.2.1
    have k := a.2.2.2
    have z := val_qz hp ht h.1.1
    exact ⟨((val_bq hp ht h.1.1).mul a.1).mono (by show _ ≤ 31 * b.parts + d.W + 1; omega), by show _ ≤ 31 * b.parts + d.W + 1; omega, h1, by show _ ≤ d.deep + 1; omega⟩
end DL

/-! Deals and moments as data: shapes, equality, how many choices. -/
namespace DL
open PySem PySem.Spec PyProof.Rows L2
variable [NX.TabsC]
theorem amt_dp : ∀ a : Amt, PyData.depth (amtD a) ≤ a.deep + 1
  | .num i => Nat.le_refl _
  | .price => Nat.le_refl _
  | .time => Nat.le_refl _
  | .bin o l r => by
    have h1 := amt_dp l
    have h2 := amt_dp r
    have e : (Amt.bin o l r).deep = 1 + max l.deep r.deep := rfl
    show PyData.depth (.tuple [.str o.str, amtD l, amtD r]) ≤ _
    simp only [PyData.depth, PyData.depthAll]
    omega
theorem lay_str {w : Str} (h : PyData.canLay0 (.str w) = true) : PyData.strOk w = true := by simpa [PyData.canLay0] using h
theorem sgn_lay : ∀ s : Sgn, PyData.canLay0 (sgnD s) = true ∧ PyData.depth (sgnD s) ≤ s.deep + 2
  | .mk u a b => by
    have h1 := amt_dp a
    have h2 := amt_dp b
    have e : (Sgn.mk u a b).deep = max a.deep b.deep := rfl
    have hs : PyData.strOk (if u then Str.ofString "upto" else Str.ofString "below") = true := lay_str (by cases u <;> decide +kernel)
    refine ⟨?_, ?_⟩
    · show PyData.canLay0 (.tuple [.str (if u then Str.ofString "upto" else Str.ofString "below"), amtD a, amtD b]) = true
      simp only [PyData.canLay0, PyData.canLayAll0, (amt_lay a).1, (amt_lay b).1, hs, Bool.and_self]
    · show PyData.depth (.tuple [.str (if u then Str.ofString "upto" else Str.ofString "below"), amtD a, amtD b]) ≤ _
      simp only [PyData.depth, PyData.depthAll]
      omega
theorem q_lay (q : Rat) : PyData.canLay0 (qD q) = true ∧ PyData.depth (qD q) ≤ 1 := ⟨rfl, Nat.le_refl _⟩
theorem two_lay {w : Str} {d : D} {k : Nat} (hw : PyData.canLay0 (.str w) = true) (h : PyData.canLay0 d = true ∧ PyData.depth d ≤ k) : PyData.canLay0 (.tuple [.str w, d]) = true ∧ PyData.depth (.tuple [.str w, d]) ≤ k + 1 := by
  refine ⟨by simp only [PyData.canLay0, PyData.canLayAll0, h.1, lay_str hw, Bool.and_self], ?_⟩
  simp only [PyData.depth, PyData.depthAll]
  omega
theorem three_lay {w : Str} {d e : D} {k : Nat} (hw : PyData.canLay0 (.str w) = true) (h : PyData.canLay0 d = true ∧ PyData.depth d ≤ k) (h2 : PyData.canLay0 e = true ∧ PyData.depth e ≤ k) : PyData.canLay0 (.tuple [.str w, d, e]) = true ∧ PyData.depth (.tuple [.str w, d, e]) ≤ k + 1 := by
  refine ⟨by simp only [PyData.canLay0, PyData.canLayAll0, h.1, h2.1, lay_str hw, Bool.and_self], ?_⟩
  simp only [PyData.depth, PyData.depthAll]
  omega
theorem lay_up {d : D} {k l : Nat} (h : PyData.canLay0 d = true ∧ PyData.depth d ≤ k) (hl : k ≤ l) : PyData.canLay0 d = true ∧ PyData.depth d ≤ l := ⟨h.1, Nat.le_trans h.2 hl⟩
theorem deal_lay : ∀ {d : Deal}, d.ok → PyData.canLay0 (dealD d) = true ∧ PyData.depth (dealD d) ≤ d.deep + 12
  | .none, _ => ⟨by decide +kernel, by show 1 ≤ 12; decide⟩
  | .coin a, h => lay_up (two_lay (by decide +kernel) ⟨(amt_lay a).1, amt_dp a⟩) (by have := h.2.1; show _ ≤ 0 + 12; omega)
  | .give d, h => two_lay (by decide +kernel) (deal_lay (d := d) h)
  | .both d e, h => lay_up (three_lay (k := max d.deep e.deep + 12) (by decide +kernel) (lay_up (deal_lay (d := d) h.1) (by omega)) (lay_up (deal_lay (d := e) h.2) (by omega))) (by show _ ≤ max d.deep e.deep + 1 + 12; omega)
  | .either d e, h => lay_up (three_lay (k := max d.deep e.deep + 12) (by decide +kernel) (lay_up (deal_lay (d := d) h.1) (by omega)) (lay_up (deal_lay (d := e) h.2) (by omega))) (by show _ ≤ max d.deep e.deep + 1 + 12; omega)
  | .later n d, h => lay_up (three_lay (e := dealD d) (k := d.deep + 12) (by decide +kernel) ⟨rfl, Nat.zero_le _⟩ (deal_lay (d := d) h)) (by show _ ≤ d.deep + 1 + 12; omega)
  | .once s d, h => lay_up (three_lay (e := dealD d) (k := d.deep + 12) (by decide +kernel) (lay_up (sgn_lay s) (by have := h.1.2.1; omega)) (deal_lay (d := d) h.2)) (by show _ ≤ d.deep + 1 + 12; omega)
  | .untl s d, h => lay_up (three_lay (e := dealD d) (k := d.deep + 12) (by decide +kernel) (lay_up (sgn_lay s) (by have := h.1.2.1; omega)) (deal_lay (d := d) h.2)) (by show _ ≤ d.deep + 1 + 12; omega)
  | .any d, h => two_lay (by decide +kernel) (deal_lay (d := d) h)
  | .byq q d, h => lay_up (three_lay (e := dealD d) (k := d.deep + 12) (by decide +kernel) (lay_up (q_lay q) (by omega)) (deal_lay (d := d) h)) (by show _ ≤ d.deep + 1 + 12; omega)
  | .scale a d, h => lay_up (three_lay (e := dealD d) (k := d.deep + 12) (by decide +kernel) (lay_up ⟨(amt_lay a).1, amt_dp a⟩ (by have := h.1.2.1; omega)) (deal_lay (d := d) h.2)) (by show _ ≤ d.deep + 1 + 12; omega)
theorem shaped_of {d : D} {k : Nat} (h : PyData.canLay0 d = true ∧ PyData.depth d ≤ k) (hk : k ≤ 64) : SeqAt.shaped d = true := by
  show (PyData.canLay0 d && decide (PyData.depth d ≤ 64)) = true
  rw [h.1, decide_eq_true (Nat.le_trans h.2 hk)]
  rfl
theorem shaped_deal {d : Deal} (h : d.ok) (hk : d.deep ≤ 50) : SeqAt.shaped (dealD d) = true := shaped_of (deal_lay h) (by omega)
theorem eqv_none (d : Deal) : PyData.eqv (dealD d) (dealD .none) = decide (d = .none) := by
  cases d with
  | none => simp [dealD, PyData.eqv, PyData.eqvAll]
  | _ => simp [dealD, PyData.eqv, PyData.eqvAll]
/-- left == NONE -/
theorem eq_none {d : Deal} {A B : Prop} (h : d.ok) (hk : d.deep ≤ 50) (h1 : d = .none → A) (h2 : d ≠ .none → B) : (SeqAt.shaped (dealD d) = true ∧ SeqAt.shaped (dealD .none) = true) ∧ bifP (PyData.eqv (dealD d) (dealD .none)) A B := by
  refine ⟨⟨shaped_deal h hk, by decide +kernel⟩, ?_⟩
  rw [eqv_none]
  exact bif_dec h1 h2
theorem deal_tup (d : Deal) : ∃ ds, dealD d = .tuple ds := by cases d <;> exact ⟨_, rfl⟩
theorem eq_none2 {d : Deal} {ds : List D} {A B : Prop} (h : d.ok) (hk : d.deep ≤ 50) (e : dealD d = .tuple ds) (h1 : d = .none → A) (h2 : d ≠ .none → B) : (SeqAt.shaped (.tuple ds) = true ∧ SeqAt.shaped (.tuple [.str (Str.ofString "none")]) = true) ∧ bifP (PyData.eqv (.tuple ds) (.tuple [.str (Str.ofString "none")])) A B := by
  have := eq_none h hk h1 h2
  rw [e] at this
  exact this
/-! ### how many choices -/
def Deal.chs : Deal → Nat
  | .none => 0
  | .coin _ => 0
  | .give d => d.chs
  | .both d e => d.chs + e.chs
  | .either d e => d.chs + e.chs + 1
  | .later _ d => d.chs
  | .once _ d => d.chs
  | .untl _ d => d.chs
  | .any d => d.chs + 1
  | .byq _ d => d.chs
  | .scale _ d => d.chs
def Mom.chl : Mom → Nat
  | .due _ _ => 0
  | .ch _ a b => a.chl + b.chl + 1
theorem exch_high : ∀ m : Mom, m.exch.high = m.high
  | .due _ _ => rfl
  | .ch _ a b => by show 1 + max a.exch.high b.exch.high = _; rw [exch_high a, exch_high b]; rfl
theorem map_high {w : Rat → Deal → Mom} {k : Nat} (h : ∀ q d, (w q d).high ≤ k) : ∀ m : Mom, (m.map w).high ≤ m.high + k
  | .due q d => by show (w q d).high ≤ 0 + k; have := h q d; omega
  | .ch b x y => by
    have h1 := map_high h x
    have h2 := map_high h y
    show 1 + max (x.map w).high (y.map w).high ≤ 1 + max x.high y.high + k
    omega
theorem mom_high (p t : Int) : ∀ x : Deal, (momF p t x).high ≤ x.chs
  | .none => Nat.le_refl _
  | .coin a => Nat.le_refl _
  | .give d => by
    have h := mom_high p t d
    have h2 := map_high (w := fun q l => .due (0 - q) (leftGive l)) (k := 0) (fun _ _ => Nat.le_refl _) (momF p t d).exch
    rw [exch_high] at h2
    exact Nat.le_trans h2 h
  | .both d e => by
    have h1 := mom_high p t d
    have h2 := mom_high p t e
    have h3 := map_high (w := fun q l => (momF p t e).map fun r m => .due (q + r) (leftBoth l m)) (k := (momF p t e).high) (fun q l => map_high (k := 0) (fun _ _ => Nat.le_refl _) _) (momF p t d)
    show _ ≤ d.chs + e.chs
    exact Nat.le_trans h3 (by omega)
  | .either d e => by
    have h1 := mom_high p t d
    have h2 := mom_high p t e
    show 1 + max (momF p t d).high (momF p t e).high ≤ d.chs + e.chs + 1
    omega
  | .later n d => by
    unfold momF
    split
    · exact mom_high p t d
    · exact Nat.zero_le _
  | .once s d => by
    unfold momF
    split
    · exact mom_high p t d
    · exact Nat.zero_le _
  | .untl s d => by
    unfold momF
    split
    · exact Nat.zero_le _
    · exact Nat.le_trans (map_high (k := 0) (fun _ _ => Nat.le_refl _) _) (mom_high p t d)
  | .any d => by
    have h1 := mom_high p t d
    show 1 + max (momF p t d).high 0 ≤ d.chs + 1
    omega
  | .byq q d => Nat.le_trans (map_high (k := 0) (fun _ _ => Nat.le_refl _) _) (mom_high p t d)
  | .scale a d => Nat.le_trans (map_high (k := 0) (fun _ _ => Nat.le_refl _) _) (mom_high p t d)
theorem ly_chs : ∀ (d : Deal) (q : Rat), (leftBy q d).chs ≤ d.chs
  | .byq r d, q => by
    unfold leftBy
    split
    · exact Nat.zero_le _
    · exact ly_chs d (q * r)
  | .none, q => Nat.zero_le _
  | .coin a, q => by unfold leftBy; split <;> first | exact Nat.zero_le _ | (split <;> exact Nat.le_refl _)
  | .give a, q => by unfold leftBy; split <;> first | exact Nat.zero_le _ | (split <;> exact Nat.le_refl _)
  | .both a b, q => by unfold leftBy; split <;> first | exact Nat.zero_le _ | (split <;> exact Nat.le_refl _)
  | .either a b, q => by unfold leftBy; split <;> first | exact Nat.zero_le _ | (split <;> exact Nat.le_refl _)
  | .later a b, q => by unfold leftBy; split <;> first | exact Nat.zero_le _ | (split <;> exact Nat.le_refl _)
  | .once a b, q => by unfold leftBy; split <;> first | exact Nat.zero_le _ | (split <;> exact Nat.le_refl _)
  | .untl a b, q => by unfold leftBy; split <;> first | exact Nat.zero_le _ | (split <;> exact Nat.le_refl _)
  | .any a, q => by unfold leftBy; split <;> first | exact Nat.zero_le _ | (split <;> exact Nat.le_refl _)
  | .scale a b, q => by unfold leftBy; split <;> first | exact Nat.zero_le _ | (split <;> exact Nat.le_refl _)
theorem mom_chs (p t : Int) : ∀ x : Deal, (momF p t x).All fun _ l => l.chs ≤ x.chs
  | .none => Nat.le_refl _
  | .coin a => Nat.le_refl _
  | .give d => Mom.All.map (fun q l a => by
      show (leftGive l).chs ≤ d.chs
      have a : l.chs ≤ d.chs := a
      cases l <;> exact a) (Mom.All.exch (mom_chs p t d))
  | .both d e => Mom.All.map (fun q l a => Mom.All.map (fun r m b => by
      show (leftBoth l m).chs ≤ d.chs + e.chs
      have a : l.chs ≤ d.chs := a
      have b : m.chs ≤ e.chs := b
      unfold leftBoth
      split
      · omega
      · split
        · omega
        · show l.chs + m.chs ≤ _
          omega) (mom_chs p t e)) (mom_chs p t d)
  | .either d e => ⟨(mom_chs p t d).imp fun _ l a => by show l.chs ≤ d.chs + e.chs + 1; omega, (mom_chs p t e).imp fun _ l a => by show l.chs ≤ d.chs + e.chs + 1; omega⟩
  | .later n d => by
    unfold momF
    split
    · exact mom_chs p t d
    · exact Nat.le_refl _
  | .once s d => by
    unfold momF
    split
    · exact mom_chs p t d
    · exact Nat.le_refl _
  | .untl s d => by
    unfold momF
    split
    · exact Nat.zero_le _
    · refine Mom.All.map (fun q l a => ?_) (mom_chs p t d)
      show (leftUntl s l).chs ≤ d.chs
      unfold leftUntl
      split
      · exact Nat.zero_le _
      · exact a
  | .any d => ⟨(mom_chs p t d).imp fun _ l a => by show l.chs ≤ d.chs + 1; omega, Nat.le_refl _⟩
  | .byq q d => Mom.All.map (fun r l a => Nat.le_trans (ly_chs l q) a) (mom_chs p t d)
  | .scale b d => Mom.All.map (fun r l a => Nat.le_trans (ly_chs l _) a) (mom_chs p t d)
/-- a moment as data -/
theorem mom_lay {k : Nat} : ∀ {m : Mom}, (m.All fun _ l => l.ok ∧ l.deep ≤ k) → PyData.canLay0 (momD m) = true ∧ PyData.depth (momD m) ≤ m.high + k + 13
  | .due q d, h => lay_up (three_lay (e := dealD d) (k := k + 12) (by decide +kernel) (lay_up (q_lay q) (by omega)) (lay_up (deal_lay h.1) (by have := h.2; omega))) (by show _ ≤ 0 + k + 13; omega)
  | .ch b x y, h => lay_up (three_lay (k := max x.high y.high + k + 13) (by cases b <;> decide +kernel) (lay_up (mom_lay h.1) (by omega)) (lay_up (mom_lay h.2) (by omega))) (by show _ ≤ 1 + max x.high y.high + k + 13; omega)
theorem mapK_mom {S : List D → (D → Prop) → Prop} {w : Rat → Deal → Mom} {Q : Rat → Deal → Prop} (h : ∀ q l P, Q q l → P (momD (w q l)) → S [qD q, dealD l] P) : ∀ {m : Mom} {n : Nat} {P : D → Prop}, m.All Q → m.high < n → P (momD (m.map w)) → mapK S n (momD m) P
  | .due q l, n + 1, P, a, _, hP => by
    show bifP ((Str.ofString "due") == (Str.ofString "due")) (S [qD q, dealD l] P) (mapK S n (qD q) fun a' => mapK S n (dealD l) fun b' => P (.tuple [.str (Str.ofString "due"), a', b']))
    exact bif_true (by decide +kernel) (h q l P a hP)
  | .ch b x y, n + 1, P, a, hn, hP => by
    have e : (Mom.ch b x y).high = 1 + max x.high y.high := rfl
    show bifP (sideS b == (Str.ofString "due")) (S [momD x, momD y] P) (mapK S n (momD x) fun a' => mapK S n (momD y) fun b' => P (.tuple [.str (sideS b), a', b']))
    refine bif_false (by cases b <;> decide +kernel) ?_
    exact mapK_mom h a.1 (by omega) (mapK_mom h a.2 (by omega) hP)
  | .due q l, 0, P, a, hn, hP => absurd hn (Nat.not_lt_zero _)
  | .ch b x y, 0, P, a, hn, hP => absurd hn (Nat.not_lt_zero _)
end DL

/-! A moment as the list of its dues with the ways that lead to them. -/
namespace DL
open PySem PySem.Spec PyProof.Rows L2
variable [NX.TabsC]
abbrev Way := List (Bool × Nat)
def stepD (p : Bool × Nat) : D := .tuple [.str (sideS p.1), .int (p.2 : Nat)]
def wayD (w : Way) : D := .tuple (w.map stepD)
abbrev DRow := Way × Rat × Deal
def rowD (r : DRow) : D := .tuple [wayD r.1, qD r.2.1, dealD r.2.2]
def flatM : Mom → Way → List DRow
  | .due q d, w => [(w, q, d)]
  | .ch b x y, w => flatM x (w ++ [(b, 0)]) ++ flatM y (w ++ [(b, 1)])
theorem flat_pre : ∀ (m : Mom) (u w : Way), flatM m (u ++ w) = (flatM m w).map fun r => (u ++ r.1, r.2)
  | .due q d, u, w => rfl
  | .ch b x y, u, w => by
    show flatM x (u ++ w ++ _) ++ flatM y (u ++ w ++ _) = _
    rw [List.append_assoc, List.append_assoc, flat_pre x, flat_pre y]
    show _ = (flatM x _ ++ flatM y _).map _
    rw [List.map_append]
theorem flat_at (m : Mom) (w : Way) : flatM m w = (flatM m []).map fun r => (w ++ r.1, r.2) := by
  have := flat_pre m w []
  rw [List.append_nil] at this
  exact this
theorem flat_both (g : Rat → Deal → Mom) : ∀ (m : Mom) (w : Way), flatM (m.map g) w = (flatM m w).flatMap fun r => (flatM (g r.2.1 r.2.2) []).map fun s => (r.1 ++ s.1, s.2)
  | .due q d, w => by
    show flatM (g q d) w = [(w, q, d)].flatMap _
    rw [flat_at, List.flatMap_singleton]
  | .ch b x y, w => by
    show flatM (x.map g) _ ++ flatM (y.map g) _ = (flatM x _ ++ flatM y _).flatMap _
    rw [flat_both g x, flat_both g y, List.flatMap_append]
theorem flat_map (f : Rat → Rat) (h : Deal → Deal) : ∀ (m : Mom) (w : Way), flatM (m.map fun q d => .due (f q) (h d)) w = (flatM m w).map fun r => (r.1, f r.2.1, h r.2.2)
  | .due q d, w => rfl
  | .ch b x y, w => by
    show flatM (x.map _) _ ++ flatM (y.map _) _ = (flatM x _ ++ flatM y _).map _
    rw [flat_map f h x, flat_map f h y, List.map_append]
def swp (p : Bool × Nat) : Bool × Nat := (!p.1, p.2)
theorem flat_exch : ∀ (m : Mom) (w : Way), flatM m.exch (w.map swp) = (flatM m w).map fun r => (r.1.map swp, r.2)
  | .due q d, w => rfl
  | .ch b x y, w => by
    have h1 := flat_exch x (w ++ [(b, 0)])
    have h2 := flat_exch y (w ++ [(b, 1)])
    rw [List.map_append] at h1 h2
    show flatM x.exch _ ++ flatM y.exch _ = (flatM x _ ++ flatM y _).map _
    rw [List.map_append, ← h1, ← h2]
    rfl
theorem flatM_len : ∀ (m : Mom) (w : Way), (flatM m w).length ≤ 2 ^ m.high
  | .due q d, w => Nat.le_refl _
  | .ch b x y, w => by
    have h1 := flatM_len x (w ++ [(b, 0)])
    have h2 := flatM_len y (w ++ [(b, 1)])
    have e : (Mom.ch b x y).high = 1 + max x.high y.high := rfl
    have h3 := Nat.pow_le_pow_right (n := 2) (by decide) (Nat.le_max_left x.high y.high)
    have h4 := Nat.pow_le_pow_right (n := 2) (by decide) (Nat.le_max_right x.high y.high)
    show (flatM x _ ++ flatM y _).length ≤ _
    rw [List.length_append, e, Nat.pow_add]
    omega
theorem flatM_pos : ∀ (m : Mom) (w : Way), 0 < (flatM m w).length
  | .due q d, w => Nat.one_pos
  | .ch b x y, w => by
    have h1 := flatM_pos x (w ++ [(b, 0)])
    show 0 < (flatM x _ ++ flatM y _).length
    rw [List.length_append]
    omega
theorem flatM_all {Q : Rat → Deal → Prop} : ∀ {m : Mom} {w : Way}, m.All Q → ∀ r ∈ flatM m w, Q r.2.1 r.2.2 ∧ r.1.length ≤ w.length + m.high
  | .due q d, w, h, r, hr => by
    have hr : r ∈ [(w, q, d)] := hr
    rw [List.mem_singleton.mp hr]
    exact ⟨h, Nat.le_refl _⟩
  | .ch b x y, w, h, r, hr => by
    have hr : r ∈ flatM x (w ++ [(b, 0)]) ++ flatM y (w ++ [(b, 1)]) := hr
    have e : (Mom.ch b x y).high = 1 + max x.high y.high := rfl
    rcases List.mem_append.mp hr with hr | hr
    · obtain ⟨h1, h2⟩ := flatM_all h.1 r hr
      rw [List.length_append, List.length_singleton] at h2
      exact ⟨h1, by omega⟩
    · obtain ⟨h1, h2⟩ := flatM_all h.2 r hr
      rw [List.length_append, List.length_singleton] at h2
      exact ⟨h1, by omega⟩
/-! ### as data -/
theorem way_lay (w : Way) : PyData.canLay0 (wayD w) = true ∧ PyData.depth (wayD w) ≤ 2 := by
  have h1 : ∀ d ∈ w.map stepD, PyData.canLay0 d = true := fun d hd => by
    obtain ⟨p, _, rfl⟩ := List.mem_map.mp hd
    have : PyData.strOk (sideS p.1) = true := lay_str (by cases p.1 <;> decide +kernel)
    unfold stepD
    simp only [PyData.canLay0, PyData.canLayAll0, this, Bool.and_self]
  have h2 : ∀ d ∈ w.map stepD, PyData.depth d ≤ 1 := fun d hd => by
    obtain ⟨p, _, rfl⟩ := List.mem_map.mp hd
    exact Nat.le_refl _
  have a1 := canLayAll_of h1
  have a2 := depthAll_of h2
  unfold wayD
  refine ⟨by simp only [PyData.canLay0, a1], ?_⟩
  simp only [PyData.depth]
  omega
theorem row_lay {r : DRow} {k : Nat} (h : r.2.2.ok) (hd : r.2.2.deep ≤ k) : PyData.canLay0 (rowD r) = true ∧ PyData.depth (rowD r) ≤ k + 13 := by
  obtain ⟨a1, a2⟩ := way_lay r.1
  obtain ⟨b1, b2⟩ := q_lay r.2.1
  obtain ⟨c1, c2⟩ := deal_lay h
  unfold rowD
  refine ⟨by simp only [PyData.canLay0, PyData.canLayAll0, a1, b1, c1, Bool.and_self], ?_⟩
  simp only [PyData.depth, PyData.depthAll]
  omega
theorem shaped_rows {l : List DRow} (h : ∀ r ∈ l, r.2.2.ok ∧ r.2.2.deep ≤ 50) : SeqAt.shaped (.list (l.map rowD)) = true := by
  refine shaped_list (fun d hd => ?_) (fun d hd => ?_)
  · obtain ⟨r, hr, rfl⟩ := List.mem_map.mp hd
    exact (row_lay (h r hr).1 (h r hr).2).1
  · obtain ⟨r, hr, rfl⟩ := List.mem_map.mp hd
    exact (row_lay (h r hr).1 (h r hr).2).2
/-! ### what is left, by words -/
inductive Rst where
  | give | untl (s : Sgn) | byq (q : Rat)
def Rst.word : Rst → Str
  | .give => Str.ofString "give"
  | .untl _ => Str.ofString "until"
  | .byq _ => Str.ofString "by"
def Rst.thing (o : D) : Rst → D
  | .give => o
  | .untl s => sgnD s
  | .byq q => qD q
def Rst.of (d : Deal) : Rst → Deal
  | .give => leftGive d
  | .untl s => leftUntl s d
  | .byq q => leftBy q d
/-! ### cut lists -/
theorem cutL_map {α β : Type} (f : α → β) (xs : List α) (lo hi : Option Int) : cutL (xs.map f) lo hi = (cutL xs lo hi).map f := by
  unfold cutL
  rw [List.length_map, List.map_take, List.map_drop]
theorem cutL_mem {α : Type} {xs : List α} {lo hi : Option Int} {x : α} (h : x ∈ cutL xs lo hi) : x ∈ xs := List.mem_of_mem_drop (List.mem_of_mem_take h)
theorem cutL_len {α : Type} {xs : List α} {lo hi : Option Int} : (cutL xs lo hi).length ≤ xs.length := by
  unfold cutL
  rw [List.length_take, List.length_drop]
  omega
theorem cutL_hi {α : Type} {xs : List α} {h : Int} (h0 : 0 ≤ h) : ((cutL xs none (some h)).length : Int) ≤ h := by
  unfold cutL
  have : HT.sIx xs.length xs.length (some h) ≤ h.toNat := by
    show (if h < 0 then _ else min h.toNat xs.length) ≤ _
    rw [if_neg (by omega)]
    omega
  rw [List.length_take]
  omega
theorem cutL_nat {α : Type} (xs : List α) (k : Nat) : cutL xs none (some (k : Int)) = xs.take k := by
  unfold cutL
  have e1 : HT.sIx xs.length 0 (none : Option Int) = 0 := rfl
  rw [HT.sIx_nat, e1, List.drop_zero, Nat.sub_zero]
  by_cases h : k ≤ xs.length
  · rw [Nat.min_eq_left h]
  · rw [Nat.min_eq_right (by omega), List.take_length, List.take_of_length_le (by omega)]
theorem cutL_from {α : Type} (xs : List α) (k : Nat) : cutL xs (some (k : Int)) none = xs.drop k := by
  unfold cutL
  have e1 : HT.sIx xs.length xs.length (none : Option Int) = xs.length := rfl
  rw [HT.sIx_nat, e1]
  by_cases h : k ≤ xs.length
  · rw [Nat.min_eq_left h, List.take_of_length_le (by rw [List.length_drop]; omega)]
  · rw [Nat.min_eq_right (by omega), List.drop_length, List.drop_of_length_le (by omega), List.take_nil]
end DL
namespace DL
open PySem PySem.Spec PyProof.Rows L2
variable [NX.TabsC]
/-! ### amounts and signs as things -/
def thD : Amt ⊕ Sgn → D
  | .inl a => amtD a
  | .inr s => sgnD s
def thP : Amt ⊕ Sgn → Nat
  | .inl a => a.parts
  | .inr s => s.parts
def thH : Amt ⊕ Sgn → Nat
  | .inl a => a.deep
  | .inr s => s.deep + 1
theorem isi_tt (ds : List D) : isiD "tuple" (.tuple ds) = true := by simp only [isiD, tyD]; decide
theorem isi_ti (i : Int) : isiD "tuple" (.int i) = false := by simp only [isiD, tyD]; decide
theorem isi_ts (i : Str) : isiD "tuple" (.str i) = false := by simp only [isiD, tyD]; decide
theorem isi_bi (i : Int) : isiD "bool" (.int i) = false := by simp only [isiD, tyD]; decide
theorem sgn_parts (s : Sgn) : 2 * s.deep + 2 ≤ s.parts := by
  obtain ⟨u, a, b⟩ := s
  have h1 := Amt.deep_lt a
  have h2 := Amt.deep_lt b
  have e1 : (Sgn.mk u a b).parts = 1 + a.parts + b.parts := rfl
  have e2 : (Sgn.mk u a b).deep = max a.deep b.deep := rfl
  omega
end DL
namespace DL
open PySem PySem.Spec PyProof.Rows L2
variable [NX.TabsC]
theorem valT_isi {T : String} {i : Nat} {δ : DS} {E : KE} {P : Bool → DS → Prop} {x : D} {b : Bool} (e : δ.get i = some (.sh x)) (ho : isObjD x = false) (hb : isiD T x = b) (h : P b δ) : valT (isiR T (varR i)) δ E P := by
  unfold valT isiR varR varK
  rw [e]
  show bifP (isObjD x) False _
  rw [ho, hb]
  exact h
theorem obj_amt (a : Amt) : isObjD (amtD a) = false := by cases a <;> rfl
theorem obj_sgn (s : Sgn) : isObjD (sgnD s) = false := by cases s; rfl
end DL

/-! Deals along rows: by moments, and by themselves. -/
namespace DL
open PySem PySem.Spec PyProof.Rows L2
variable [NX.TabsC]
abbrev Pt := Int × Int
/-- the due to which choices lead, and how many were used -/
def Mom.pick : Mom → List Nat → (Rat × Deal) × Nat
  | .due q d, _ => ((q, d), 0)
  | .ch _ x _, [] => x.pick []
  | .ch _ x y, w :: ws => if w = 0 then ((x.pick ws).1, (x.pick ws).2 + 1) else ((y.pick ws).1, (y.pick ws).2 + 1)
def settle : List Pt → Deal → List Nat → List Rat
  | [], _, _ => []
  | p :: r, d, ws => if d = .none then 0 :: settle r d ws else ((momF p.1 p.2 d).pick ws).1.1 :: settle r ((momF p.1 p.2 d).pick ws).1.2 (ws.drop ((momF p.1 p.2 d).pick ws).2)
theorem pick_nil : ∀ m : Mom, (m.pick []).2 = 0
  | .due _ _ => rfl
  | .ch _ x _ => pick_nil x
theorem pick_all {Q : Rat → Deal → Prop} : ∀ {m : Mom} {ws : List Nat}, m.All Q → Q (m.pick ws).1.1 (m.pick ws).1.2
  | .due _ _, _, h => h
  | .ch _ x _, [], h => pick_all (m := x) h.1
  | .ch _ x y, w :: ws, h => by
    unfold Mom.pick
    split
    · exact pick_all (m := x) h.1
    · exact pick_all (m := y) h.2
/-! ### deals without choosers, each by itself -/
def onceF (s : Sgn) (f : List Pt → List Rat) : List Pt → List Rat
  | [] => []
  | p :: r => if s.holds p.1 p.2 then f (p :: r) else 0 :: onceF s f r
def laterF (f : List Pt → List Rat) : Nat → List Pt → List Rat
  | 0, r => f r
  | _ + 1, [] => []
  | n + 1, _ :: r => 0 :: laterF f n r
def cutU (s : Sgn) : List Pt → List Rat → List Rat
  | p :: r, x :: xs => if s.holds p.1 p.2 then List.replicate (xs.length + 1) 0 else x :: cutU s r xs
  | _, _ => []
def coinF (a : Amt) : List Pt → List Rat
  | [] => []
  | p :: r => ((a.val p.1 p.2 : Int) : Rat) :: List.replicate r.length 0
def scaleF (a : Amt) (f : List Pt → List Rat) : List Pt → List Rat
  | [] => []
  | p :: r => (f (p :: r)).map fun x => ((a.val p.1 p.2 : Int) : Rat) * x
def den : Deal → List Pt → List Rat
  | .none => fun r => List.replicate r.length 0
  | .coin a => coinF a
  | .give d => fun r => (den d r).map fun x => 0 - x
  | .both d e => fun r => List.zipWith (fun x y => x + y) (den d r) (den e r)
  | .either d _ => den d
  | .later n d => laterF (den d) n
  | .once s d => onceF s (den d)
  | .untl s d => fun r => cutU s r (den d r)
  | .any d => den d
  | .byq q d => fun r => (den d r).map fun x => q * x
  | .scale a d => scaleF a (den d)
theorem onceF_len {s : Sgn} {f : List Pt → List Rat} (h : ∀ r, (f r).length = r.length) : ∀ r, (onceF s f r).length = r.length
  | [] => rfl
  | p :: r => by
    unfold onceF
    split
    · exact h _
    · rw [List.length_cons, onceF_len h r, List.length_cons]
theorem laterF_len {f : List Pt → List Rat} (h : ∀ r, (f r).length = r.length) : ∀ n r, (laterF f n r).length = r.length
  | 0, r => h r
  | _ + 1, [] => rfl
  | n + 1, p :: r => by show (laterF f n r).length + 1 = _; rw [laterF_len h n r, List.length_cons]
theorem cutU_len {s : Sgn} : ∀ (r : List Pt) (xs : List Rat), xs.length = r.length → (cutU s r xs).length = r.length
  | [], _, _ => by unfold cutU; rfl
  | p :: r, [], h => by cases h
  | p :: r, x :: xs, h => by
    unfold cutU
    split
    · rw [List.length_replicate]; exact h
    · rw [List.length_cons, cutU_len r xs (by simpa using h), List.length_cons]
theorem den_len : ∀ (d : Deal) (r : List Pt), (den d r).length = r.length
  | .none, r => List.length_replicate
  | .coin a, [] => rfl
  | .coin a, p :: r => by show (List.replicate r.length (0 : Rat)).length + 1 = _; rw [List.length_replicate]; rfl
  | .give d, r => by show ((den d r).map _).length = _; rw [List.length_map, den_len d]
  | .both d e, r => by show (List.zipWith _ (den d r) (den e r)).length = _; rw [List.length_zipWith, den_len d, den_len e, Nat.min_self]
  | .either d e, r => den_len d r
  | .later n d, r => laterF_len (den_len d) n r
  | .once s d, r => onceF_len (den_len d) r
  | .untl s d, r => cutU_len r _ (den_len d r)
  | .any d, r => den_len d r
  | .byq q d, r => by show ((den d r).map _).length = _; rw [List.length_map, den_len d]
  | .scale a d, [] => rfl
  | .scale a d, p :: r => by show ((den d (p :: r)).map _).length = _; rw [List.length_map, den_len d]
theorem zeros_map {f : Rat → Rat} (h : f 0 = 0) (n : Nat) : (List.replicate n (0 : Rat)).map f = List.replicate n 0 := by rw [List.map_replicate, h]
theorem map_same {f : Rat → Rat} (h : ∀ x, f x = x) (l : List Rat) : l.map f = l := by
  induction l with
  | nil => rfl
  | cons a r ih => rw [List.map_cons, ih, h]
theorem sub_sub_self (x : Rat) : 0 - (0 - x) = x := by
  rw [Rat.sub_eq_add_neg, Rat.sub_eq_add_neg, Rat.zero_add, Rat.zero_add, Rat.neg_neg]
theorem den_leftGive (l : Deal) (r : List Pt) : den (leftGive l) r = (den l r).map fun x => 0 - x := by
  cases l with
  | none => exact (zeros_map (by decide +kernel) _).symm
  | give d =>
    show den d r = ((den d r).map _).map _
    rw [List.map_map, map_same]
    intro x
    exact sub_sub_self x
  | _ => rfl
theorem zip_zero_left : ∀ l : List Rat, List.zipWith (fun x y => x + y) (List.replicate l.length 0) l = l
  | [] => rfl
  | a :: r => by rw [List.length_cons, List.replicate_succ, List.zipWith_cons_cons, zip_zero_left r, Rat.zero_add]
theorem zip_zero_right : ∀ l : List Rat, List.zipWith (fun x y => x + y) l (List.replicate l.length 0) = l
  | [] => rfl
  | a :: r => by rw [List.length_cons, List.replicate_succ, List.zipWith_cons_cons, zip_zero_right r, Rat.add_zero]
theorem den_leftBoth (d e : Deal) (r : List Pt) : den (leftBoth d e) r = List.zipWith (fun x y => x + y) (den d r) (den e r) := by
  unfold leftBoth
  split
  · rename_i h
    subst h
    have := zip_zero_left (den e r)
    rw [den_len] at this
    exact this.symm
  · split
    · rename_i h
      subst h
      have := zip_zero_right (den d r)
      rw [den_len] at this
      exact this.symm
    · rfl
theorem cutU_zero {s : Sgn} : ∀ r : List Pt, cutU s r (List.replicate r.length 0) = List.replicate r.length 0
  | [] => rfl
  | p :: r => by
    rw [List.length_cons, List.replicate_succ]
    unfold cutU
    split
    · rw [List.length_replicate, List.replicate_succ]
    · rw [cutU_zero r]
theorem den_leftUntl (s : Sgn) (d : Deal) (r : List Pt) : den (leftUntl s d) r = cutU s r (den d r) := by
  unfold leftUntl
  split
  · rename_i h
    subst h
    exact (cutU_zero r).symm
  · rfl
theorem den_zero (l : List Rat) : l.map (fun x => 0 * x) = List.replicate l.length 0 := by
  induction l with
  | nil => rfl
  | cons a r ih => rw [List.map_cons, ih, List.length_cons, List.replicate_succ, Rat.zero_mul]
theorem den_by_aux {q : Rat} {d : Deal} (e : leftBy q d = if q = 0 then .none else if q = 1 then d else .byq q d) (r : List Pt) : den (leftBy q d) r = (den d r).map fun x => q * x := by
  rw [e]
  split
  · rename_i h
    subst h
    have := den_zero (den d r)
    rw [den_len] at this
    exact this.symm
  · split
    · rename_i h
      subst h
      exact (map_same (fun x => Rat.one_mul x) _).symm
    · rfl
theorem den_leftBy : ∀ (d : Deal) (q : Rat) (r : List Pt), den (leftBy q d) r = (den d r).map fun x => q * x
  | .byq p d, q, r => by
    have e : leftBy q (.byq p d) = leftBy (q * p) d := by
      show (if q = 0 then Deal.none else leftBy (q * p) d) = _
      by_cases h : q = 0
      · rw [if_pos h, h, Rat.zero_mul]
        cases d <;> first | rfl | (unfold leftBy; exact (if_pos rfl).symm)
      · rw [if_neg h]
    rw [e, den_leftBy d]
    show _ = ((den d r).map _).map _
    rw [List.map_map]
    congr 1
    funext x
    exact Rat.mul_assoc q p x
  | .none, q, r => (zeros_map (Rat.mul_zero q) _).symm
  | .coin _, q, r => den_by_aux rfl r
  | .give _, q, r => den_by_aux rfl r
  | .both _ _, q, r => den_by_aux rfl r
  | .either _ _, q, r => den_by_aux rfl r
  | .later _ _, q, r => den_by_aux rfl r
  | .once _ _, q, r => den_by_aux rfl r
  | .untl _ _, q, r => den_by_aux rfl r
  | .any _, q, r => den_by_aux rfl r
  | .scale _ _, q, r => den_by_aux rfl r
/-- one step of a deal without choosers -/
theorem den_step (p : Pt) (r : List Pt) : ∀ {d : Deal}, d.chs = 0 → ∃ q l, momF p.1 p.2 d = .due q l ∧ l.chs = 0 ∧ den d (p :: r) = q :: den l r
  | .none, _ => ⟨0, .none, rfl, rfl, rfl⟩
  | .coin a, _ => ⟨_, .none, rfl, rfl, rfl⟩
  | .give d, h => by
    obtain ⟨q, l, e, hl, e2⟩ := den_step p r (d := d) h
    refine ⟨0 - q, leftGive l, by unfold momF; rw [e]; rfl, ?_, ?_⟩
    · cases l <;> exact hl
    · show (den d (p :: r)).map _ = _
      rw [e2, List.map_cons, den_leftGive]
  | .both d e, h => by
    have h : d.chs + e.chs = 0 := h
    obtain ⟨q, l, e1, hl, e2⟩ := den_step p r (d := d) (by omega)
    obtain ⟨q', l', e1', hl', e2'⟩ := den_step p r (d := e) (by omega)
    refine ⟨q + q', leftBoth l l', by unfold momF; rw [e1, e1']; rfl, ?_, ?_⟩
    · unfold leftBoth
      split
      · exact hl'
      · split
        · exact hl
        · show l.chs + l'.chs = 0; omega
    · show List.zipWith _ (den d (p :: r)) (den e (p :: r)) = _
      rw [e2, e2', List.zipWith_cons_cons, den_leftBoth]
  | .later 0 d, h => by
    obtain ⟨q, l, e, hl, e2⟩ := den_step p r (d := d) h
    exact ⟨q, l, by unfold momF; rw [if_pos rfl]; exact e, hl, e2⟩
  | .later (n + 1) d, h => ⟨0, .later n d, by unfold momF; rw [if_neg (by omega)]; rfl, h, rfl⟩
  | .once s d, h => by
    by_cases c : s.holds p.1 p.2 = true
    · obtain ⟨q, l, e, hl, e2⟩ := den_step p r (d := d) h
      refine ⟨q, l, by unfold momF; rw [if_pos c]; exact e, hl, ?_⟩
      show onceF s (den d) (p :: r) = _
      unfold onceF
      rw [if_pos c]
      exact e2
    · refine ⟨0, .once s d, by unfold momF; rw [if_neg c], h, ?_⟩
      show onceF s (den d) (p :: r) = 0 :: onceF s (den d) r
      rw [onceF, if_neg c]
  | .untl s d, h => by
    obtain ⟨q, l, e, hl, e2⟩ := den_step p r (d := d) h
    by_cases c : s.holds p.1 p.2 = true
    · refine ⟨0, .none, by unfold momF; rw [if_pos c], rfl, ?_⟩
      show cutU s (p :: r) (den d (p :: r)) = _
      rw [e2, cutU, if_pos c, den_len]
      rfl
    · refine ⟨q, leftUntl s l, by unfold momF; rw [if_neg c, e]; rfl, ?_, ?_⟩
      · unfold leftUntl
        split
        · rfl
        · exact hl
      · show cutU s (p :: r) (den d (p :: r)) = _
        rw [e2, cutU, if_neg c, den_leftUntl]
  | .byq c d, h => by
    obtain ⟨q, l, e, hl, e2⟩ := den_step p r (d := d) h
    refine ⟨c * q, leftBy c l, by unfold momF; rw [e]; rfl, Nat.le_zero.mp (hl ▸ ly_chs l c), ?_⟩
    show (den d (p :: r)).map _ = _
    rw [e2, List.map_cons, den_leftBy]
  | .scale a d, h => by
    obtain ⟨q, l, e, hl, e2⟩ := den_step p r (d := d) h
    refine ⟨((a.val p.1 p.2 : Int) : Rat) * q, leftBy (a.val p.1 p.2 : Int) l, by unfold momF; rw [e]; rfl, Nat.le_zero.mp (hl ▸ ly_chs l _), ?_⟩
    show (den d (p :: r)).map _ = _
    rw [e2, List.map_cons, den_leftBy]
  | .any d, h => by cases (show d.chs + 1 = 0 from h)
  | .either d e, h => by cases (show d.chs + e.chs + 1 = 0 from h)
/-- the whole row -/
theorem settle_den : ∀ (r : List Pt) {d : Deal} (ws : List Nat), d.chs = 0 → settle r d ws = den d r
  | [], d, ws, h => by
    have := den_len d []
    unfold settle
    exact (List.eq_nil_of_length_eq_zero this).symm
  | p :: r, d, ws, h => by
    obtain ⟨q, l, e1, hl, e2⟩ := den_step p r h
    unfold settle
    split
    · rename_i z
      subst z
      rw [settle_den r ws rfl]
      rfl
    · rw [e1, e2]
      show q :: settle r l (ws.drop 0) = _
      rw [settle_den r _ hl]
/-- sizes of dues -/
theorem den_bits : ∀ (r : List Pt) {d : Deal}, (∀ p ∈ r, Bt 30 p.1 ∧ Bt 30 p.2) → d.ok → d.chs = 0 → ∀ x ∈ den d r, BQ d.W x
  | [], d, _, _, _, x, hx => by
    rw [List.eq_nil_of_length_eq_zero (den_len d [])] at hx
    cases hx
  | p :: r, d, hp, ho, hc, x, hx => by
    obtain ⟨q, l, e1, hl, e2⟩ := den_step p r hc
    obtain ⟨b1, b2⟩ := hp p List.mem_cons_self
    have m := mom_ok b1 b2 ho
    rw [e1] at m
    rw [e2] at hx
    rcases List.mem_cons.mp hx with rfl | hx
    · exact m.1
    · exact (den_bits r (fun p hp' => hp p (List.mem_cons_of_mem _ hp')) m.2.2.1 hl x hx).mono m.2.1
/-! ### rows of an unfolding -/
def upF (t : List Nd) : Nat → Nat → List Nat
  | 0, k => [k]
  | f + 1, k => match par t k with
    | none => [k]
    | some b => k :: upF t f b
def up (t : List Nd) (k : Nat) : List Nat := upF t k k
def rowTo (t : List Nd) (k : Nat) : List Nat := (up t k).reverse
theorem upF_fuel {t : List Nd} (h : Ord t) : ∀ (k f : Nat), k ≤ f → upF t f k = upF t k k := by
  intro k
  induction k using Nat.strongRecOn with
  | _ k ih =>
    intro f hf
    cases k with
    | zero =>
      cases f with
      | zero => rfl
      | succ f =>
        unfold upF
        cases e : par t 0 with
        | none => rfl
        | some b => have := par_lt h e; omega
    | succ k =>
      cases f with
      | zero => omega
      | succ f =>
        unfold upF
        cases e : par t (k + 1) with
        | none => rfl
        | some b =>
          have hb := par_lt h e
          show _ :: upF t f b = _ :: upF t k b
          rw [ih b hb f (by omega), ih b hb k (by omega)]
theorem up_none {t : List Nd} {k : Nat} (e : par t k = none) : up t k = [k] := by
  unfold up
  cases k with
  | zero => rfl
  | succ k => unfold upF; rw [e]
theorem up_some {t : List Nd} (h : Ord t) {k b : Nat} (e : par t k = some b) : up t k = k :: up t b := by
  have hb := par_lt h e
  unfold up
  cases k with
  | zero => omega
  | succ k =>
    rw [upF, e]
    show _ :: upF t k b = _
    rw [upF_fuel h b k (by omega)]
theorem up_lt {t : List Nd} (h : Ord t) : ∀ (k : Nat), k < t.length → ∀ j ∈ up t k, j < t.length := by
  intro k
  induction k using Nat.strongRecOn with
  | _ k ih =>
    intro hk j hj
    cases e : par t k with
    | none => rw [up_none e, List.mem_singleton] at hj; omega
    | some b =>
      have hb := par_lt h e
      rw [up_some h e] at hj
      rcases List.mem_cons.mp hj with rfl | hj
      · exact hk
      · exact ih b hb (by omega) j hj
theorem up_len {t : List Nd} (h : Ord t) : ∀ (k : Nat), (up t k).length = tm t k + 1 := by
  intro k
  induction k using Nat.strongRecOn with
  | _ k ih =>
    cases e : par t k with
    | none => rw [up_none e, tm_none e]; rfl
    | some b => rw [up_some h e, tm_some h e, List.length_cons, ih b (par_lt h e)]
def ptsOf (t : List Nd) (l : List Nat) : List Pt := l.map fun n => (prc t n, (tm t n : Int))
def endsF (t : List Nd) : List Nat := (List.range t.length).filter fun k => decide (nexts t k = [])
theorem range_zip {α : Type} (xs : List α) (g : α → D) (d0 : α) : enumL (xs.map g) = (List.range xs.length).map fun i => PyData.tuple [.int (i : Nat), g (xs.getD i d0)] := by
  refine List.ext_getElem? fun i => ?_
  rw [enumL_map, List.getElem?_map, List.getElem?_map]
  by_cases h : i < xs.length
  · rw [List.getElem?_range h, List.getElem?_zipIdx]
    rw [List.getElem?_eq_getElem h]
    simp [List.getD, List.getElem?_eq_getElem h]
  · have h1 : xs.zipIdx[i]? = none := by rw [List.getElem?_eq_none_iff, List.length_zipIdx]; omega
    have h2 : (List.range xs.length)[i]? = none := by rw [List.getElem?_eq_none_iff, List.length_range]; omega
    rw [h1, h2]
    rfl
end DL

/-! The cover in plain words. -/
namespace DL
open PySem PySem.Spec PyProof.Rows L2
variable [NX.TabsC]
def gr (p q : Rat) : Rat := if p < q then q else p
theorem gr_l (p q : Rat) : p ≤ gr p q := by unfold gr; split <;> grind
theorem gr_r (p q : Rat) : q ≤ gr p q := by unfold gr; split <;> grind
theorem gr_or (p q : Rat) : gr p q = p ∨ gr p q = q := by unfold gr; split <;> simp
theorem gr_comm (p q : Rat) : gr p q = gr q p := by unfold gr; grind
theorem gr_self (p : Rat) : gr p p = p := by unfold gr; simp
theorem BQ.gr {k : Nat} {p q : Rat} (hp : BQ k p) (hq : BQ k q) : BQ k (gr p q) := by
  rcases gr_or p q with e | e <;> rw [e] <;> assumption
theorem divInt_sub (a b : Int) : Rat.divInt a b = (a : Rat) / (b : Rat) := Rat.divInt_eq_div a b
abbrev CPt : Type := Int × Rat
def mean (x : Int) (p q : CPt) : Rat := if p.1 = q.1 then gr p.2 q.2 else p.2 + Rat.divInt (x - p.1) (q.1 - p.1) * (q.2 - p.2)
theorem cast_ne {a b : Int} (h : a ≠ b) : ((b : Rat) - (a : Rat)) ≠ 0 := by
  intro z
  apply h
  have : ((b - a : Int) : Rat) = ((0 : Int) : Rat) := by rw [Rat.intCast_sub]; simpa using z
  have := Rat.intCast_inj.mp this
  omega
theorem mean_ne {x : Int} {p q : CPt} (h : p.1 ≠ q.1) : (mean x p q) * ((q.1 : Rat) - (p.1 : Rat)) = p.2 * ((q.1 : Rat) - x) + q.2 * ((x : Rat) - p.1) := by
  unfold mean
  rw [if_neg h, Rat.divInt_eq_div, Rat.intCast_sub, Rat.intCast_sub]
  have hz := cast_ne h
  have e : ((x : Rat) - p.1) / ((q.1 : Rat) - p.1) * ((q.1 : Rat) - p.1) = (x : Rat) - p.1 := Rat.div_mul_cancel hz
  grind
theorem mul_cancel {a b c : Rat} (hc : c ≠ 0) (h : a * c = b * c) : a = b := by
  have e : (a * c) / c = (b * c) / c := by rw [h]
  rwa [Rat.mul_div_cancel hc, Rat.mul_div_cancel hc] at e
theorem mean_symm (x : Int) (p q : CPt) : mean x p q = mean x q p := by
  by_cases h : p.1 = q.1
  · unfold mean
    rw [if_pos h, if_pos h.symm, gr_comm]
  · apply mul_cancel (cast_ne h)
    have h1 := mean_ne (x := x) h
    have h2 := mean_ne (x := x) (p := q) (q := p) (fun z => h z.symm)
    grind
theorem mean_self (x : Int) (p : CPt) : mean x p p = p.2 := by
  unfold mean
  rw [if_pos rfl, gr_self]
theorem BQ.mean {k : Nat} {x : Int} {p q : CPt} (hp : BQ k p.2) (hq : BQ k q.2) (hx : Bt 31 x) (h1 : Bt 31 p.1) (h2 : Bt 31 q.1) : BQ (4 * k + 67) (mean x p q) := by
  unfold DL.mean
  split
  · exact (BQ.gr hp hq).mono (by omega)
  · rename_i h
    have b1 : BQ 32 (Rat.divInt (x - p.1) (q.1 - p.1)) := BQ.divInt (hx.sub h1) (h2.sub h1) (by omega)
    exact (BQ.add (k := 32 + (k + k + 1)) (hp.mono (by omega)) (BQ.mul b1 (BQ.sub hq hp))).mono (by omega)
structure IsCover (x : Int) (pts : List CPt) (c : Rat) : Prop where
  le : ∀ p ∈ pts, ∀ q ∈ pts, p.1 ≤ x → x ≤ q.1 → mean x p q ≤ c
  ex : ∃ p ∈ pts, ∃ q ∈ pts, p.1 ≤ x ∧ x ≤ q.1 ∧ mean x p q = c
theorem IsCover.uniq {x : Int} {pts : List CPt} {c d : Rat} (h : IsCover x pts c) (h2 : IsCover x pts d) : c = d := by
  obtain ⟨p, hp, q, hq, a, b, e⟩ := h.ex
  obtain ⟨p', hp', q', hq', a', b', e'⟩ := h2.ex
  have := h.le p' hp' q' hq' a' b'
  have := h2.le p hp q hq a b
  grind
theorem IsCover.of_mem {x : Int} {pts pts2 : List CPt} {c : Rat} (h : IsCover x pts c) (m : ∀ p, p ∈ pts ↔ p ∈ pts2) : IsCover x pts2 c :=
  ⟨fun p hp q hq => h.le p ((m p).mpr hp) q ((m q).mpr hq), by
    obtain ⟨p, hp, q, hq, r⟩ := h.ex
    exact ⟨p, (m p).mp hp, q, (m q).mp hq, r⟩⟩
/-! ### the pairs -/
def aboutB (x : Int) (p q : CPt) : Bool := decide (min2 p.1 q.1 ≤ x) && decide (x ≤ max2 p.1 q.1)
def aboutP (x : Int) (pts : List CPt) (i j : Nat) : Bool := match pts[i]?, pts[j]? with
  | some p, some q => aboutB x p q
  | _, _ => false
def rowP (x : Int) (pts : List CPt) (i : Nat) (m : Nat) : List (Nat × Nat) := ((List.range m).filter fun j => aboutP x pts i (i + j)).map fun j => (i, i + j)
def pairsTo (x : Int) (pts : List CPt) (n : Nat) : List (Nat × Nat) := (List.range n).flatMap fun i => rowP x pts i (pts.length - i)
def pairs (x : Int) (pts : List CPt) : List (Nat × Nat) := pairsTo x pts pts.length
theorem rowP_succ (x : Int) (pts : List CPt) (i m : Nat) : rowP x pts i (m + 1) = rowP x pts i m ++ (bif aboutP x pts i (i + m) then [(i, i + m)] else []) := by
  unfold rowP
  rw [List.range_succ, List.filter_append, List.map_append]
  congr 1
  rw [List.filter_cons]
  cases aboutP x pts i (i + m) <;> rfl
theorem pairsTo_succ (x : Int) (pts : List CPt) (n : Nat) : pairsTo x pts (n + 1) = pairsTo x pts n ++ rowP x pts n (pts.length - n) := by
  unfold pairsTo
  rw [List.range_succ, List.flatMap_append]
  simp
theorem mem_pairs {x : Int} {pts : List CPt} {i j : Nat} : (i, j) ∈ pairs x pts ↔ i ≤ j ∧ aboutP x pts i j = true := by
  unfold pairs pairsTo rowP
  simp only [List.mem_flatMap, List.mem_map, List.mem_filter, List.mem_range, Prod.mk.injEq]
  constructor
  · rintro ⟨a, ha, b, ⟨hb, hc⟩, rfl, rfl⟩
    exact ⟨by omega, hc⟩
  · rintro ⟨h1, h2⟩
    have hj : j < pts.length := by
      unfold aboutP at h2
      cases e : pts[j]? with
      | none =>
        rw [e] at h2
        cases e2 : pts[i]? with
        | none => rw [e2] at h2; cases h2
        | some _ => rw [e2] at h2; cases h2
      | some q => exact get_lt e
    exact ⟨i, by omega, j - i, ⟨by omega, by rw [show i + (j - i) = j by omega]; exact h2⟩, rfl, by omega⟩
def pt (pts : List CPt) (i : Nat) : CPt := pts[i]?.getD (0, 0)
theorem pt_of {pts : List CPt} {i : Nat} {p : CPt} (h : pts[i]? = some p) : pt pts i = p := by unfold pt; rw [h]; rfl
theorem about_iff {x : Int} {p q : CPt} : aboutB x p q = true ↔ (p.1 ≤ x ∧ x ≤ q.1) ∨ (q.1 ≤ x ∧ x ≤ p.1) := by
  unfold aboutB min2 max2
  rw [Bool.and_eq_true, decide_eq_true_eq, decide_eq_true_eq]
  split <;> split <;> omega
theorem aboutP_get {x : Int} {pts : List CPt} {i j : Nat} (h : aboutP x pts i j = true) : ∃ p q, pts[i]? = some p ∧ pts[j]? = some q ∧ aboutB x p q = true := by
  unfold aboutP at h
  cases e : pts[i]? with
  | none => rw [e] at h; cases h
  | some p =>
    cases e2 : pts[j]? with
    | none => rw [e, e2] at h; cases h
    | some q => rw [e, e2] at h; exact ⟨p, q, rfl, rfl, h⟩
theorem aboutP_of {x : Int} {pts : List CPt} {i j : Nat} {p q : CPt} (e : pts[i]? = some p) (e2 : pts[j]? = some q) : aboutP x pts i j = aboutB x p q := by
  unfold aboutP
  rw [e, e2]
def means (x : Int) (pts : List CPt) : List Rat := (pairs x pts).map fun ij => mean x (pt pts ij.1) (pt pts ij.2)
def cov (x : Int) (pts : List CPt) : Rat := (means x pts).foldl gr ((means x pts).headD 0)
theorem fold_le (l : List Rat) : ∀ s, s ≤ l.foldl gr s ∧ ∀ m ∈ l, m ≤ l.foldl gr s := by
  induction l with
  | nil => intro s; exact ⟨by grind, fun m h => by cases h⟩
  | cons a r ih =>
    intro s
    obtain ⟨h1, h2⟩ := ih (gr s a)
    have := gr_l s a
    have := gr_r s a
    refine ⟨by rw [List.foldl_cons]; grind, fun m hm => ?_⟩
    rw [List.foldl_cons]
    rcases List.mem_cons.mp hm with rfl | h
    · grind
    · exact h2 m h
theorem fold_mem (l : List Rat) : ∀ s, l.foldl gr s = s ∨ l.foldl gr s ∈ l := by
  induction l with
  | nil => intro s; exact .inl rfl
  | cons a r ih =>
    intro s
    rw [List.foldl_cons]
    rcases ih (gr s a) with h | h
    · rcases gr_or s a with e | e
      · exact .inl (by rw [h, e])
      · exact .inr (by rw [h, e]; exact List.mem_cons_self)
    · exact .inr (List.mem_cons_of_mem _ h)
def Sided (x : Int) (pts : List CPt) : Prop := (∃ p ∈ pts, p.1 ≤ x) ∧ ∃ q ∈ pts, x ≤ q.1
theorem mean_mem {x : Int} {pts : List CPt} {p q : CPt} (hp : p ∈ pts) (hq : q ∈ pts) (h1 : p.1 ≤ x) (h2 : x ≤ q.1) : mean x p q ∈ means x pts := by
  obtain ⟨i, ei⟩ := mem_get hp
  obtain ⟨j, ej⟩ := mem_get hq
  unfold means
  rw [List.mem_map]
  rcases Nat.le_total i j with h | h
  · exact ⟨(i, j), mem_pairs.mpr ⟨h, by rw [aboutP_of ei ej]; exact about_iff.mpr (.inl ⟨h1, h2⟩)⟩, by rw [pt_of ei, pt_of ej]⟩
  · exact ⟨(j, i), mem_pairs.mpr ⟨h, by rw [aboutP_of ej ei]; exact about_iff.mpr (.inr ⟨h1, h2⟩)⟩, by rw [pt_of ei, pt_of ej, mean_symm]⟩
theorem mem_means {x : Int} {pts : List CPt} {m : Rat} (h : m ∈ means x pts) : ∃ p ∈ pts, ∃ q ∈ pts, p.1 ≤ x ∧ x ≤ q.1 ∧ mean x p q = m := by
  unfold means at h
  obtain ⟨⟨i, j⟩, hm, e⟩ := List.mem_map.mp h
  obtain ⟨hl, ha⟩ := mem_pairs.mp hm
  obtain ⟨p, q, ep, eq, hab⟩ := aboutP_get ha
  rw [pt_of ep, pt_of eq] at e
  rcases about_iff.mp hab with ⟨a, b⟩ | ⟨a, b⟩
  · exact ⟨p, get_mem ep, q, get_mem eq, a, b, e⟩
  · exact ⟨q, get_mem eq, p, get_mem ep, a, b, by rw [mean_symm]; exact e⟩
theorem means_ne {x : Int} {pts : List CPt} (h : Sided x pts) : means x pts ≠ [] := by
  obtain ⟨⟨p, hp, h1⟩, q, hq, h2⟩ := h
  exact List.ne_nil_of_mem (mean_mem hp hq h1 h2)
theorem cov_mem {x : Int} {pts : List CPt} (h : Sided x pts) : cov x pts ∈ means x pts := by
  unfold cov
  rcases fold_mem (means x pts) ((means x pts).headD 0) with e | e
  · rw [e]
    have := means_ne h
    cases q : means x pts with
    | nil => exact absurd q this
    | cons a r => exact List.mem_cons_self
  · exact e
theorem cov_is {x : Int} {pts : List CPt} (h : Sided x pts) : IsCover x pts (cov x pts) :=
  ⟨fun p hp q hq a b => (fold_le _ _).2 _ (mean_mem hp hq a b), mem_means (cov_mem h)⟩
theorem Sided.of_mem {x : Int} {pts pts2 : List CPt} (h : Sided x pts) (m : ∀ p, p ∈ pts ↔ p ∈ pts2) : Sided x pts2 := by
  obtain ⟨⟨p, hp, h1⟩, q, hq, h2⟩ := h
  exact ⟨⟨p, (m p).mp hp, h1⟩, q, (m q).mp hq, h2⟩
theorem cov_rev {x : Int} {pts : List CPt} (h : Sided x pts) : cov x pts.reverse = cov x pts :=
  (cov_is (h.of_mem fun _ => List.mem_reverse.symm)).uniq ((cov_is h).of_mem fun _ => List.mem_reverse.symm)
structure PtsOk (k : Nat) (x : Int) (pts : List CPt) : Prop where
  x : Bt 31 x
  p : ∀ p ∈ pts, Bt 31 p.1
  v : ∀ p ∈ pts, BQ k p.2
  l : pts.length ≤ 100
theorem PtsOk.rev {k : Nat} {x : Int} {pts : List CPt} (h : PtsOk k x pts) : PtsOk k x pts.reverse :=
  ⟨h.x, fun p hp => h.p p (List.mem_reverse.mp hp), fun p hp => h.v p (List.mem_reverse.mp hp), by rw [List.length_reverse]; exact h.l⟩
theorem BQ.means {k : Nat} {x : Int} {pts : List CPt} (h : PtsOk k x pts) {m : Rat} (hm : m ∈ means x pts) : BQ (4 * k + 67) m := by
  obtain ⟨p, hp, q, hq, _, _, rfl⟩ := mem_means hm
  exact BQ.mean (h.v p hp) (h.v q hq) h.x (h.p p hp) (h.p q hq)
theorem BQ.cov {k : Nat} {x : Int} {pts : List CPt} (h : PtsOk k x pts) (hs : Sided x pts) : BQ (4 * k + 67) (cov x pts) := BQ.means h (cov_mem hs)
/-! ### the law's own going -/
def lowQ (x : Int) (c : Rat) (p : CPt) : Rat := Rat.divInt (p.2 - c).num ((p.2 - c).den * (p.1 - x))
def highQ (x : Int) (c : Rat) (p : CPt) : Rat := Rat.divInt (0 - (p.2 - c).num) ((p.2 - c).den * (x - p.1))
def lowsOf (x : Int) (c : Rat) (pts : List CPt) : List Rat := (pts.filter fun p => decide (x < p.1)).map (lowQ x c)
def highsOf (x : Int) (c : Rat) (pts : List CPt) : List Rat := (pts.filter fun p => decide (p.1 < x)).map (highQ x c)
def flatsOf (x : Int) (c : Rat) (pts : List CPt) : List Rat := (pts.filter fun p => decide (p.1 = x)).map fun p => p.2 - c
theorem divInt_den_mul (q : Rat) (d : Int) (hd : d ≠ 0) : Rat.divInt q.num (q.den * d) = q / (d : Rat) := by
  rw [Rat.divInt_eq_div, Rat.intCast_mul]
  have hz : ((q.den : Int) : Rat) ≠ 0 := by
    have := q.den_pos
    intro z
    have := Rat.intCast_inj.mp (show ((q.den : Int) : Rat) = ((0 : Int) : Rat) by simpa using z)
    omega
  have e : (q.num : Rat) = q * ((q.den : Int) : Rat) := by
    have h1 := Rat.divInt_eq_div q.num q.den
    rw [Rat.num_divInt_den] at h1
    have h2 := Rat.div_mul_cancel (a := (q.num : Rat)) hz
    rw [← h1] at h2
    exact h2.symm
  have hd2 : (d : Rat) ≠ 0 := by
    intro z
    exact hd (Rat.intCast_inj.mp (show (d : Rat) = ((0 : Int) : Rat) by simpa using z))
  apply mul_cancel (c := ((q.den : Int) : Rat) * d) (by grind)
  rw [Rat.div_mul_cancel (by grind), e]
  have := Rat.div_mul_cancel (a := q) hd2
  grind
theorem lowQ_eq {x : Int} {c : Rat} {p : CPt} (h : x < p.1) : lowQ x c p = (p.2 - c) / ((p.1 : Rat) - x) := by
  unfold lowQ
  rw [divInt_den_mul _ _ (by omega), Rat.intCast_sub]
theorem highQ_eq {x : Int} {c : Rat} {p : CPt} (h : p.1 < x) : highQ x c p = (c - p.2) / ((x : Rat) - p.1) := by
  unfold highQ
  have e : 0 - (p.2 - c).num = (-(p.2 - c)).num := by rw [Rat.neg_num]; omega
  have e2 : ((p.2 - c).den) = (-(p.2 - c)).den := by rw [Rat.neg_den]
  rw [e, e2, divInt_den_mul _ _ (by omega), Rat.intCast_sub]
  congr 1
  grind
theorem cast_pos {a b : Int} (h : a < b) : (0 : Rat) < (b : Rat) - (a : Rat) := by
  have := Rat.intCast_lt_intCast.mpr h
  grind
theorem le_core {L H a b c u v : Rat} (ha : 0 < a) (hb : 0 < b) (e1 : L * b = v - c) (e2 : H * a = c - u) (m : u * b + v * a ≤ c * (a + b)) : L ≤ H := by
  rcases Rat.le_total (a := L) (b := H) with h1 | h1
  · exact h1
  · have h2 := Rat.mul_le_mul_of_nonneg_right h1 (c := b * a) (Rat.mul_nonneg (by grind) (by grind))
    have e4 : L * (b * a) = (v - c) * a := by rw [← e1]; grind
    have e5 : H * (b * a) = (c - u) * b := by rw [← e2]; grind
    have hz : b * a ≠ 0 := by
      have := Rat.mul_pos hb ha
      grind
    have e3 : L = H := mul_cancel hz (by grind)
    rw [e3]
    exact Rat.le_refl
theorem eq_core {L H a b c u v : Rat} (ha : 0 < a) (hb : 0 < b) (e1 : L * b = v - c) (e2 : H * a = c - u) (m : u * b + v * a = c * (a + b)) : L = H := by
  have e4 : L * (b * a) = (v - c) * a := by rw [← e1]; grind
  have e5 : H * (b * a) = (c - u) * b := by rw [← e2]; grind
  have hz : b * a ≠ 0 := by
    have := Rat.mul_pos hb ha
    grind
  exact mul_cancel hz (by grind)
theorem low_le_high {x : Int} {c : Rat} {p q : CPt} (hp : p.1 < x) (hq : x < q.1) (h : mean x p q ≤ c) : lowQ x c q ≤ highQ x c p := by
  rw [lowQ_eq hq, highQ_eq hp]
  have a := cast_pos hp
  have b := cast_pos hq
  have m := mean_ne (x := x) (p := p) (q := q) (by omega)
  have hm := Rat.mul_le_mul_of_nonneg_right h (c := (q.1 : Rat) - p.1) (by grind)
  exact le_core a b (Rat.div_mul_cancel (by grind)) (Rat.div_mul_cancel (by grind)) (by grind)
theorem low_eq_high {x : Int} {c : Rat} {p q : CPt} (hp : p.1 < x) (hq : x < q.1) (h : mean x p q = c) : lowQ x c q = highQ x c p := by
  rw [lowQ_eq hq, highQ_eq hp]
  have a := cast_pos hp
  have b := cast_pos hq
  have m := mean_ne (x := x) (p := p) (q := q) (by omega)
  rw [h] at m
  exact eq_core a b (Rat.div_mul_cancel (by grind)) (Rat.div_mul_cancel (by grind)) (by grind)
theorem mean_left {x : Int} {p q : CPt} (h : p.1 = x) (hq : x < q.1) : mean x p q = p.2 := by
  unfold mean
  rw [if_neg (by omega), show x - p.1 = 0 by omega, Rat.zero_divInt]
  grind
theorem mean_right {x : Int} {p q : CPt} (hp : p.1 < x) (h : q.1 = x) : mean x p q = q.2 := by
  rw [mean_symm]
  have m := mean_ne (x := x) (p := p) (q := q) (by omega)
  have := mean_symm x p q
  rw [← this]
  apply mul_cancel (c := (q.1 : Rat) - p.1) (by have := cast_pos (show p.1 < q.1 by omega); grind)
  rw [m, h]
  grind
theorem cov_flats {x : Int} {pts : List CPt} {c : Rat} (h : IsCover x pts c) : ∀ f ∈ flatsOf x c pts, f ≤ 0 := by
  intro f hf
  obtain ⟨p, hp, rfl⟩ := List.mem_map.mp hf
  obtain ⟨hp, e⟩ := List.mem_filter.mp hp
  have e := of_decide_eq_true e
  have := h.le p hp p hp (by omega) (by omega)
  rw [mean_self] at this
  grind
theorem cov_lows {x : Int} {pts : List CPt} {c : Rat} (h : IsCover x pts c) : ∀ l ∈ lowsOf x c pts, ∀ g ∈ highsOf x c pts, l ≤ g := by
  intro l hl g hg
  obtain ⟨q, hq, rfl⟩ := List.mem_map.mp hl
  obtain ⟨p, hp, rfl⟩ := List.mem_map.mp hg
  obtain ⟨hq, e⟩ := List.mem_filter.mp hq
  obtain ⟨hp, e2⟩ := List.mem_filter.mp hp
  have e := of_decide_eq_true e
  have e2 := of_decide_eq_true e2
  exact low_le_high e2 e (h.le p hp q hq (by omega) (by omega))
theorem cov_meets {x : Int} {pts : List CPt} {c : Rat} (h : IsCover x pts c) : (0 : Rat) ∈ flatsOf x c pts ∨ ∃ l ∈ lowsOf x c pts, l ∈ highsOf x c pts := by
  obtain ⟨p, hp, q, hq, a, b, e⟩ := h.ex
  have fl : ∀ r : CPt, r ∈ pts → r.1 = x → r.2 = c → (0 : Rat) ∈ flatsOf x c pts := fun r hr e1 e2 =>
    List.mem_map.mpr ⟨r, List.mem_filter.mpr ⟨hr, decide_eq_true e1⟩, by rw [e2]; grind⟩
  rcases Int.lt_or_eq_of_le a with a | a
  · rcases Int.lt_or_eq_of_le b with b | b
    · right
      exact ⟨lowQ x c q, List.mem_map.mpr ⟨q, List.mem_filter.mpr ⟨hq, decide_eq_true b⟩, rfl⟩, List.mem_map.mpr ⟨p, List.mem_filter.mpr ⟨hp, decide_eq_true a⟩, (low_eq_high a b e).symm⟩⟩
    · exact .inl (fl q hq b.symm (by rw [← e, mean_right a b.symm]))
  · rcases Int.lt_or_eq_of_le b with b | b
    · exact .inl (fl p hp a (by rw [← e, mean_left a b]))
    · left
      unfold mean at e
      rw [if_pos (by omega)] at e
      rcases gr_or p.2 q.2 with g | g
      · exact fl p hp a (by rw [← e, g])
      · exact fl q hq b.symm (by rw [← e, g])
end DL
namespace DL
open PySem PySem.Spec PyProof.Rows L2
variable [NX.TabsC]
def ijD (p : Nat × Nat) : D := .tuple [.int (p.1 : Nat), .int (p.2 : Nat)]
theorem rowP_len (x : Int) (pts : List CPt) (i m : Nat) : (rowP x pts i m).length ≤ m := by
  unfold rowP
  rw [List.length_map]
  have := List.length_filter_le (fun j => aboutP x pts i (i + j)) (List.range m)
  rw [List.length_range] at this
  exact this
theorem pairsTo_len (x : Int) (pts : List CPt) (n : Nat) : (pairsTo x pts n).length ≤ n * pts.length := by
  induction n with
  | zero => exact Nat.zero_le _
  | succ n ih =>
    rw [pairsTo_succ, List.length_append, Nat.succ_mul]
    have := rowP_len x pts n (pts.length - n)
    omega
end DL

/-! The part that does, in plain words. -/
namespace DL
open PySem PySem.Spec PyProof.Rows L2
variable [NX.TabsC]
theorem cast_ne0 {a : Int} (h : a ≠ 0) : (a : Rat) ≠ 0 := by
  intro z
  exact h (Rat.intCast_inj.mp (show (a : Rat) = ((0 : Int) : Rat) by simpa using z))
theorem num_eq (q : Rat) : (q.num : Rat) = q * ((q.den : Int) : Rat) := by
  have h1 := Rat.divInt_eq_div q.num q.den
  rw [Rat.num_divInt_den] at h1
  have h2 := Rat.div_mul_cancel (a := (q.num : Rat)) (cast_ne0 (den_ne q))
  rw [← h1] at h2
  exact h2.symm
theorem num_ne {q : Rat} (h : q ≠ 0) : q.num ≠ 0 := by
  intro z
  apply h
  have e := num_eq q
  rw [z] at e
  have h2 := cast_ne0 (den_ne q)
  apply mul_cancel h2
  rw [← e]
  simp
theorem div_divInt (p q : Rat) (h : q ≠ 0) : Rat.divInt (p.num * q.den) (p.den * q.num) = p / q := by
  rw [Rat.divInt_eq_div, Rat.intCast_mul, Rat.intCast_mul, num_eq p, num_eq q]
  have h1 := cast_ne0 (den_ne p)
  have h2 := cast_ne0 (den_ne q)
  have e1 := Rat.div_mul_cancel (a := p) h
  have hz : ((p.den : Int) : Rat) * (q * ((q.den : Int) : Rat)) ≠ 0 := by grind
  have e2 := Rat.div_mul_cancel (a := p * ((p.den : Int) : Rat) * ((q.den : Int) : Rat)) hz
  apply mul_cancel hz
  rw [e2]
  grind
theorem BQ.div {k l : Nat} {p q : Rat} (hp : BQ k p) (hq : BQ l q) (h : q ≠ 0) : BQ (k + l) (p / q) := by
  rw [← div_divInt p q h]
  exact BQ.divInt (hp.n.mul hq.d) (hp.d.mul hq.n) (Int.mul_ne_zero (den_ne p) (num_ne h))
theorem divInt_one (n : Int) : Rat.divInt n 1 = (n : Rat) := by
  rw [Rat.divInt_eq_div]
  apply mul_cancel (c := ((1 : Int) : Rat)) (cast_ne0 (by decide))
  rw [Rat.div_mul_cancel (cast_ne0 (by decide))]
  simp
def partQ (x : Int) (c : Rat) (p : CPt) : Rat := (p.2 - c) / ((p.1 - x : Int) : Rat)
theorem partQ_mul {x : Int} {c : Rat} {p : CPt} (h : p.1 ≠ x) : partQ x c p * ((p.1 - x : Int) : Rat) = p.2 - c := Rat.div_mul_cancel (cast_ne0 (by omega))
def optD : Option Rat → D
  | none => .none
  | some r => qD r
/-- the greatest of those above -/
def stU (x : Int) (c : Rat) (o : Option Rat) (p : CPt) : Option Rat := if x < p.1 then some (match o with | none => partQ x c p | some r => if r < partQ x c p then partQ x c p else r) else o
def stD (x : Int) (c : Rat) (o : Option Rat) (p : CPt) : Option Rat := if p.1 < x then some (match o with | none => partQ x c p | some r => if partQ x c p < r then partQ x c p else r) else o
def upP (x : Int) (c : Rat) (pts : List CPt) : Option Rat := pts.foldl (stU x c) none
def downP (x : Int) (c : Rat) (pts : List CPt) : Option Rat := pts.foldl (stD x c) none
def partOf (x : Int) (c : Rat) (pts : List CPt) : Rat := match upP x c pts with
  | some r => r
  | none => match downP x c pts with
    | some r => r
    | none => 0
theorem up_spec (x : Int) (c : Rat) (pts : List CPt) : ∀ k, k ≤ pts.length → match upP x c (pts.take k) with
    | some r => (∃ p ∈ pts.take k, x < p.1 ∧ partQ x c p = r) ∧ ∀ p ∈ pts.take k, x < p.1 → partQ x c p ≤ r
    | none => ∀ p ∈ pts.take k, ¬ x < p.1 := by
  intro k
  induction k with
  | zero => intro _; rw [List.take_zero]; intro p hp; cases hp
  | succ k ih =>
    intro hk
    have ih := ih (by omega)
    obtain ⟨p, hp⟩ : ∃ p, pts[k]? = some p := ⟨_, List.getElem?_eq_getElem (by omega)⟩
    rw [take_succ_of hp]
    unfold upP at ih ⊢
    rw [List.foldl_append, List.foldl_cons, List.foldl_nil]
    have mem : ∀ q, q ∈ pts.take k ++ [p] ↔ q ∈ pts.take k ∨ q = p := fun q => by rw [List.mem_append, List.mem_singleton]
    cases e : (pts.take k).foldl (stU x c) none with
    | none =>
      rw [e] at ih
      unfold stU
      by_cases h : x < p.1
      · rw [if_pos h]
        refine ⟨⟨p, (mem p).mpr (.inr rfl), h, rfl⟩, fun q hq hx => ?_⟩
        rcases (mem q).mp hq with hq | rfl
        · exact absurd hx (ih q hq)
        · exact Rat.le_refl
      · rw [if_neg h]
        intro q hq
        rcases (mem q).mp hq with hq | rfl
        · exact ih q hq
        · exact h
    | some r =>
      rw [e] at ih
      obtain ⟨⟨p0, h0, h1, h2⟩, h3⟩ := ih
      unfold stU
      by_cases h : x < p.1
      · rw [if_pos h]
        by_cases hl : r < partQ x c p
        · simp only [if_pos hl]
          refine ⟨⟨p, (mem p).mpr (.inr rfl), h, rfl⟩, fun q hq hx => ?_⟩
          rcases (mem q).mp hq with hq | rfl
          · have := h3 q hq hx; grind
          · exact Rat.le_refl
        · simp only [if_neg hl]
          refine ⟨⟨p0, (mem p0).mpr (.inl h0), h1, h2⟩, fun q hq hx => ?_⟩
          rcases (mem q).mp hq with hq | rfl
          · exact h3 q hq hx
          · grind
      · rw [if_neg h]
        refine ⟨⟨p0, (mem p0).mpr (.inl h0), h1, h2⟩, fun q hq hx => ?_⟩
        rcases (mem q).mp hq with hq | rfl
        · exact h3 q hq hx
        · exact absurd hx h
theorem down_spec (x : Int) (c : Rat) (pts : List CPt) : ∀ k, k ≤ pts.length → match downP x c (pts.take k) with
    | some r => (∃ p ∈ pts.take k, p.1 < x ∧ partQ x c p = r) ∧ ∀ p ∈ pts.take k, p.1 < x → r ≤ partQ x c p
    | none => ∀ p ∈ pts.take k, ¬ p.1 < x := by
  intro k
  induction k with
  | zero => intro _; rw [List.take_zero]; intro p hp; cases hp
  | succ k ih =>
    intro hk
    have ih := ih (by omega)
    obtain ⟨p, hp⟩ : ∃ p, pts[k]? = some p := ⟨_, List.getElem?_eq_getElem (by omega)⟩
    rw [take_succ_of hp]
    unfold downP at ih ⊢
    rw [List.foldl_append, List.foldl_cons, List.foldl_nil]
    have mem : ∀ q, q ∈ pts.take k ++ [p] ↔ q ∈ pts.take k ∨ q = p := fun q => by rw [List.mem_append, List.mem_singleton]
    cases e : (pts.take k).foldl (stD x c) none with
    | none =>
      rw [e] at ih
      unfold stD
      by_cases h : p.1 < x
      · rw [if_pos h]
        refine ⟨⟨p, (mem p).mpr (.inr rfl), h, rfl⟩, fun q hq hx => ?_⟩
        rcases (mem q).mp hq with hq | rfl
        · exact absurd hx (ih q hq)
        · exact Rat.le_refl
      · rw [if_neg h]
        intro q hq
        rcases (mem q).mp hq with hq | rfl
        · exact ih q hq
        · exact h
    | some r =>
      rw [e] at ih
      obtain ⟨⟨p0, h0, h1, h2⟩, h3⟩ := ih
      unfold stD
      by_cases h : p.1 < x
      · rw [if_pos h]
        by_cases hl : partQ x c p < r
        · simp only [if_pos hl]
          refine ⟨⟨p, (mem p).mpr (.inr rfl), h, rfl⟩, fun q hq hx => ?_⟩
          rcases (mem q).mp hq with hq | rfl
          · have := h3 q hq hx; grind
          · exact Rat.le_refl
        · simp only [if_neg hl]
          refine ⟨⟨p0, (mem p0).mpr (.inl h0), h1, h2⟩, fun q hq hx => ?_⟩
          rcases (mem q).mp hq with hq | rfl
          · exact h3 q hq hx
          · grind
      · rw [if_neg h]
        refine ⟨⟨p0, (mem p0).mpr (.inl h0), h1, h2⟩, fun q hq hx => ?_⟩
        rcases (mem q).mp hq with hq | rfl
        · exact h3 q hq hx
        · exact absurd hx h
theorem BQ.partQ {k : Nat} {x : Int} {c : Rat} {p : CPt} (hp : BQ k p.2) (hc : BQ k c) (hx : Bt 31 x) (h1 : Bt 31 p.1) (h : p.1 ≠ x) : BQ (2 * k + 33) (partQ x c p) :=
  (BQ.div (BQ.sub hp hc) (BQ.int (h1.sub hx) (by decide)) (cast_ne0 (by omega))).mono (by omega)
theorem BQ.up {k : Nat} {x : Int} {c : Rat} {pts : List CPt} (ho : PtsOk k x pts) (hc : BQ k c) {j : Nat} (hj : j ≤ pts.length) {r : Rat} (e : upP x c (pts.take j) = some r) : BQ (2 * k + 33) r := by
  have h := up_spec x c pts j hj
  rw [e] at h
  obtain ⟨⟨p, hp, h1, rfl⟩, _⟩ := h
  have hp := List.mem_of_mem_take hp
  exact BQ.partQ (ho.v p hp) hc ho.x (ho.p p hp) (by omega)
theorem BQ.down {k : Nat} {x : Int} {c : Rat} {pts : List CPt} (ho : PtsOk k x pts) (hc : BQ k c) {j : Nat} (hj : j ≤ pts.length) {r : Rat} (e : downP x c (pts.take j) = some r) : BQ (2 * k + 33) r := by
  have h := down_spec x c pts j hj
  rw [e] at h
  obtain ⟨⟨p, hp, h1, rfl⟩, _⟩ := h
  have hp := List.mem_of_mem_take hp
  exact BQ.partQ (ho.v p hp) hc ho.x (ho.p p hp) (by omega)
theorem BQ.zero {k : Nat} (h : 0 < k) : BQ k 0 := ⟨by show (0 : Int).natAbs < 2 ^ k; exact Nat.two_pow_pos k, by show ((1 : Nat) : Int).natAbs < 2 ^ k; exact Nat.one_lt_two_pow (by omega)⟩
theorem BQ.partOf {k : Nat} {x : Int} {c : Rat} {pts : List CPt} (ho : PtsOk k x pts) (hc : BQ k c) : BQ (2 * k + 33) (partOf x c pts) := by
  unfold DL.partOf
  cases e : upP x c pts with
  | some r => exact BQ.up ho hc (Nat.le_refl _) (by rw [List.take_length]; exact e)
  | none =>
    cases e2 : downP x c pts with
    | some r => exact BQ.down ho hc (Nat.le_refl _) (by rw [List.take_length]; exact e2)
    | none => exact BQ.zero (by omega)
/-- what the law asks of a part -/
structure Told (x : Int) (pts : List CPt) (c r : Rat) : Prop where
  does : ∀ p ∈ pts, p.2 ≤ c + r * ((p.1 - x : Int) : Rat)
  up : (∃ p ∈ pts, x < p.1) → ∃ p ∈ pts, x < p.1 ∧ c + r * ((p.1 - x : Int) : Rat) = p.2
  down : (∀ p ∈ pts, ¬ x < p.1) → (∃ p ∈ pts, p.1 < x) → ∃ p ∈ pts, p.1 < x ∧ c + r * ((p.1 - x : Int) : Rat) = p.2
  none : (∀ p ∈ pts, ¬ x < p.1) → (∀ p ∈ pts, ¬ p.1 < x) → r = 0
theorem cast_neg {a b : Int} (h : a < b) : ((a - b : Int) : Rat) < 0 := by
  rw [Rat.intCast_sub]
  have := cast_pos h
  grind
theorem cast_pos' {a b : Int} (h : a < b) : (0 : Rat) < ((b - a : Int) : Rat) := by
  rw [Rat.intCast_sub]
  exact cast_pos h
theorem cross {x : Int} {c : Rat} {p q : CPt} (hp : p.1 < x) (hq : x < q.1) (h : mean x p q ≤ c) : partQ x c q ≤ partQ x c p := by
  have a := cast_pos hp
  have b := cast_pos hq
  have m := mean_ne (x := x) (p := p) (q := q) (by omega)
  have hm := Rat.mul_le_mul_of_nonneg_right h (c := (q.1 : Rat) - p.1) (by grind)
  have e1 := partQ_mul (x := x) (c := c) (p := q) (by omega)
  have e2 := partQ_mul (x := x) (c := c) (p := p) (by omega)
  rw [Rat.intCast_sub] at e1 e2
  refine le_core (a := (x : Rat) - p.1) (b := (q.1 : Rat) - x) (c := c) (u := p.2) (v := q.2) a b e1 (by grind) (by grind)
theorem does_of {r y e v c : Rat} (h : y * e = v - c) (h2 : y * e ≤ r * e) : v ≤ c + r * e := by grind
theorem told_part {x : Int} {pts : List CPt} {c c0 : Rat} (hI : IsCover x pts c0) (hc : c0 ≤ c) : Told x pts c (partOf x c pts) := by
  have hu := up_spec x c pts pts.length (Nat.le_refl _)
  have hd := down_spec x c pts pts.length (Nat.le_refl _)
  rw [List.take_length] at hu hd
  have flat : ∀ p ∈ pts, p.1 = x → p.2 ≤ c := fun p hp e => by
    have := hI.le p hp p hp (by omega) (by omega)
    rw [mean_self] at this
    grind
  have up_of : ∀ {r : Rat} {p : CPt}, x < p.1 → partQ x c p ≤ r → p.2 ≤ c + r * ((p.1 - x : Int) : Rat) := fun {r p} h1 h2 =>
    does_of (partQ_mul (by omega)) (Rat.mul_le_mul_of_nonneg_right h2 (by have := cast_pos' h1; grind))
  have down_of : ∀ {r : Rat} {p : CPt}, p.1 < x → r ≤ partQ x c p → p.2 ≤ c + r * ((p.1 - x : Int) : Rat) := fun {r p} h1 h2 => by
    refine does_of (partQ_mul (c := c) (by omega)) ?_
    have a := cast_neg h1
    have := Rat.mul_le_mul_of_nonneg_right h2 (c := -((p.1 - x : Int) : Rat)) (by grind)
    grind
  have zero_of : ∀ {r : Rat} {p : CPt}, p ∈ pts → p.1 = x → p.2 ≤ c + r * ((p.1 - x : Int) : Rat) := fun {r p} hp e => by
    have := flat p hp e
    have e0 : p.1 - x = 0 := by omega
    rw [e0]
    have : ((0 : Int) : Rat) = 0 := by simp
    grind
  have meets : ∀ {r : Rat} {p : CPt}, p.1 ≠ x → partQ x c p = r → c + r * ((p.1 - x : Int) : Rat) = p.2 := fun {r p} h e => by
    have := partQ_mul (c := c) h
    rw [e] at this
    grind
  unfold partOf
  cases eu : upP x c pts with
  | some r =>
    rw [eu] at hu
    obtain ⟨⟨q, hq, h1, h2⟩, h3⟩ := hu
    refine ⟨fun p hp => ?_, fun _ => ⟨q, hq, h1, meets (by omega) h2⟩, fun z => absurd h1 (z q hq), fun z => absurd h1 (z q hq)⟩
    rcases (show p.1 < x ∨ p.1 = x ∨ x < p.1 by omega) with h | h | h
    · refine down_of h ?_
      have hm := hI.le p hp q hq (by omega) (by omega)
      have := cross (c := c) h h1 (by grind)
      grind
    · exact zero_of hp h
    · exact up_of h (h3 p hp h)
  | none =>
    rw [eu] at hu
    cases ed : downP x c pts with
    | some r =>
      rw [ed] at hd
      obtain ⟨⟨q, hq, h1, h2⟩, h3⟩ := hd
      refine ⟨fun p hp => ?_, fun ⟨p, hp, z⟩ => absurd z (hu p hp), fun _ _ => ⟨q, hq, h1, meets (by omega) h2⟩, fun _ z => absurd h1 (z q hq)⟩
      rcases (show p.1 < x ∨ p.1 = x ∨ x < p.1 by omega) with h | h | h
      · exact down_of h (h3 p hp h)
      · exact zero_of hp h
      · exact absurd h (hu p hp)
    | none =>
      rw [ed] at hd
      refine ⟨fun p hp => ?_, fun ⟨p, hp, z⟩ => absurd z (hu p hp), fun _ ⟨p, hp, z⟩ => absurd z (hd p hp), fun _ _ => rfl⟩
      have := hu p hp
      have := hd p hp
      exact zero_of hp (by omega)
theorem divInt_nonneg {n d : Int} (hn : 0 ≤ n) (hd : 0 < d) : 0 ≤ Rat.divInt n d := by
  obtain ⟨e1, _⟩ := divInt_num (n := n) hd
  have h : 0 ≤ (Rat.divInt n d).num := by rw [e1]; exact Int.ediv_nonneg hn (by omega)
  exact Rat.num_nonneg.mp h
theorem PtsOk.mono {k l : Nat} {x : Int} {pts : List CPt} (h : PtsOk k x pts) (hl : k ≤ l) : PtsOk l x pts := ⟨h.x, h.p, fun p hp => (h.v p hp).mono hl, h.l⟩
end DL

/-! Texts of fractions. -/
namespace DL
open PySem PySem.Spec PyProof.Rows L2 TL
variable [NX.TabsC]
theorem eqv_str (a b : Str) : PyData.eqv (.str a) (.str b) = decide (tl a = tl b) := by
  have e : PyData.eqv (.str a) (.str b) = (a == b) := by simp only [PyData.eqv]
  rw [e, Bool.eq_iff_iff, beq_iff_eq, decide_eq_true_eq]
  exact ⟨fun h => by rw [h], fun h => ext_tl h⟩
theorem bif_eqs {a b : Str} {A B : Prop} (h1 : tl a = tl b → A) (h2 : tl a ≠ tl b → B) : bifP (PyData.eqv (.str a) (.str b)) A B := by
  rw [eqv_str]
  exact bif_dec h1 h2
theorem bif_nes {a b : Str} {A B : Prop} (h1 : tl a ≠ tl b → A) (h2 : tl a = tl b → B) : bifP (!PyData.eqv (.str a) (.str b)) A B := by
  rw [eqv_str]
  by_cases h : tl a = tl b
  · rw [decide_eq_true h]; exact h2 h
  · rw [decide_eq_false h]; exact h1 h
def dig (c : Nat) : Bool := decide (48 ≤ c) && decide (c ≤ 57)
theorem dig_iff {c : Nat} : dig c = true ↔ 48 ≤ c ∧ c ≤ 57 := by unfold dig; rw [Bool.and_eq_true, decide_eq_true_eq, decide_eq_true_eq]
theorem figs : ∀ c : Nat, c ∈ tl (Str.ofString "0123456789") ↔ dig c = true := by
  intro c
  have e : tl (Str.ofString "0123456789") = [48, 49, 50, 51, 52, 53, 54, 55, 56, 57] := by decide +kernel
  rw [e, dig_iff]
  simp only [List.mem_cons, List.not_mem_nil, or_false]
  omega
/-- the number that a text tells, if it is the text of one -/
def badN (L : List Nat) : Prop := L = [] ∨ 400 < L.length ∨ (L.head? = some 48 ∧ L ≠ [48])
instance (L : List Nat) : Decidable (badN L) := inferInstanceAs (Decidable (_ ∨ _ ∨ _))
def numO (L : List Nat) : Option Int := if badN L then none else if L.all dig then some ((NumText.digitsVal L : Nat) : Int) else none
def optI : Option Int → D
  | none => .none
  | some i => .int i
theorem numO_nonneg {L : List Nat} {i : Int} (h : numO L = some i) : 0 ≤ i := by
  unfold numO at h
  split at h
  · cases h
  · split at h
    · cases h; exact Int.natCast_nonneg _
    · cases h
theorem numO_len {L : List Nat} {i : Int} (h : numO L = some i) : L.length ≤ 400 ∧ L ≠ [] ∧ ∀ c ∈ L, dig c = true := by
  unfold numO at h
  split at h
  · cases h
  · rename_i hb
    split at h
    · rename_i ha
      exact ⟨Nat.le_of_not_lt fun z => hb (.inr (.inl z)), fun z => hb (.inl z), List.all_eq_true.mp ha⟩
    · cases h
theorem numO_free {L : List Nat} (h : ∃ c ∈ L, dig c = false) : numO L = none := by
  unfold numO
  split
  · rfl
  · rw [if_neg]
    intro z
    obtain ⟨c, hc, e⟩ := h
    rw [List.all_eq_true.mp z c hc] at e
    cases e
theorem val_lt : ∀ (L : List Nat) (a : Nat), (∀ c ∈ L, dig c = true) → L.foldl (fun acc c => acc * 10 + (c - 48)) a < (a + 1) * 10 ^ L.length
  | [], a, _ => by simp
  | c :: r, a, h => by
    have hc := dig_iff.mp (h c List.mem_cons_self)
    have ih := val_lt r (a * 10 + (c - 48)) fun x hx => h x (List.mem_cons_of_mem _ hx)
    rw [List.foldl_cons, List.length_cons, Nat.pow_succ]
    refine Nat.lt_of_lt_of_le ih ?_
    have e : (a + 1) * (10 ^ r.length * 10) = ((a + 1) * 10) * 10 ^ r.length := by rw [Nat.mul_comm (10 ^ r.length) 10, ← Nat.mul_assoc]
    rw [e]
    exact Nat.mul_le_mul_right _ (by omega)
theorem numO_lt {L : List Nat} {i : Int} (h : numO L = some i) : Bt 1400 i := by
  obtain ⟨h1, h2, h3⟩ := numO_len h
  have e : i = ((NumText.digitsVal L : Nat) : Int) := by
    unfold numO at h
    split at h
    · cases h
    · split at h
      · cases h; rfl
      · cases h
  rw [e]
  show (((NumText.digitsVal L : Nat) : Int)).natAbs < 2 ^ 1400
  rw [Int.natAbs_natCast]
  have := val_lt L 0 h3
  have h4 : NumText.digitsVal L < (0 + 1) * 10 ^ L.length := this
  have h5 : 10 ^ L.length ≤ 10 ^ 400 := Nat.pow_le_pow_right (by decide) h1
  have h6 : (10 : Nat) ^ 400 < 2 ^ 1400 := by decide +kernel
  omega
/-! ### numbers' own texts -/
theorem numL_head {n : Nat} (h : (numL n).head? = some 48) : n = 0 := by
  induction n using Nat.strongRecOn with
  | _ n ih =>
    by_cases c : n < 10
    · rw [numL_lt c] at h
      injection h with h
      omega
    · rw [numL_step (by omega)] at h
      have hne := numL_ne (n / 10)
      have h2 : (numL (n / 10)).head? = some 48 := by
        cases q : numL (n / 10) with
        | nil => exact absurd q hne
        | cons a r => rw [q] at h; exact h
      have := ih (n / 10) (by omega) h2
      omega
theorem numL_dig (n : Nat) : ∀ c ∈ numL n, dig c = true := fun c hc => dig_iff.mpr (numL_digits n c hc)
theorem numO_num {n : Nat} (h : n < 10 ^ 400) : numO (numL n) = some (n : Int) := by
  unfold numO
  rw [if_neg, if_pos (List.all_eq_true.mpr (numL_dig n)), numL_val]
  rintro (z | z | ⟨z1, z2⟩)
  · exact numL_ne n z
  · have := numL_len (k := 400) (by decide) h
    omega
  · have := numL_head z1
    subst this
    exact z2 (numL_lt (by decide))
/-! ### a fraction's text -/
def chk (neg : Bool) (n d : Int) (st : Bool) : Option (Int × Int) :=
  if d = 0 ∨ (st = true ∧ d = 1) ∨ (neg = true ∧ n = 0) ∨ Nat.gcd n.natAbs d.natAbs ≠ 1 then none else some (if neg then 0 - n else n, d)
def negB (L : List Nat) : Bool := decide (L.head? = some 45)
def strip (L : List Nat) : List Nat := if negB L then L.tail else L
def p1 (a : List Nat) : Option (Int × Int) := match numO (strip a) with
  | some n => chk (negB a) n 1 false
  | none => none
def p2 (a b : List Nat) : Option (Int × Int) := match numO (strip a) with
  | some n => (match numO b with
    | some d => chk (negB a) n d true
    | none => none)
  | none => none
theorem p1_none {a : List Nat} (h : numO (strip a) = none) : p1 a = none := by unfold p1; rw [h]
theorem p1_some {a : List Nat} {n : Int} (h : numO (strip a) = some n) : p1 a = chk (negB a) n 1 false := by unfold p1; rw [h]
theorem p2_none1 {a b : List Nat} (h : numO (strip a) = none) : p2 a b = none := by unfold p2; rw [h]
theorem p2_none2 {a b : List Nat} (h : numO b = none) : p2 a b = none := by
  unfold p2
  rw [h]
  cases numO (strip a) <;> rfl
theorem p2_some {a b : List Nat} {n d : Int} (h : numO (strip a) = some n) (h2 : numO b = some d) : p2 a b = chk (negB a) n d true := by unfold p2; rw [h, h2]
/-- of the parts between the strokes -/
def partsO : List (List Nat) → Option (Int × Int)
  | [a] => p1 a
  | [a, b] => p2 a b
  | _ => none
def pairD : Option (Int × Int) → D
  | none => .none
  | some (n, d) => .tuple [.int n, .int d]
abbrev strokeS : Str := Str.ofString "/"
theorem tl_stroke : tl strokeS = [47] := by decide +kernel
def partsS (t : Str) : List (List Nat) := (Txt.split t strokeS).map tl
theorem kind_stroke : ¬ ∀ t : Str, Builtin.Str.strKind t < Builtin.Str.strKind strokeS := fun h => kind_ok (x := strokeS) (y := strokeS) (by decide +kernel) (h strokeS)
theorem split_one {t : Str} (h : 47 ∉ tl t) : Txt.split t strokeS = [t] := by
  refine map_tl_inj ?_
  have := spl_join (s := 47) (S := []) (parts := [tl t]) (by simp) (fun p hp => by rw [List.mem_singleton.mp hp]; exact h)
  rw [split_spl t strokeS (by rw [tl_stroke]; simp) (kind_ok (by decide +kernel)), tl_stroke]
  exact this
theorem split_more {a b : Str} (h : 47 ∉ tl a) : Txt.split (a ++ strokeS ++ b) strokeS = a :: Txt.split b strokeS := by
  refine map_tl_inj ?_
  rw [List.map_cons, split_spl _ strokeS (by rw [tl_stroke]; simp) (kind_ok (by decide +kernel)), split_spl _ strokeS (by rw [tl_stroke]; simp) (kind_ok (by decide +kernel)), tl_stroke, tl_append, tl_append, tl_stroke, List.append_assoc]
  exact spl_part1 (S := []) h
theorem first_at {x : Nat} : ∀ {L : List Nat}, x ∈ L → ∃ a b, L = a ++ x :: b ∧ x ∉ a
  | [], h => by cases h
  | y :: r, h => by
    by_cases c : y = x
    · subst c; exact ⟨[], r, rfl, by simp⟩
    · obtain ⟨a, b, e, hn⟩ := first_at (x := x) (L := r) (by rcases List.mem_cons.mp h with z | z; exact absurd z.symm c; exact z)
      refine ⟨y :: a, b, by rw [e]; rfl, fun z => ?_⟩
      rcases List.mem_cons.mp z with z | z
      · exact c z.symm
      · exact hn z
theorem cut_str (t : Str) : 47 ∉ tl t ∨ ∃ a b : Str, t = a ++ strokeS ++ b ∧ 47 ∉ tl a := by
  by_cases h : 47 ∈ tl t
  · right
    obtain ⟨a, b, e, hn⟩ := first_at h
    exact ⟨⟨a.toArray⟩, ⟨b.toArray⟩, ext_tl (by rw [tl_append, tl_append, tl_stroke, e]; show a ++ 47 :: b = a ++ [47] ++ b; simp), hn⟩
  · exact .inl h
theorem split_len2 {b : Str} (h : 47 ∈ tl b) : ∃ x y r, Txt.split b strokeS = x :: y :: r := by
  rcases cut_str b with z | ⟨x, y, rfl, hx⟩
  · exact absurd h z
  · rw [split_more hx]
    rcases cut_str y with z | ⟨u, v, rfl, hu⟩
    · rw [split_one z]; exact ⟨x, y, [], rfl⟩
    · rw [split_more hu]; exact ⟨x, u, _, rfl⟩
theorem int_neg (m : Nat) : toString (Int.negSucc m) = "-" ++ toString ((m + 1 : Nat) : Int) := rfl
theorem tl_int (i : Int) : tl (Str.ofString (toString i)) = if i < 0 then 45 :: numL i.natAbs else numL i.natAbs := by
  cases i with
  | ofNat n =>
    have h0 : ¬ (Int.ofNat n < 0) := Int.not_lt.mpr (Int.natCast_nonneg n)
    rw [if_neg h0]
    exact tl_num n
  | negSucc n =>
    rw [if_pos (Int.negSucc_lt_zero n), int_neg, tl_ofString]
    have h := tl_num (n + 1)
    rw [tl_ofString] at h
    have e : ("-" ++ toString ((n + 1 : Nat) : Int)).toList = '-' :: (toString ((n + 1 : Nat) : Int)).toList := by rw [String.toList_append]; rfl
    rw [e, List.map_cons, h]
    rfl
/-- a fraction's own text -/
def ownT (q : Rat) : List Nat := (if q.num < 0 then 45 :: numL q.num.natAbs else numL q.num.natAbs) ++ (if q.den = 1 then [] else 47 :: numL q.den)
theorem strip_num (i : Int) : strip (if i < 0 then 45 :: numL i.natAbs else numL i.natAbs) = numL i.natAbs ∧ negB (if i < 0 then 45 :: numL i.natAbs else numL i.natAbs) = decide (i < 0) := by
  by_cases h : i < 0
  · rw [if_pos h, decide_eq_true h]
    exact ⟨rfl, rfl⟩
  · rw [if_neg h, decide_eq_false h]
    have hn : negB (numL i.natAbs) = false := by
      unfold negB
      refine decide_eq_false fun z => ?_
      have hm : 45 ∈ numL i.natAbs := List.mem_of_mem_head? z
      have := numL_digits _ _ hm
      omega
    refine ⟨?_, hn⟩
    unfold strip
    rw [hn]
    rfl
theorem num_free (i : Int) : 47 ∉ (if i < 0 then 45 :: numL i.natAbs else numL i.natAbs) := by
  split
  · intro z
    rcases List.mem_cons.mp z with z | z
    · cases z
    · exact numL_free (by decide) z
  · exact numL_free (by decide)
theorem chk_q {q : Rat} {st : Bool} (h : st = true → q.den ≠ 1) : chk (decide (q.num < 0)) (q.num.natAbs : Nat) q.den st = some (q.num, (q.den : Int)) := by
  unfold chk
  rw [if_neg]
  · congr 1
    by_cases c : q.num < 0
    · rw [decide_eq_true c, if_pos rfl]; congr 1; omega
    · rw [decide_eq_false c, if_neg (by simp)]; congr 1; omega
  · have := q.den_pos
    rintro (z | ⟨z1, z2⟩ | ⟨z1, z2⟩ | z)
    · omega
    · exact h z1 (by omega)
    · have := of_decide_eq_true z1; omega
    · exact z (by rw [Int.natAbs_natCast, Int.natAbs_natCast]; exact q.reduced)
theorem parts_own {t : Str} {q : Rat} (e : tl t = ownT q) (h1 : q.num.natAbs < 10 ^ 400) (h2 : q.den < 10 ^ 400) : partsO (partsS t) = some (q.num, (q.den : Int)) := by
  unfold ownT at e
  obtain ⟨s1, s2⟩ := strip_num q.num
  have fr := num_free q.num
  generalize hA : (if q.num < 0 then 45 :: numL q.num.natAbs else numL q.num.natAbs) = A at *
  by_cases hd : q.den = 1
  · rw [if_pos hd, List.append_nil] at e
    unfold partsS
    rw [split_one (by rw [e]; exact fr)]
    show partsO [tl t] = _
    rw [e]
    show p1 A = _
    rw [p1_some (by rw [s1]; exact numO_num h1), s2]
    have := chk_q (q := q) (st := false) (by simp)
    rw [hd] at this ⊢
    exact this
  · rw [if_neg hd] at e
    have et : t = (⟨A.toArray⟩ : Str) ++ strokeS ++ (⟨(numL q.den).toArray⟩ : Str) := ext_tl (by rw [tl_append, tl_append, tl_stroke, e]; show A ++ 47 :: numL q.den = A ++ [47] ++ numL q.den; simp)
    unfold partsS
    rw [et, split_more (show 47 ∉ tl (⟨A.toArray⟩ : Str) from fr), split_one (show 47 ∉ tl (⟨(numL q.den).toArray⟩ : Str) from numL_free (by decide))]
    show partsO [A, numL q.den] = _
    show p2 A (numL q.den) = _
    rw [p2_some (by rw [s1]; exact numO_num h1) (numO_num h2), s2]
    exact chk_q fun _ => hd
theorem strip_len (L : List Nat) : L.length ≤ (strip L).length + 1 := by
  unfold strip
  split
  · rw [List.length_tail]; omega
  · omega
theorem parts_len {t : Str} (h : 802 < t.length) : partsO (partsS t) = none := by
  have one : ∀ {L : List Nat}, 401 < L.length → numO (strip L) = none := fun {L} z => by
    cases q : numO (strip L) with
    | none => rfl
    | some i =>
      have := (numO_len q).1
      have := strip_len L
      omega
  unfold partsS
  rcases cut_str t with z | ⟨a, b, rfl, ha⟩
  · rw [split_one z]
    show p1 (tl t) = none
    exact p1_none (one (by rw [← len_tl]; omega))
  · rw [split_more ha]
    rcases cut_str b with z | ⟨u, v, rfl, hu⟩
    · rw [split_one z]
      show p2 (tl a) (tl b) = none
      rw [len_tl, tl_append, tl_append, tl_stroke, List.length_append, List.length_append] at h
      have h' : 802 < (tl a).length + 1 + (tl b).length := h
      by_cases c : 401 < (tl a).length
      · exact p2_none1 (one c)
      · cases q : numO (tl b) with
        | none => exact p2_none2 q
        | some i =>
          have := (numO_len q).1
          omega
    · obtain ⟨x, y, r, e⟩ := split_len2 (b := u ++ strokeS ++ v) (by rw [tl_append, tl_append, tl_stroke]; simp)
      rw [e]
      rfl
theorem tl_cut1 (z : Str) : tl (cutS z none (some 1)) = (tl z).take 1 := by
  unfold cutS
  show ((tl z).drop 0).take (min 1 z.length - 0) = _
  rw [List.drop_zero, len_tl]
  cases tl z <;> rfl
theorem tl_cutr (z : Str) : tl (cutS z (some 1) none) = (tl z).tail := by
  unfold cutS
  show ((tl z).drop (min 1 z.length)).take (z.length - min 1 z.length) = _
  rw [len_tl]
  cases tl z with
  | nil => rfl
  | cons a r => show (r.take ((r.length + 1) - min 1 (r.length + 1))) = r; rw [show (r.length + 1) - min 1 (r.length + 1) = r.length by omega, List.take_length]
theorem neg_iff (L : List Nat) : L.take 1 = [45] ↔ negB L = true := by
  unfold negB
  rw [decide_eq_true_eq]
  cases L with
  | nil => simp
  | cons a r => simp
theorem tl_minus : tl (Str.ofString "-") = [45] := by decide +kernel
theorem tl_zero : tl (Str.ofString "0") = [48] := by decide +kernel
theorem tl_none : tl (Str.ofString "") = [] := by decide +kernel
theorem strip_neg {L : List Nat} (h : negB L = true) : strip L = L.tail := by unfold strip; rw [if_pos h]
theorem strip_pos {L : List Nat} (h : negB L = false) : strip L = L := by unfold strip; rw [if_neg (by rw [h]; simp)]
theorem log_lt {i : Int} (h : Bt 1900 i) : i.natAbs.log2 < 1920 := by
  by_cases h0 : i.natAbs = 0
  · rw [h0]; decide
  · exact (Nat.log2_lt h0).mpr (Nat.lt_of_lt_of_le h (Nat.pow_le_pow_right (by decide) (by decide)))
theorem int_len {i : Int} (h : Bt 1900 i) : (Str.ofString (toString i)).length ≤ 601 := by
  rw [len_tl, tl_int]
  have h2 : i.natAbs < 10 ^ 600 := Nat.lt_of_lt_of_le h (by decide +kernel)
  have := numL_len (k := 600) (by decide) h2
  split
  · rw [List.length_cons]; omega
  · omega
end DL

namespace KX
open PySem PySem.Spec PyProof.Rows L2 DL
def top (i : Nat) : Stmt := PySem.Challenge.pw_hedgewright_k02_unfoldings.main.body.getD i (.Pass ⟨0, 0, 0, 0⟩)
structure Top (K : PySem.W.Frag) (mg : Str → Option Value) : Prop where
  b_isinstance : mg "isinstance" = none
  b_int : mg "int" = none
  b_bool : mg "bool" = none
  b_len : mg "len" = none
  b_tuple : mg "tuple" = none
  b_enumerate : mg "enumerate" = none
  b_min : mg "min" = none
  b_max : mg "max" = none
  b_range : mg "range" = none
  b_list : mg "list" = none
  b_str : mg "str" = none
  b_ValueError : mg "ValueError" = none
  c_MOST_FIGURES : GloD K mg "MOST_FIGURES" (.int 400)
  c_FIGURES : GloD K mg "FIGURES" (.str "0123456789")
  c_MOST_PRICE : GloD K mg "MOST_PRICE" (.int 1000000000)
  c_MOST_NEXT : GloD K mg "MOST_NEXT" (.int 4)
  c_MOST_NODES : GloD K mg "MOST_NODES" (.int 40)
  c_MOST_TIME : GloD K mg "MOST_TIME" (.int 7)
  x_BadTree : ExcF K mg "BadTree"
  xg_BadTree : ExcG K mg "BadTree"
  xg_HedgeError : ExcG K mg "HedgeError"
  xg_BadDeal : ExcG K mg "BadDeal"
  xg_TooMany : ExcG K mg "TooMany"
  xg_NoTurn : ExcG K mg "NoTurn"
  xg_BadChoice : ExcG K mg "BadChoice"
  xg_BadText : ExcG K mg "BadText"
  g_need_tree : mg "need_tree" = some (.ref (eA K "need_tree"))
  g_read_tree : mg "read_tree" = some (.ref (eA K "read_tree"))
  r_BadTree_HedgeError : relB K "BadTree" "HedgeError" true = true
  r_BadTree_BadTree : relB K "BadTree" "BadTree" true = true
  r_BadTree_BadDeal : relB K "BadTree" "BadDeal" false = true
  r_BadTree_TooMany : relB K "BadTree" "TooMany" false = true
  r_BadTree_NoTurn : relB K "BadTree" "NoTurn" false = true
  r_BadTree_BadChoice : relB K "BadTree" "BadChoice" false = true
  r_BadTree_BadText : relB K "BadTree" "BadText" false = true
  v_BadTree : isVB K "BadTree" = true
end KX
namespace KX
open PySem PySem.Spec PyProof.Rows L2 DL
section
variable [NX.TabsC]
variable {P : Program} {w : World} {K : PySem.W.Frag} {mg : Str → Option Value} {base : Heap}
def wholeD (d : D) : Bool := match d with
  | .int _ => true
  | _ => false
def amongB (d : D) (a b : Int) : Bool := match d with
  | .int i => decide (a ≤ i) && decide (i ≤ b)
  | _ => false
def noneB : D → Bool
  | .none => true
  | _ => false
def nodeB (r : D) (n : Nat) : Bool := match r with
  | .tuple [a, b] => amongB b 0 1000000000 && (if n = 0 then noneB a else amongB a 0 ((n : Int) - 1))
  | _ => false
/-- nothing in it is opaque -/
def plainR (r : D) : Prop := isObjD r = false ∧ ∀ xs, r = .tuple xs → ∀ x ∈ xs, isObjD x = false
abbrev st_is_whole : Stmt := top 11
abbrev NN_is_whole : List Str := ["thing"]
theorem sc_is_whole : FnScope ["thing"] ["thing"] (defScope st_is_whole) := ⟨rfl, rfl, rfl, by decide +kernel, rfl, by decide +kernel, by decide +kernel⟩
def S_is_whole : SP := fun ds _ P => ∃ (d : D), ds = [d] ∧ (isObjD d = false) ∧ P (.bool (wholeD d))
theorem m_is_whole : MonoS S_is_whole := fun _ _ _ _ _ _ hP ⟨d, e, h0, qq⟩ => ⟨d, e, h0, hP _ qq⟩
theorem l_is_whole : ∀ ds E P, S_is_whole ds E P → ds.length = 1 := fun _ _ _ ⟨d, e, _⟩ => by rw [e]; rfl

theorem ok_is_whole (T : Top K mg) (A : DefAt K mg "is_whole" st_is_whole ["thing"]) : CalD P w K mg base CX0 1 "is_whole" ["thing"] S_is_whole := by
  refine calD A sc_is_whole m_is_whole l_is_whole (fun f cdv A outer s H E hr Γ => ⟨_, (db_one (dp_ret (de_and (de_isi (T := "int") (by decide) T.b_isinstance T.b_int (by decide +kernel) (de_var 0)) (de_one (de_not (de_isi (T := "bool") (by decide) T.b_isinstance T.b_bool (by decide +kernel) (de_var 0))))))), fun ds E P h => ?_⟩)
  obtain ⟨d, rfl, ho, hP⟩ := h
  refine isi_of ho ?_
  cases d with
  | int i => exact hP
  | bool b => exact hP
  | _ => exact hP
abbrev st_is_among : Stmt := top 12
abbrev NN_is_among : List Str := ["thing", "least", "most"]
theorem sc_is_among : FnScope ["thing", "least", "most"] ["thing", "least", "most"] (defScope st_is_among) := ⟨rfl, rfl, rfl, by decide +kernel, rfl, by decide +kernel, by decide +kernel⟩
def S_is_among : SP := fun ds _ P => ∃ (d : D) (a b : Int), ds = [d, .int a, .int b] ∧ (isObjD d = false) ∧ P (.bool (amongB d a b))
theorem m_is_among : MonoS S_is_among := fun _ _ _ _ _ _ hP ⟨d, a, b, e, h0, qq⟩ => ⟨d, a, b, e, h0, hP _ qq⟩
theorem l_is_among : ∀ ds E P, S_is_among ds E P → ds.length = 3 := fun _ _ _ ⟨d, a, b, e, _⟩ => by rw [e]; rfl

theorem ok_is_among (T : Top K mg) (A : DefAt K mg "is_among" st_is_among ["thing", "least", "most"]) (C_is_whole : CalD P w K mg base CX0 1 "is_whole" ["thing"] S_is_whole) : CalD P w K mg base CX0 2 "is_among" ["thing", "least", "most"] S_is_among := by
  refine calD A sc_is_among m_is_among l_is_among (fun f cdv A outer s H E hr Γ => ⟨_, (db_one (dp_ret (de_and (de_cal C_is_whole hr (by decide) (fun _ => passZ) (da_cons (de_var 0) da_nil)) (de_one (de_lele (de_var 1) (de_var 0) (de_var 2)))))), fun ds E P h => ?_⟩)
  obtain ⟨d, a, b, rfl, ho, hP⟩ := h
  refine ⟨d, rfl, ho, ?_⟩
  cases d with
  | int i =>
    have e : amongB (.int i) a b = (decide (a ≤ i) && decide (i ≤ b)) := rfl
    rw [e] at hP
    refine bif_dec (fun h1 => ?_) (fun h1 => ?_)
    · rw [decide_eq_true h1, Bool.true_and] at hP
      exact hP
    · rw [decide_eq_false h1, Bool.false_and] at hP
      exact hP
  | _ => exact hP
abbrev st_is_node : Stmt := top 19
abbrev NN_is_node : List Str := ["row", "number"]
theorem sc_is_node : FnScope ["row", "number"] ["row", "number"] (defScope st_is_node) := ⟨rfl, rfl, rfl, by decide +kernel, rfl, by decide +kernel, by decide +kernel⟩
def S_is_node : SP := fun ds _ P => ∃ (r : D) (n : Nat), ds = [r, .int (n : Int)] ∧ (plainR r) ∧ P (.bool (nodeB r n))
theorem m_is_node : MonoS S_is_node := fun _ _ _ _ _ _ hP ⟨r, n, e, h0, qq⟩ => ⟨r, n, e, h0, hP _ qq⟩
theorem l_is_node : ∀ ds E P, S_is_node ds E P → ds.length = 2 := fun _ _ _ ⟨r, n, e, _⟩ => by rw [e]; rfl

theorem ok_is_node (T : Top K mg) (A : DefAt K mg "is_node" st_is_node ["row", "number"]) (C_is_among : CalD P w K mg base CX0 2 "is_among" ["thing", "least", "most"] S_is_among) : CalD P w K mg base CX0 3 "is_node" ["row", "number"] S_is_node := by
  refine calD A sc_is_node m_is_node l_is_node (fun f cdv A outer s H E hr Γ => ⟨_, (db_cons (dp_if (DW.dt (dw_or (dt_not (dt_val (de_isi (T := "tuple") (by decide) T.b_isinstance T.b_tuple (by decide +kernel) (de_var 0)))) (dw_or (dt_ne (hu64 hr) (de_len T.b_len (da_cons (de_var 0) da_nil)) de_int) (dw_or1 (dt_not (dt_val (de_cal C_is_among hr (by decide) (fun _ => passZ) (da_cons (de_ix (de_var 0) de_int) (da_cons de_int (da_cons (de_con T.c_MOST_PRICE) da_nil))))))))))
    (db_one (dp_ret de_bl))
    db_nil)
    (db_cons (dp_if (dt_eq (hu64 hr) (de_var 1) de_int)
    (db_one (dp_ret (de_isN (de_ix (de_var 0) de_int))))
    db_nil)
    (db_one (dp_ret (de_cal C_is_among hr (by decide) (fun _ => passZ) (da_cons (de_ix (de_var 0) de_int) (da_cons de_int (da_cons (de_sub (de_var 1) de_int) da_nil)))))))), fun ds E P h => ?_⟩)
  obtain ⟨r, n, rfl, ⟨ho, hx⟩, hP⟩ := h
  have e9 : ((10 : Int) ^ (9 : Int).toNat) = 1000000000 := by decide
  refine isi_of ho ?_
  cases r with
  | tuple xs =>
    have two : ∀ {A : Prop}, (xs.length ≠ 2 → A) → ((∃ a b, xs = [a, b]) → A) → A := fun h1 h2 => by
      by_cases c : xs.length = 2
      · match xs, c with
        | [a, b], _ => exact h2 ⟨a, b, rfl⟩
      · exact h1 c
    refine two (fun c => ?_) (fun c => ?_)
    · refine bif_true (by rw [eqv_int, decide_eq_false (by omega)]; rfl) ?_
      have : nodeB (.tuple xs) n = false := by
        unfold nodeB
        split
        · rename_i a b e
          injection e with e
          rw [e] at c
          exact absurd rfl c
        · rfl
      rw [this] at hP
      exact hP
    · refine bif_false (by rw [eqv_int, decide_eq_true (by obtain ⟨a, b, rfl⟩ := c; rfl)]; rfl) ?_
      obtain ⟨a, b, rfl⟩ := c
      have ob := hx _ rfl b (List.mem_cons_of_mem _ List.mem_cons_self)
      have oa := hx _ rfl a List.mem_cons_self
      refine ⟨b, 0, 1000000000, rfl, ob, ?_⟩
      have en : nodeB (.tuple [a, b]) n = (amongB b 0 1000000000 && (if n = 0 then noneB a else amongB a 0 ((n : Int) - 1))) := rfl
      rw [en] at hP
      cases q : amongB b 0 1000000000 with
      | false =>
        rw [q, Bool.false_and] at hP
        exact hP
      | true =>
        rw [q, Bool.true_and] at hP
        refine bif_eqi (fun z => ?_) (fun z => ?_)
        · rw [if_pos (by omega)] at hP
          cases a <;> exact hP
        · rw [if_neg (by omega)] at hP
          exact ⟨a, 0, (n : Int) - 1, rfl, oa, hP⟩
  | _ => exact hP
end
end KX

namespace KX
open PySem PySem.Spec PyProof.Rows L2 DL
section
variable [NX.TabsC]
variable {P : Program} {w : World} {K : PySem.W.Frag} {mg : Str → Option Value} {base : Heap}
theorem shaped_nats (l : List Nat) : SeqAt.shaped (.list (l.map fun j : Nat => PyData.int (j : Int))) = true := shaped_list (fun d hd => by obtain ⟨_, _, rfl⟩ := List.mem_map.mp hd; rfl) (fun d hd => by obtain ⟨_, _, rfl⟩ := List.mem_map.mp hd; exact Nat.zero_le _)
theorem eqv_nats_nil (l : List Nat) : PyData.eqv (.list (l.map fun j : Nat => PyData.int (j : Int))) (.list []) = decide (l = []) := by
  cases l with
  | nil => rw [List.map_nil, eqv_nil]; rfl
  | cons a r => rw [eqv_ne_nil (by simp)]; exact (decide_eq_false (by simp)).symm
abbrev st_time_of : Stmt := top 21
abbrev NN_time_of : List Str := ["tree", "node", "found"]
theorem sc_time_of : FnScope ["tree", "node", "found"] ["tree", "node"] (defScope st_time_of) := ⟨rfl, rfl, rfl, by decide +kernel, rfl, by decide +kernel, by decide +kernel⟩
def S_time_of : SP := fun ds _ P => ∃ (t : List Nd) (k : Nat), ds = [.list (t.map ndD), .int k] ∧ (Ord t) ∧ (k < t.length) ∧ P (.int (tm t k : Nat))
theorem m_time_of : MonoS S_time_of := fun _ _ _ _ _ _ hP ⟨t, k, e, h0, h1, qq⟩ => ⟨t, k, e, h0, h1, hP _ qq⟩
theorem l_time_of : ∀ ds E P, S_time_of ds E P → ds.length = 2 := fun _ _ _ ⟨t, k, e, _⟩ => by rw [e]; rfl

theorem ok_time_of (T : Top K mg) (A : DefAt K mg "time_of" st_time_of ["tree", "node"]) : CalD P w K mg base CX0 1 "time_of" ["tree", "node"] S_time_of := by
  refine calD A sc_time_of m_time_of l_time_of (fun f cdv A outer s H E hr Γ => ⟨_, (db_cons (dp_set 2 sc_time_of.nd de_int)
    (db_cons (dp_while PassesOwn.never (dt_notN (de_ix (de_ix (de_var 0) (de_var 1)) de_int))
    (db_cons (dp_set 1 sc_time_of.nd (de_ix (de_ix (de_var 0) (de_var 1)) de_int))
    (db_one (dp_set 2 sc_time_of.nd (de_add (de_var 2) de_int)))))
    (db_one (dp_ret (de_var 2))))), fun ds E P h => ?_⟩)
  obtain ⟨t, k, rfl, ho, hk, hP⟩ := h
  refine cut1 (fun δ => δ = [some (.sh (.list (t.map ndD))), some (.sh (.int k)), some (.sh (.int 0))]) (fun P' h => h _ rfl) ?_
  rintro δ rfl
  refine ⟨fun m δ => ∃ (j f : Nat), δ = [some (.sh (.list (t.map ndD))), some (.sh (.int j)), some (.sh (.int (f : Int)))] ∧ j = m ∧ j < t.length ∧ f + tm t j = tm t k, ⟨k, k, 0, rfl, rfl, hk, by omega⟩, ?_⟩
  rintro m δ ⟨j, f, rfl, rfl, hj, hf⟩
  obtain ⟨n, hn⟩ : ∃ n, t[j]? = some n := ⟨_, List.getElem?_eq_getElem hj⟩
  refine optK_some (nd_at hn) ?_
  have ep := par_get hn
  cases e : n.1 with
  | none =>
    have e2 : ndD n = .tuple [.none, .int n.2] := by unfold ndD; rw [e]; rfl
    rw [e2]
    rw [tm_none (ep.trans e)] at hf
    have : f = tm t k := by omega
    subst this
    exact hP
  | some b =>
    have e2 : ndD n = .tuple [.int (b : Int), .int n.2] := by unfold ndD; rw [e]; rfl
    have hb := par_lt ho (ep.trans e)
    rw [tm_some ho (ep.trans e)] at hf
    rw [e2]
    refine optK_some (nd_at hn) ?_
    rw [e2]
    exact ⟨b, hb, b, f + 1, by rfl, rfl, by omega, by omega⟩
abbrev st_next_nodes : Stmt := top 20
abbrev NN_next_nodes : List Str := ["tree", "node", "number", "row"]
theorem sc_next_nodes : FnScope ["tree", "node", "number", "row"] ["tree", "node"] (defScope st_next_nodes) := ⟨rfl, rfl, rfl, by decide +kernel, rfl, by decide +kernel, by decide +kernel⟩
def S_next_nodes : SPN := fun ds P => ∃ (t : List Nd) (k : Nat), ds = [.list (t.map ndD), .int k] ∧ (t.length ≤ 1000) ∧ P ((nexts t k).map fun j : Nat => PyData.int (j : Int))
theorem m_next_nodes : MonoN S_next_nodes := fun _ _ _ hP ⟨t, k, e, h0, qq⟩ => ⟨t, k, e, h0, hP _ qq⟩
theorem l_next_nodes : ∀ ds P, S_next_nodes ds P → ds.length = 2 := fun _ _ ⟨t, k, e, _⟩ => by rw [e]; rfl

theorem ok_next_nodes (T : Top K mg) (A : DefAt K mg "next_nodes" st_next_nodes ["tree", "node"]) : CalN P w K mg base CX0 1 "next_nodes" ["tree", "node"] S_next_nodes := by
  refine calN A sc_next_nodes m_next_nodes l_next_nodes (fun f cdv A outer s H E hr Γ => ⟨_, (db_one (dp_retO (dn_lc [("number", 2), ("row", 3)] sc_next_nodes.nd (di_enum T.b_enumerate (de_var 0)) (blkOk_by (N := NN_next_nodes) (sc := defScope st_next_nodes) (by decide +kernel)) (fun _ _ _ _ _ => (dg_t (n := 2) (dgs_c (dg_name 2 sc_next_nodes.nd) (dgs_c (dg_name 3 sc_next_nodes.nd) dgs_nil)))) (fun _ _ _ _ _ => (dts_one (dt_eq (hu64 hr) (de_ix (de_var 3) de_int) (de_var 1)))) (fun _ _ _ _ _ => (de_var 2))))), fun ds P h => ?_⟩)
  obtain ⟨t, k, rfl, hl, hP⟩ := h
  have a4 : (1000000 : Nat) + 10 < sizeLine := by decide
  show (enumL (t.map ndD)).length ≤ sizeLine ∧ ioG _ _ (lcK _ _ _ _ _ (enumL (t.map ndD)) _ _)
  rw [range_zip t ndD (none, 0)]
  refine ⟨by rw [List.length_map, List.length_range]; omega, ioG_of rfl ?_⟩
  refine lcK_fm (xs := List.range t.length) (g := fun i => .tuple [.int (i : Nat), ndD (t.getD i (none, 0))]) (fun j => bif decide (par t j = some k) then some (.int (j : Int)) else none) ?_ ?_
  · intro j hj acc F hF
    have hj := List.mem_range.mp hj
    obtain ⟨m, hm⟩ : ∃ m, t[j]? = some m := ⟨_, List.getElem?_eq_getElem hj⟩
    have eg : t.getD j (none, 0) = m := by rw [List.getD, hm]; rfl
    rw [eg]
    refine ⟨rfl, ?_⟩
    refine eqG_of (show EqOk (onD m.1) (.int (k : Int)) by cases m.1 <;> exact .inl rfl) ?_
    show bifP (PyData.eqv (onD m.1) (.int (k : Int))) _ _
    rw [DL.eqv_on]
    rw [par_get hm] at hF
    cases q : decide (m.1 = some k) with
    | true => rw [q] at hF; exact hF
    | false =>
      rw [q, cond_false, Option.toList_none, List.append_nil] at hF
      exact hF
  · rw [filterMap_if]
    exact hP
def FairAt (t : List Nd) (k : Nat) : Prop := nexts t k = [] ∨ ((nexts t k).length ≤ 4 ∧ (∃ j ∈ nexts t k, prc t j ≤ prc t k) ∧ ∃ j ∈ nexts t k, prc t k ≤ prc t j)
instance (t : List Nd) (k : Nat) : Decidable (FairAt t k) := by unfold FairAt; exact inferInstance
theorem prc_at {t : List Nd} {j : Nat} (h : j < t.length) : ∃ n, t[j]? = some n ∧ prc t j = n.2 := ⟨_, List.getElem?_eq_getElem h, prc_get (List.getElem?_eq_getElem h)⟩
abbrev st_is_fair : Stmt := top 22
abbrev NN_is_fair : List Str := ["tree", "node", "prices", "behind"]
theorem sc_is_fair : FnScope ["tree", "node", "prices", "behind"] ["tree", "node"] (defScope st_is_fair) := ⟨rfl, rfl, rfl, by decide +kernel, rfl, by decide +kernel, by decide +kernel⟩
def S_is_fair : SP := fun ds _ P => ∃ (t : List Nd) (k : Nat), ds = [.list (t.map ndD), .int k] ∧ (t.length ≤ 1000) ∧ (k < t.length) ∧ P (.bool (decide (FairAt t k)))
theorem m_is_fair : MonoS S_is_fair := fun _ _ _ _ _ _ hP ⟨t, k, e, h0, h1, qq⟩ => ⟨t, k, e, h0, h1, hP _ qq⟩
theorem l_is_fair : ∀ ds E P, S_is_fair ds E P → ds.length = 2 := fun _ _ _ ⟨t, k, e, _⟩ => by rw [e]; rfl

theorem ok_is_fair (T : Top K mg) (A : DefAt K mg "is_fair" st_is_fair ["tree", "node"]) (C_next_nodes : CalN P w K mg base CX0 1 "next_nodes" ["tree", "node"] S_next_nodes) : CalD P w K mg base CX0 2 "is_fair" ["tree", "node"] S_is_fair := by
  refine calD A sc_is_fair m_is_fair l_is_fair (fun f cdv A outer s H E hr Γ => ⟨_, (db_cons (dp_setLc2 2 [("behind", 3)] sc_is_fair.nd (di_list (de_of (dn_cal C_next_nodes hr (by decide) (fun _ => passZ) (da_cons (de_var 0) (da_cons (de_var 1) da_nil))))) (blkOk_by (N := NN_is_fair) (sc := defScope st_is_fair) (by decide +kernel)) (fun _ _ _ _ _ => (dg_name 3 sc_is_fair.nd)) (fun _ _ _ _ _ => dts_nil) (fun _ _ _ _ _ => (de_ix (de_ix (de_var 0) (de_var 3)) de_int))).2
    (db_cons (dp_if (dt_eq (hu64 hr) (de_var 2) (de_lst da_nil))
    (db_one (dp_ret de_bl))
    db_nil)
    (db_one (dp_ret (de_and (de_le (de_len T.b_len (da_cons (de_var 2) da_nil)) (de_con T.c_MOST_NEXT)) (de_one (de_lele (de_minL T.b_min (da_cons (de_var 2) da_nil)) (de_ix (de_ix (de_var 0) (de_var 1)) de_int) (de_maxL T.b_max (da_cons (de_var 2) da_nil))))))))), fun ds E P h => ?_⟩)
  obtain ⟨t, k, rfl, hl, hk, hP⟩ := h
  have a4 : (1000000 : Nat) + 10 < sizeLine := by decide
  have nl : (nexts t k).length ≤ 1000 := by
    unfold nexts
    have h1 : ((List.range t.length).filter fun j => decide (par t j = some k)).length ≤ (List.range t.length).length := List.length_filter_le _ _
    rw [List.length_range] at h1
    omega
  refine cut1 (fun δ => δ = [some (.sh (.list (t.map ndD))), some (.sh (.int (k : Int))), some (.sh (.list ((nexts t k).map (fun j => PyData.int (prc t j))))), none]) ?_ ?_
  · intro P' h
    refine ⟨t, k, rfl, hl, ?_⟩
    refine ⟨by rw [List.length_map]; omega, ioG_of rfl ?_⟩
    refine lcK_all (xs := nexts t k) (g := fun j : Nat => PyData.int (j : Int)) (fun j => PyData.int (prc t j)) ?_ (h _ rfl)
    intro j hj acc F hF
    obtain ⟨n, hn, e⟩ := prc_at (mem_nexts.mp hj).1
    refine optK_some (nd_at hn) ?_
    rw [e] at hF
    exact hF
  rintro δ rfl
  have ep : ((nexts t k).map fun j => PyData.int (prc t j)) = ((nexts t k).map (prc t)).map PyData.int := by rw [List.map_map]; rfl
  have sh : SeqAt.shaped (.list ((nexts t k).map fun j => PyData.int (prc t j))) = true := shaped_list (fun d hd => by obtain ⟨_, _, rfl⟩ := List.mem_map.mp hd; rfl) (fun d hd => by obtain ⟨_, _, rfl⟩ := List.mem_map.mp hd; exact Nat.zero_le _)
  have ev : PyData.eqv (.list ((nexts t k).map fun j => PyData.int (prc t j))) (.list []) = decide (nexts t k = []) := by
    cases nexts t k with
    | nil => rw [List.map_nil, eqv_nil]; rfl
    | cons a r => rw [eqv_ne_nil (by simp)]; exact (decide_eq_false (by simp)).symm
  refine eqG_of (.inr ⟨sh, rfl⟩) ?_
  rw [ev]
  refine bif_dec (fun c => ?_) (fun c => ?_)
  · rw [decide_eq_true (show FairAt t k from .inl c)] at hP
    exact hP
  · refine nextK ?_
    refine bif_dec (fun c4 => ?_) (fun c4 => ?_)
    · have c4 : (((nexts t k).map fun j => PyData.int (prc t j)).length : Int) ≤ 4 := c4
      rw [List.length_map] at c4
      rw [ep]
      obtain ⟨n, hn, en⟩ := prc_at hk
      have pos : 0 < ((nexts t k).map (prc t)).length := by
        rw [List.length_map]
        exact List.length_pos_iff.mpr c
      refine optK_some (intsD_map _) ⟨pos, fun m hm hmin => ?_⟩
      refine optK_some (nd_at hn) ?_
      obtain ⟨j1, j1m, rfl⟩ := List.mem_map.mp hm
      refine bif_dec (fun h1 => ?_) (fun h1 => ?_)
      · refine optK_some (intsD_map _) ⟨pos, fun M hM hmax => ?_⟩
        obtain ⟨j2, j2m, rfl⟩ := List.mem_map.mp hM
        have e : decide (FairAt t k) = decide (n.2 ≤ prc t j2) := by
          rw [decide_eq_decide]
          constructor
          · intro z
            rcases z with z | z
            · exact absurd z c
            · obtain ⟨_, _, j, hj, hle⟩ := z
              have := hmax (prc t j) (List.mem_map.mpr ⟨j, hj, rfl⟩)
              rw [← en]; omega
          · intro z
            exact .inr ⟨by omega, ⟨j1, j1m, by rw [en]; exact h1⟩, ⟨j2, j2m, by rw [en]; exact z⟩⟩
        rw [e] at hP
        exact hP
      · rw [decide_eq_false (show ¬ FairAt t k from fun z => by
          rcases z with z | z
          · exact c z
          · obtain ⟨_, ⟨j, hj, hle⟩, _⟩ := z
            have := hmin (prc t j) (List.mem_map.mpr ⟨j, hj, rfl⟩)
            exact h1 (by rw [← en]; omega))] at hP
        exact hP
    · have c4 : ¬ (((nexts t k).map fun j => PyData.int (prc t j)).length : Int) ≤ 4 := c4
      rw [List.length_map] at c4
      rw [decide_eq_false (show ¬ FairAt t k from fun z => by
        rcases z with z | z
        · exact c z
        · have := z.1; omega)] at hP
      exact hP
end
end KX

namespace KX
open PySem PySem.Spec PyProof.Rows L2 DL
section
variable [NX.TabsC]
variable {P : Program} {w : World} {K : PySem.W.Frag} {mg : Str → Option Value} {base : Heap}
theorem onD_inj {a b : Option Nat} (h : onD a = onD b) : a = b := by
  cases a <;> cases b <;> first | rfl | (cases h; rfl) | cases h
theorem ndD_inj {a b : Nd} (h : ndD a = ndD b) : a = b := by
  obtain ⟨a1, a2⟩ := a
  obtain ⟨b1, b2⟩ := b
  unfold ndD at h
  injection h with h
  injection h with h1 h2
  injection h2 with h2 _
  injection h2 with h2
  have h1 : onD a1 = onD b1 := h1
  have h2 : a2 = b2 := h2
  rw [onD_inj h1, h2]
theorem nds_inj : ∀ {a b : List Nd}, a.map ndD = b.map ndD → a = b
  | [], [], _ => rfl
  | [], _ :: _, h => by cases h
  | _ :: _, [], h => by cases h
  | x :: a, y :: b, h => by
    rw [List.map_cons, List.map_cons] at h
    injection h with h1 h2
    rw [ndD_inj h1, nds_inj h2]
theorem nodeB_nd {n : Nd} {k : Nat} : nodeB (ndD n) k = true ↔ (0 ≤ n.2 ∧ n.2 ≤ 1000000000) ∧ (n.1 = none ↔ k = 0) ∧ ∀ b, n.1 = some b → b < k := by
  obtain ⟨o, p⟩ := n
  have e : nodeB (ndD (o, p)) k = (amongB (.int p) 0 1000000000 && (if k = 0 then noneB (onD o) else amongB (onD o) 0 ((k : Int) - 1))) := rfl
  rw [e]
  cases o with
  | none =>
    by_cases c : k = 0
    · simp [c, amongB, noneB, onD]
    · simp [c, amongB, noneB, onD]
  | some b =>
    by_cases c : k = 0
    · simp [c, amongB, noneB, onD]
    · simp [c, amongB, noneB, onD]
      intro _ _
      omega
theorem nodeB_ex {r : D} {k : Nat} (h : nodeB r k = true) : ∃ n : Nd, r = ndD n := by
  unfold nodeB at h
  split at h
  · rename_i a b
    rw [Bool.and_eq_true] at h
    obtain ⟨h1, h2⟩ := h
    cases b with
    | int p =>
      by_cases c : k = 0
      · rw [if_pos c] at h2
        cases a <;> first | exact ⟨(none, p), rfl⟩ | cases h2
      · rw [if_neg c] at h2
        cases a with
        | int i =>
          unfold amongB at h2
          rw [Bool.and_eq_true, decide_eq_true_eq, decide_eq_true_eq] at h2
          refine ⟨(some i.toNat, p), ?_⟩
          show PyData.tuple [.int i, .int p] = .tuple [.int (i.toNat : Int), .int p]
          rw [Int.toNat_of_nonneg h2.1]
        | _ => cases h2
    | _ => cases h1
  · cases h
theorem rows_nds : ∀ {rs : List D}, (∀ (i : Nat) (r : D), rs[i]? = some r → ∃ n : Nd, r = ndD n) → ∃ t : List Nd, rs = t.map ndD
  | [], _ => ⟨[], rfl⟩
  | r :: rs, h => by
    obtain ⟨n, rfl⟩ := h 0 r rfl
    obtain ⟨t, rfl⟩ := rows_nds (rs := rs) fun i r e => h (i + 1) r e
    exact ⟨n :: t, rfl⟩
theorem par_ord {t : List Nd} (h : Ord t) {j k : Nat} (e : par t j = some k) : k < j := par_lt h e
theorem unf_of {t : List Nd} (l1 : 1 ≤ t.length) (lm : t.length ≤ 40) (nd : ∀ (k : Nat) (n : Nd), t[k]? = some n → nodeB (ndD n) k = true) (f : ∀ k, k < t.length → tm t k ≤ 7 ∧ FairAt t k) : Unf 40 t := by
  have ho : Ord t := fun k n e => ⟨(nodeB_nd.mp (nd k n e)).2.1, (nodeB_nd.mp (nd k n e)).2.2⟩
  refine ⟨⟨l1, lm, ho, fun k n e => (nodeB_nd.mp (nd k n e)).1, fun k hk => (f k hk).1, fun k => ?_⟩, fun k n e c => ?_⟩
  · by_cases hk : k < t.length
    · rcases (f k hk).2 with z | z
      · rw [z]; exact Nat.zero_le _
      · exact z.1
    · have : nexts t k = [] := by
        cases q : nexts t k with
        | nil => rfl
        | cons j r =>
          obtain ⟨h1, h2⟩ := mem_nexts.mp (show j ∈ nexts t k by rw [q]; exact List.mem_cons_self)
          have := par_lt ho h2
          omega
      rw [this]; exact Nat.zero_le _
  · rcases (f k (get_lt e)).2 with z | z
    · exact absurd z c
    · rw [prc_get e] at z
      exact z.2
theorem unf_nd {t : List Nd} (h : Unf 40 t) {k : Nat} {n : Nd} (e : t[k]? = some n) : nodeB (ndD n) k = true := nodeB_nd.mpr ⟨h.pr k n e, (h.ord k n e).1, (h.ord k n e).2⟩
theorem unf_fair {t : List Nd} (h : Unf 40 t) {k : Nat} (hk : k < t.length) : FairAt t k := by
  by_cases c : nexts t k = []
  · exact .inl c
  · obtain ⟨n, e, p⟩ := prc_at hk
    have := h.fair k n e c
    rw [← p] at this
    exact .inr ⟨h.nx k, this⟩
def plainT (d : D) : Prop := isObjD d = false ∧ ∀ rs, d = .list rs → rs.length ≤ 1000000 ∧ ∀ r ∈ rs, plainR r
def GoodT (d : D) : Prop := ∃ t, d = .list (t.map ndD) ∧ Unf 40 t
abbrev st_need_tree : Stmt := top 23
abbrev NN_need_tree : List Str := ["tree", "number", "row"]
theorem sc_need_tree : FnScope ["tree", "number", "row"] ["tree"] (defScope st_need_tree) := ⟨rfl, rfl, rfl, by decide +kernel, rfl, by decide +kernel, by decide +kernel⟩
def S_need_tree (K : PySem.W.Frag) : SP := fun ds E P => ∃ d, ds = [d] ∧ plainT d ∧ (GoodT d → P .none) ∧ (¬ GoodT d → E (eA K "BadTree", none))
theorem m_need_tree {K : PySem.W.Frag} : MonoS (S_need_tree K) := fun _ _ _ _ _ he hP ⟨d, e, p, q1, q2⟩ => ⟨d, e, p, fun z => hP _ (q1 z), fun z => he _ (q2 z)⟩
theorem l_need_tree {K : PySem.W.Frag} : ∀ ds E P, S_need_tree K ds E P → ds.length = 1 := fun _ _ _ ⟨_, e, _⟩ => by rw [e]; rfl

theorem ok_need_tree (T : Top K mg) (A : DefAt K mg "need_tree" st_need_tree ["tree"]) (C_is_node : CalD P w K mg base CX0 3 "is_node" ["row", "number"] S_is_node) (C_time_of : CalD P w K mg base CX0 1 "time_of" ["tree", "node"] S_time_of) (C_is_fair : CalD P w K mg base CX0 2 "is_fair" ["tree", "node"] S_is_fair) : CalD P w K mg base (L2.CX P w) 4 "need_tree" ["tree"] (S_need_tree K) := by
  refine calX A sc_need_tree m_need_tree l_need_tree (fun f cdv A outer s H E hr Γ => ⟨_, (db_cons (dp_if (DW.dt (dw_or (dt_not (dt_val (de_isi (T := "list") (by decide) T.b_isinstance T.b_list (by decide +kernel) (de_var 0)))) (dw_or1 (dt_not (dt_lele de_int (de_len T.b_len (da_cons (de_var 0) da_nil)) (de_con T.c_MOST_NODES))))))
    (db_one (dp_raiseF T.x_BadTree (takes_of rfl rfl rfl rfl)))
    db_nil)
    (db_cons (dp_for (vs := [1, 2]) (passes_of rfl) (di_enum T.b_enumerate (de_var 0)) (dg_t (n := 2) (dgs_c (dg_name 1 sc_need_tree.nd) (dgs_c (dg_name 2 sc_need_tree.nd) dgs_nil)))
    (db_one (dp_if (dt_not (dt_val (de_cal C_is_node hr (by decide) (fun _ => passZ) (da_cons (de_var 2) (da_cons (de_var 1) da_nil)))))
    (db_one (dp_raiseF T.x_BadTree (takes_of rfl rfl rfl rfl)))
    db_nil)))
    (db_one (dp_for (vs := [1]) (passes_of rfl) (di_range1 T.b_range (de_len T.b_len (da_cons (de_var 0) da_nil))) (dg_name 1 sc_need_tree.nd)
    (db_one (dp_if (DW.dt (dw_or (dt_gt (de_cal C_time_of hr (by decide) (fun _ => passZ) (da_cons (de_var 0) (da_cons (de_var 1) da_nil))) (de_con T.c_MOST_TIME)) (dw_or1 (dt_not (dt_val (de_cal C_is_fair hr (by decide) (fun _ => passZ) (da_cons (de_var 0) (da_cons (de_var 1) da_nil))))))))
    (db_one (dp_raiseF T.x_BadTree (takes_of rfl rfl rfl rfl)))
    db_nil)))))), fun ds E P h => ?_⟩)
  obtain ⟨d, rfl, ⟨ho, hr2⟩, hG, hB⟩ := h
  have a4 : (1000000 : Nat) + 10 < sizeLine := by decide
  have nol : (∀ rs, d ≠ .list rs) → ¬ GoodT d := fun z ⟨t, e, _⟩ => z _ e
  refine isi_of ho ?_
  cases d with
  | list rs =>
    obtain ⟨hl, hp⟩ := hr2 rs rfl
    have bad : ¬ (1 ≤ rs.length ∧ rs.length ≤ 40) → ¬ GoodT (.list rs) := fun c ⟨t, e, ht⟩ => by
      injection e with e
      subst e
      rw [List.length_map] at c
      exact c ⟨ht.l1, ht.lm⟩
    refine bif_dec (fun h1 => ?_) (fun h1 => hB (bad fun z => h1 (by have := z.1; omega)))
    have h1 : (1 : Int) ≤ rs.length := h1
    by_cases h2 : (rs.length : Int) ≤ 40
    case neg => exact bif_true (by show (!decide ((rs.length : Int) ≤ 40)) = true; rw [decide_eq_false h2]; rfl) (hB (bad fun z => h2 (by have := z.2; omega)))
    refine bif_false (by show (!decide ((rs.length : Int) ≤ 40)) = false; rw [decide_eq_true h2]; rfl) ?_
    refine nextK ?_
    show forK _ _ _ _ (enumL rs) _
    have em : enumL rs = (rs.zipIdx).map fun p => PyData.tuple [.int (p.2 : Nat), p.1] := by
      have := enumL_map rs id
      rw [List.map_id] at this
      exact this
    rw [em]
    refine forK_nat (fun i δ => ∃ (a1 a2 : Option Sl), (∀ (j : Nat) (r : D), rs[j]? = some r → j < i → nodeB r j = true) ∧ (notIo a1 = true ∧ notIo a2 = true) ∧ δ = [some (.sh (.list rs)), a1, a2]) ?_ ?_ _ ⟨none, none, fun _ _ _ z => absurd z (Nat.not_lt_zero _), ⟨rfl, rfl⟩, rfl⟩
    · rintro δ ⟨a1, a2, hn, ⟨h1', h2'⟩, rfl⟩
      rw [List.length_zipIdx] at hn
      have hn : ∀ (j : Nat) (r : D), rs[j]? = some r → nodeB r j = true := fun j r e => hn j r e (get_lt e)
      obtain ⟨t, rfl⟩ := rows_nds fun i r e => nodeB_ex (hn i r e)
      rw [List.length_map] at h1 h2
      have hno : ∀ (k : Nat) (n : Nd), t[k]? = some n → nodeB (ndD n) k = true := fun k n e => hn k _ (by rw [List.getElem?_map, e]; rfl)
      have ho : Ord t := fun k n e => ⟨(nodeB_nd.mp (hno k n e)).2.1, (nodeB_nd.mp (hno k n e)).2.2⟩
      have lt' : ((t.map ndD).length : Int).toNat = t.length := by rw [List.length_map]; omega
      have back : ∀ k, k < t.length → ¬ (tm t k ≤ 7 ∧ FairAt t k) → ¬ GoodT (.list (t.map ndD)) := fun k hk z ⟨t2, e, ht⟩ => by
        injection e with e
        have e := nds_inj e
        subst e
        exact z ⟨ht.tm k hk, unf_fair ht hk⟩
      refine nextK ?_
      refine ⟨⟨by rw [List.length_map]; omega, by rw [List.length_map]; omega⟩, ?_⟩
      show forK _ _ _ _ (rangeL 0 ((t.map ndD).length : Int).toNat) _
      rw [lt']
      refine forK_nat (xs := List.range t.length) (g := fun i => PyData.int (0 + (i : Nat))) (fun i δ => ∃ (a1 a2 : Option Sl), (∀ k, k < i → tm t k ≤ 7 ∧ FairAt t k) ∧ (notIo a1 = true ∧ notIo a2 = true) ∧ δ = [some (.sh (.list (t.map ndD))), a1, a2]) ?_ ?_ _ ⟨a1, a2, fun _ z => absurd z (Nat.not_lt_zero _), ⟨h1', h2'⟩, rfl⟩
      · rintro δ ⟨b1, b2, hf, _, rfl⟩
        rw [List.length_range] at hf
        exact hG ⟨t, rfl, unf_of (by omega) (by omega) hno hf⟩
      · rintro i k δ hi ⟨b1, b2, hf, ⟨g1, g2⟩, rfl⟩ F hF
        obtain ⟨rfl, hk⟩ := range_get hi
        refine nameG_of g1 ?_
        rw [show (0 + (k : Nat) : Int) = (k : Int) by omega]
        refine ⟨t, k, rfl, ho, hk, ?_⟩
        by_cases c : (7 : Int) < (tm t k : Nat)
        · exact bif_true (by show decide ((7 : Int) < (tm t k : Nat)) = true; exact decide_eq_true c) (hB (back k hk fun z => by have := z.1; omega))
        refine bif_false (by show decide ((7 : Int) < (tm t k : Nat)) = false; exact decide_eq_false c) ?_
        refine ⟨t, k, rfl, by omega, hk, ?_⟩
        by_cases c2 : FairAt t k
        · refine bif_false (by rw [decide_eq_true c2]; rfl) ?_
          refine hF _ ⟨some (.sh (.int (k : Int))), b2, fun j hj => ?_, ⟨rfl, g2⟩, rfl⟩
          by_cases e : j = k
          · subst e; exact ⟨by omega, c2⟩
          · exact hf j (by omega)
        · exact bif_true (by rw [decide_eq_false c2]; rfl) (hB (back k hk fun z => c2 z.2))
    · rintro i ⟨r, i2⟩ δ hi ⟨a1, a2, hn, ⟨h1', h2'⟩, rfl⟩ F hF
      obtain ⟨hr3, hi2⟩ := DL.zipIdx_get hi
      have hi2 : i2 = i := hi2
      subst hi2
      have hr3 : rs[i2]? = some r := hr3
      refine ⟨rfl, ?_⟩
      refine nameG_of h1' ?_
      refine nameG_of h2' ?_
      refine ⟨r, i2, rfl, hp r (get_mem hr3), ?_⟩
      cases q : nodeB r i2 with
      | false =>
        refine hB fun ⟨t, e, ht⟩ => ?_
        injection e with e
        subst e
        rw [List.getElem?_map] at hr3
        obtain ⟨n, hn2, rfl⟩ := Option.map_eq_some_iff.mp hr3
        rw [unf_nd ht hn2] at q
        cases q
      | true =>
        refine hF _ ⟨some (.sh (.int (i2 : Int))), some (.sh r), fun j r' e z => ?_, ⟨rfl, rfl⟩, rfl⟩
        by_cases c : j = i2
        · subst c
          rw [hr3] at e
          cases e
          exact q
        · exact hn j r' e (by omega)
  | _ => exact hB (nol fun _ z => by cases z)
end
end KX

namespace KX
open PySem PySem.Spec PyProof.Rows L2 DL
section
variable [NX.TabsC]
variable {P : Program} {w : World} {K : PySem.W.Frag} {mg : Str → Option Value} {base : Heap}
abbrev st_ends : Stmt := top 24
abbrev NN_ends : List Str := ["tree", "number"]
theorem sc_ends : FnScope ["tree", "number"] ["tree"] (defScope st_ends) := ⟨rfl, rfl, rfl, by decide +kernel, rfl, by decide +kernel, by decide +kernel⟩
def S_ends : SP := fun ds _ P => ∃ (t : List Nd), ds = [.list (t.map ndD)] ∧ (t.length ≤ 1000) ∧ P (.list ((endsF t).map fun j : Nat => PyData.int (j : Int)))
theorem m_ends : MonoS S_ends := fun _ _ _ _ _ _ hP ⟨t, e, h0, qq⟩ => ⟨t, e, h0, hP _ qq⟩
theorem l_ends : ∀ ds E P, S_ends ds E P → ds.length = 1 := fun _ _ _ ⟨t, e, _⟩ => by rw [e]; rfl

theorem ok_ends (T : Top K mg) (A : DefAt K mg "ends" st_ends ["tree"]) (C_next_nodes : CalN P w K mg base CX0 1 "next_nodes" ["tree", "node"] S_next_nodes) : CalD P w K mg base CX0 2 "ends" ["tree"] S_ends := by
  refine calD A sc_ends m_ends l_ends (fun f cdv A outer s H E hr Γ => ⟨_, (db_one (dp_ret (de_of (dn_lc [("number", 1)] sc_ends.nd (di_range1 T.b_range (de_len T.b_len (da_cons (de_var 0) da_nil))) (blkOk_by (N := NN_ends) (sc := defScope st_ends) (by decide +kernel)) (fun _ _ _ _ _ => (dg_name 1 sc_ends.nd)) (fun _ _ _ _ _ => (dts_one (dt_eq (hu64 hr) (de_of (dn_cal C_next_nodes hr (by decide) (fun _ => passZ) (da_cons (de_var 0) (da_cons (de_var 1) da_nil)))) (de_lst da_nil)))) (fun _ _ _ _ _ => (de_var 1)))))), fun ds E P h => ?_⟩)
  obtain ⟨t, rfl, hl, hP⟩ := h
  have a4 : (1000000 : Nat) + 10 < sizeLine := by decide
  have lt' : ((t.map ndD).length : Int).toNat = t.length := by rw [List.length_map]; omega
  refine ⟨⟨by rw [List.length_map]; omega, by rw [List.length_map]; omega⟩, ?_⟩
  show (rangeL 0 ((t.map ndD).length : Int).toNat).length ≤ sizeLine ∧ ioG _ _ (lcK _ _ _ _ _ (rangeL 0 ((t.map ndD).length : Int).toNat) _ _)
  rw [lt']
  refine ⟨by unfold rangeL; rw [List.length_map, List.length_range]; omega, ioG_of rfl ?_⟩
  refine lcK_fm (xs := List.range t.length) (g := fun i => PyData.int (0 + (i : Nat))) (fun j => bif decide (nexts t j = []) then some (.int (j : Int)) else none) ?_ ?_
  · intro j hj acc F hF
    rw [show (0 + (j : Nat) : Int) = (j : Int) by omega]
    refine ⟨t, j, rfl, hl, ?_⟩
    refine eqG_of (.inr ⟨shaped_nats _, rfl⟩) ?_
    rw [eqv_nats_nil]
    cases q : decide (nexts t j = []) with
    | true => rw [q] at hF; exact hF
    | false =>
      rw [q, cond_false, Option.toList_none, List.append_nil] at hF
      exact hF
  · rw [filterMap_if]
    exact hP
abbrev st_row_to : Stmt := top 25
abbrev NN_row_to : List Str := ["tree", "end", "found"]
theorem sc_row_to : FnScope ["tree", "end", "found"] ["tree", "end"] (defScope st_row_to) := ⟨rfl, rfl, rfl, by decide +kernel, rfl, by decide +kernel, by decide +kernel⟩
def S_row_to : SP := fun ds _ P => ∃ (t : List Nd) (k : Nat), ds = [.list (t.map ndD), .int k] ∧ (Pre 40 t) ∧ (k < t.length) ∧ P (.list ((rowTo t k).map fun j : Nat => PyData.int (j : Int)))
theorem m_row_to : MonoS S_row_to := fun _ _ _ _ _ _ hP ⟨t, k, e, h0, h1, qq⟩ => ⟨t, k, e, h0, h1, hP _ qq⟩
theorem l_row_to : ∀ ds E P, S_row_to ds E P → ds.length = 2 := fun _ _ _ ⟨t, k, e, _⟩ => by rw [e]; rfl

theorem ok_row_to (T : Top K mg) (A : DefAt K mg "row_to" st_row_to ["tree", "end"]) : CalD P w K mg base CX0 1 "row_to" ["tree", "end"] S_row_to := by
  refine calD A sc_row_to m_row_to l_row_to (fun f cdv A outer s H E hr Γ => ⟨_, (db_cons (dp_setN 2 sc_row_to.nd (dn_lst (da_cons (de_var 1) da_nil)))
    (db_cons (dp_while PassesOwn.never (dt_notN (de_ix (de_ix (de_var 0) (de_ixO 2 (pv 2) (de_neg de_int))) de_int))
    (db_one (dp_app 2 (fun h => pe_bm PySem.F.plainAttrs_list PySem.F.slot_list_append PySem.F.type_list_append mt_append (pv 2) h) (de_ix (de_ix (de_var 0) (de_ixO 2 (pv 2) (de_neg de_int))) de_int))))
    (db_one (dp_ret (de_rev (de_var 2)))))), fun ds E P h => ?_⟩)
  obtain ⟨t, k, rfl, ht, hk, hP⟩ := h
  have a4 : (1000000 : Nat) + 10 < sizeLine := by decide
  refine cut1 (fun δ => δ = [some (.sh (.list (t.map ndD))), some (.sh (.int (k : Int))), some (.ow (.lst (([k].map fun j : Nat => PyData.int (j : Int)))))]) (fun P' h => h _ rfl) ?_
  rintro δ rfl
  refine ⟨fun μ δ => ∃ (l : List Nat) (j : Nat), l ++ up t j = up t k ∧ j < t.length ∧ j = μ ∧ δ = [some (.sh (.list (t.map ndD))), some (.sh (.int (k : Int))), some (.ow (.lst (((l ++ [j]).map fun j : Nat => PyData.int (j : Int)))))], ⟨k, [], k, rfl, hk, rfl, rfl⟩, ?_⟩
  rintro μ δ ⟨l, j, hu, hj, rfl, rfl⟩
  obtain ⟨n, hn⟩ : ∃ n, t[j]? = some n := ⟨_, List.getElem?_eq_getElem hj⟩
  have ej : atI ((l ++ [j]).map fun j : Nat => PyData.int (j : Int)) (-1) = some (.int (j : Int)) := by
    refine atI_neg1 ?_
    rw [List.map_append]
    exact put_last
  have hl : (l ++ [j]).length ≤ 8 := by
    have h1 := up_len ht.ord k
    have h2 := up_len ht.ord j
    have h3 := ht.tm k hk
    rw [← hu, List.length_append] at h1
    rw [List.length_append, List.length_singleton]
    omega
  refine optK_some ej ?_
  refine optK_some (nd_at hn) ?_
  have ep := par_get hn
  cases e : n.1 with
  | none =>
    have e2 : ndD n = .tuple [.none, .int n.2] := by unfold ndD; rw [e]; rfl
    rw [e2]
    rw [up_none (ep.trans e)] at hu
    have er : ((l ++ [j]).map fun j : Nat => PyData.int (j : Int)).reverse = (rowTo t k).map fun j : Nat => PyData.int (j : Int) := by
      unfold rowTo
      rw [← hu, List.map_reverse]
    have hP' : P (.list (((l ++ [j]).map fun j : Nat => PyData.int (j : Int)).reverse)) := by rw [er]; exact hP
    exact hP'
  | some b =>
    have e2 : ndD n = .tuple [.int (b : Int), .int n.2] := by unfold ndD; rw [e]; rfl
    have hb := par_lt ht.ord (ep.trans e)
    rw [up_some ht.ord (ep.trans e)] at hu
    rw [e2]
    refine optK_some ej ?_
    refine optK_some (nd_at hn) ?_
    rw [e2]
    refine ⟨by rw [List.length_map]; omega, b, hb, l ++ [j], b, by rw [List.append_assoc]; exact hu, by omega, rfl, ?_⟩
    rw [List.map_append (l₁ := l ++ [j])]
    rfl
end
end KX

namespace KX
open PySem PySem.Spec PyProof.Rows L2 DL
section
variable [NX.TabsC]
variable {P : Program} {w : World} {K : PySem.W.Frag} {mg : Str → Option Value} {base : Heap}
def firstS : Option Nat → Str
  | none => Str.ofString "-"
  | some b => Str.ofString (toString (b : Int))
def rowS (n : Nd) : Str := firstS n.1 ++ Str.ofString " " ++ Str.ofString (toString n.2)
def nlS : Str := Str.ofString "\n"
def treeS (t : List Nd) : Str := Txt.join nlS (t.map rowS)
theorem strsD_map : ∀ l : List Str, strsD (l.map PyData.str) = some l
  | [] => rfl
  | x :: l => by
    show (strsD (l.map PyData.str)).map (x :: ·) = _
    rw [strsD_map l]
    rfl
theorem bt_num {i : Int} (h0 : 0 ≤ i) (h1 : i ≤ 1000000000) : Bt 1900 i := Nat.lt_of_lt_of_le (show i.natAbs < 2 ^ 31 by omega) (Nat.pow_le_pow_right (by decide) (by decide))
theorem len_add (a b : Str) : (a ++ b).length = a.length + b.length := by rw [TL.len_tl, TL.tl_append, List.length_append, ← TL.len_tl, ← TL.len_tl]
theorem first_len {o : Option Nat} (h : ∀ b, o = some b → b ≤ 1000) : (firstS o).length ≤ 601 := by
  cases o with
  | none => exact (by decide : 1 ≤ 601)
  | some b => exact int_len (bt_num (by omega) (by have := h b rfl; omega))
theorem row_sz {t : List Nd} (h : Pre 40 t) {k : Nat} {n : Nd} (e : t[k]? = some n) : (firstS n.1).length ≤ 601 ∧ (Str.ofString (toString n.2)).length ≤ 601 ∧ (rowS n).length ≤ 1203 := by
  have h1 := first_len (o := n.1) fun b z => by
    have := (h.ord k n e).2 b z
    have := get_lt e
    have := h.lm
    omega
  have h2 := int_len (bt_num (h.pr k n e).1 (h.pr k n e).2)
  refine ⟨h1, h2, ?_⟩
  unfold rowS
  rw [len_add, len_add]
  show _ + 1 + _ ≤ _
  omega
theorem sum_le {l : List Nat} {m : Nat} (h : ∀ x ∈ l, x ≤ m) : l.sum ≤ l.length * m := by
  induction l with
  | nil => exact Nat.zero_le _
  | cons a r ih =>
    have h1 := h a List.mem_cons_self
    have h2 := ih fun x hx => h x (List.mem_cons_of_mem _ hx)
    rw [List.sum_cons, List.length_cons, Nat.succ_mul]
    omega
abbrev st_tree_text : Stmt := top 26
abbrev NN_tree_text : List Str := ["tree", "rows", "before", "price", "first"]
theorem sc_tree_text : FnScope ["tree", "rows", "before", "price", "first"] ["tree"] (defScope st_tree_text) := ⟨rfl, rfl, rfl, by decide +kernel, rfl, by decide +kernel, by decide +kernel⟩
def S_tree_text : SP := fun ds _ P => ∃ (t : List Nd), ds = [.list (t.map ndD)] ∧ (Pre 40 t) ∧ P (.str (treeS t))
theorem m_tree_text : MonoS S_tree_text := fun _ _ _ _ _ _ hP ⟨t, e, h0, qq⟩ => ⟨t, e, h0, hP _ qq⟩
theorem l_tree_text : ∀ ds E P, S_tree_text ds E P → ds.length = 1 := fun _ _ _ ⟨t, e, _⟩ => by rw [e]; rfl

theorem ok_tree_text (T : Top K mg) (A : DefAt K mg "tree_text" st_tree_text ["tree"]) : CalD P w K mg base CX0 1 "tree_text" ["tree"] S_tree_text := by
  refine calD A sc_tree_text m_tree_text l_tree_text (fun f cdv A outer s H E hr Γ => ⟨_, (db_cons (dp_setN 1 sc_tree_text.nd (dn_lst da_nil))
    (db_cons (dp_for (vs := [2, 3]) PassesOwn.never (di_list (de_var 0)) (dg_t (n := 2) (dgs_c (dg_name 2 sc_tree_text.nd) (dgs_c (dg_name 3 sc_tree_text.nd) dgs_nil)))
    (db_cons (dp_set 4 sc_tree_text.nd (de_if (dt_isN (de_var 2)) de_str (de_strOf T.b_str (da_cons (de_var 2) da_nil))))
    (db_one (dp_app 1 (fun h => pe_bm PySem.F.plainAttrs_list PySem.F.slot_list_append PySem.F.type_list_append mt_append (pv 1) h) (de_add (de_add (de_var 4) de_str) (de_strOf T.b_str (da_cons (de_var 3) da_nil)))))))
    (db_one (dp_ret (de_join de_str (de_var 1)))))), fun ds E P h => ?_⟩)
  obtain ⟨t, rfl, ht, hP⟩ := h
  have a4 : (1500000 : Nat) + 10 < sizeLine := by decide
  have lm := ht.lm
  refine cut1 (fun δ => δ = [some (.sh (.list (t.map ndD))), some (.ow (.lst (([] : List Nd).map (fun n => PyData.str (rowS n))))), none, none, none]) (fun P' h => h _ rfl) ?_
  rintro δ rfl
  refine cut1 (fun δ => ∃ (a2 a3 a4 : Option Sl), (notIo a2 = true ∧ notIo a3 = true ∧ notIo a4 = true) ∧ δ = [some (.sh (.list (t.map ndD))), some (.ow (.lst (t.map (fun n => PyData.str (rowS n))))), a2, a3, a4]) ?_ ?_
  · intro P' h
    refine forK_nat (xs := t) (g := ndD) (fun i δ => ∃ (a2 a3 a4 : Option Sl), (notIo a2 = true ∧ notIo a3 = true ∧ notIo a4 = true) ∧ δ = [some (.sh (.list (t.map ndD))), some (.ow (.lst ((t.take i).map (fun n => PyData.str (rowS n))))), a2, a3, a4]) ?_ ?_ _ ⟨none, none, none, ⟨rfl, rfl, rfl⟩, rfl⟩
    · rintro δ ⟨a2, a3, a4, hh, rfl⟩
      rw [List.take_length]
      exact h _ ⟨a2, a3, a4, hh, rfl⟩
    · rintro i n δ hi ⟨a2, a3, a4, ⟨h2, h3, h4⟩, rfl⟩ F hF
      obtain ⟨r1, r2, r3⟩ := row_sz ht hi
      have bp := log_lt (bt_num (ht.pr i n hi).1 (ht.pr i n hi).2)
      refine ⟨rfl, ?_⟩
      refine nameG_of h2 ?_
      refine nameG_of h3 ?_
      have pl : ((t.take i).map fun n => PyData.str (rowS n)).length ≤ 40 := by
        rw [List.length_map]
        have := List.length_take_le i t
        have := List.length_take_le' i t
        omega
      have e3 : ((t.take (i + 1)).map fun n => PyData.str (rowS n)) = ((t.take i).map fun n => PyData.str (rowS n)) ++ [PyData.str (rowS n)] := by rw [take_succ_of hi, List.map_append]; rfl
      have l1 : (firstS n.1).length + 1 ≤ sizeLine := by omega
      have l2 : (firstS n.1 ++ Str.ofString " ").length + (Str.ofString (toString n.2)).length ≤ sizeLine := by
        rw [len_add]
        show _ + 1 + _ ≤ _
        omega
      cases q : n.1 with
      | none =>
        rw [q] at l1 l2
        refine setK_of h4 (nextK ?_)
        refine ⟨l1, bp, l2, ?_⟩
        refine ⟨by omega, ?_⟩
        refine hF _ ⟨some (.sh .none), some (.sh (.int n.2)), some (.sh (.str (firstS none))), ⟨rfl, rfl, rfl⟩, ?_⟩
        rw [e3]
        unfold rowS
        rw [q]
        rfl
      | some b =>
        rw [q] at l1 l2
        have hb : b ≤ 40 := by
          have := (ht.ord i n hi).2 b q
          have := get_lt hi
          omega
        refine ⟨log_lt (bt_num (by omega) (by omega)), setK_of h4 (nextK ?_)⟩
        refine ⟨l1, bp, l2, ?_⟩
        refine ⟨by omega, ?_⟩
        refine hF _ ⟨some (.sh (.int (b : Int))), some (.sh (.int n.2)), some (.sh (.str (firstS (some b)))), ⟨rfl, rfl, rfl⟩, ?_⟩
        rw [e3]
        unfold rowS
        rw [q]
        rfl
  rintro δ ⟨a2, a3, a4, hh, rfl⟩
  have e : (t.map fun n => PyData.str (rowS n)) = (t.map rowS).map PyData.str := by rw [List.map_map]; rfl
  rw [e]
  refine optK_some (strsD_map _) ⟨?_, hP⟩
  rw [List.length_map, List.map_map]
  have := sum_le (l := t.map fun n => (rowS n).length) (m := 1203) fun x hx => by
    obtain ⟨n, hn, rfl⟩ := List.mem_map.mp hx
    obtain ⟨k, hk⟩ := mem_get hn
    exact (row_sz ht hk).2.2
  rw [List.length_map] at this
  show (t.map fun n => (rowS n).length).sum + t.length * 1 ≤ 16777216
  omega
end
end KX

namespace KX
open PySem PySem.Spec PyProof.Rows L2 DL
section
variable [NX.TabsC]
variable {P : Program} {w : World} {K : PySem.W.Frag} {mg : Str → Option Value} {base : Heap}
abbrev st_number_of : Stmt := top 13
abbrev NN_number_of : List Str := ["text", "sign"]
theorem sc_number_of : FnScope ["text", "sign"] ["text"] (defScope st_number_of) := ⟨rfl, rfl, rfl, by decide +kernel, rfl, by decide +kernel, by decide +kernel⟩
def S_number_of : SP := fun ds _ P => ∃ (t : Str), ds = [.str t] ∧ (t.length ≤ 1000000) ∧ P (optI (numO (TL.tl t)))
theorem m_number_of : MonoS S_number_of := fun _ _ _ _ _ _ hP ⟨t, e, h0, qq⟩ => ⟨t, e, h0, hP _ qq⟩
theorem l_number_of : ∀ ds E P, S_number_of ds E P → ds.length = 1 := fun _ _ _ ⟨t, e, _⟩ => by rw [e]; rfl

theorem ok_number_of (T : Top K mg) (A : DefAt K mg "number_of" st_number_of ["text"]) : CalD P w K mg base CX0 1 "number_of" ["text"] S_number_of := by
  refine calD A sc_number_of m_number_of l_number_of (fun f cdv A outer s H E hr Γ => ⟨_, (db_cons (dp_if (DW.dt (dw_or (dt_eq (hu64 hr) (de_var 0) de_str) (dw_or (dt_gt (de_len T.b_len (da_cons (de_var 0) da_nil)) (de_con T.c_MOST_FIGURES)) (dw_or1 (DW.dt (dw_and (dt_eq (hu64 hr) (de_ix (de_var 0) de_int) de_str) (dw_and1 (dt_ne (hu64 hr) (de_var 0) de_str))))))))
    (db_one (dp_ret de_non))
    db_nil)
    (db_cons (dp_for (vs := [1]) PassesOwn.never (di_str (de_var 0)) (dg_name 1 sc_number_of.nd)
    (db_one (dp_if (dt_notIn (hu65 hr) (de_var 1) (de_con T.c_FIGURES))
    (db_one (dp_ret de_non))
    db_nil)))
    (db_one (dp_ret (de_intOf T.b_int (da_cons (de_var 0) da_nil)))))), fun ds E P h => ?_⟩)
  obtain ⟨t, rfl, hl, hP⟩ := h
  have a4 : (1000000 : Nat) < sizeLine := by decide
  have lt := TL.len_tl t
  refine bif_eqs (fun h => ?_) (fun h => ?_)
  · rw [tl_none] at h
    unfold numO at hP
    rw [if_pos (.inl h)] at hP
    exact hP
  · rw [tl_none] at h
    refine ⟨by omega, ?_⟩
    refine bif_dec (fun h2 => ?_) (fun h2 => ?_)
    · have h2 : (400 : Int) < t.length := h2
      unfold numO at hP
      rw [if_pos (.inr (.inl (by omega)))] at hP
      exact hP
    · have h2 : ¬ ((400 : Int) < t.length) := h2
      obtain ⟨c, r, e⟩ : ∃ c r, TL.tl t = c :: r := by
        cases q : TL.tl t with
        | nil => exact absurd q h
        | cons c r => exact ⟨c, r, rfl⟩
      have e0 : (TL.tl t)[0]? = some c := by rw [e]; rfl
      refine ⟨by omega, optK_some (atI_nat (j := 0) e0) ?_⟩
      have main : ¬ badN (TL.tl t) → forK (nameG 1) (ifS (valT (opR (inDD true) (varR 1) (cR (.str (Str.ofString "0123456789"))))) (retR (cR .none)) nxR) E0K (seqK (retR (bR intG (consA (varR 0) nilA))) E0K (retK P)) (t.cps.toList.map fun c => .str ⟨#[c]⟩) [some (.sh (.str t)), none] := by
        intro hb
        refine forK_nat (fun k δ => ∃ a : Option Sl, δ = [some (.sh (.str t)), a] ∧ notIo a = true ∧ ∀ c ∈ (TL.tl t).take k, dig c = true) ?_ ?_ _ ⟨none, rfl, rfl, fun c hc => by cases hc⟩
        · rintro δ ⟨a, rfl, _, ha⟩
          rw [List.take_length] at ha
          have hv := PySem.intText_digits (x := t) (fun c hc => dig_iff.mp (ha c hc)) h (by omega)
          refine ⟨_, hv, by omega, ?_⟩
          unfold numO at hP
          rw [if_neg hb, if_pos (List.all_eq_true.mpr ha)] at hP
          exact hP
        · rintro k c δ hk ⟨a, rfl, ha, hd⟩ F hF
          refine nameG_of ha ?_
          have fg := figs c
          by_cases hc : dig c = true
          · have hm := fg.mpr hc
            refine bif_false (by show (!decide (c ∈ (Str.ofString "0123456789").cps.toList)) = false; rw [decide_eq_true hm]; rfl) ?_
            refine hF _ ⟨some (.sh (.str ⟨#[c]⟩)), rfl, rfl, fun x hx => ?_⟩
            rw [take_succ_of hk] at hx
            rcases List.mem_append.mp hx with hx | hx
            · exact hd x hx
            · rw [List.mem_singleton.mp hx]; exact hc
          · have hm : ¬ c ∈ (Str.ofString "0123456789").cps.toList := fun z => hc (fg.mp z)
            refine bif_true (by show (!decide (c ∈ (Str.ofString "0123456789").cps.toList)) = true; rw [decide_eq_false hm]; rfl) ?_
            have : numO (TL.tl t) = none := numO_free ⟨c, get_mem hk, by simpa using hc⟩
            rw [this] at hP
            exact hP
      refine bif_eqs (fun h3 => ?_) (fun h3 => ?_)
      · have h3 : [c] = TL.tl (Str.ofString "0") := h3
        rw [tl_zero] at h3
        injection h3 with h3
        refine bif_nes (fun h4 => ?_) (fun h4 => ?_)
        · have h4 : TL.tl t ≠ TL.tl (Str.ofString "0") := h4
          rw [tl_zero] at h4
          unfold numO at hP
          rw [if_pos (.inr (.inr ⟨by rw [e, h3]; rfl, h4⟩))] at hP
          exact hP
        · have h4 : TL.tl t = TL.tl (Str.ofString "0") := h4
          rw [tl_zero] at h4
          exact main fun z => by
            rcases z with z | z | z
            · exact h z
            · omega
            · exact z.2 h4
      · have h3 : [c] ≠ TL.tl (Str.ofString "0") := h3
        rw [tl_zero] at h3
        exact main fun z => by
          rcases z with z | z | z
          · exact h z
          · omega
          · rw [e] at z
            injection z.1 with z1
            exact h3 (by rw [z1])
end
end KX

namespace KX
open PySem PySem.Spec PyProof.Rows L2 DL
section
variable [NX.TabsC]
variable {P : Program} {w : World} {K : PySem.W.Frag} {mg : Str → Option Value} {base : Heap}
def spS : Str := Str.ofString " "
def nodeO (a b : List Nat) : D :=
  if 10 < b.length ∨ 2 < a.length ∨ numO b = none then .none
  else if a = [45] then .tuple [.none, optI (numO b)]
  else if numO a = none then .none
  else .tuple [optI (numO a), optI (numO b)]
def lineD (s : Str) : D := nodeO (TL.tl (Txt.partition s spS).1) (TL.tl (Txt.partition s spS).2.2)
theorem optI_none {o : Option Int} {A B : Prop} (h1 : o = none → A) (h2 : o ≠ none → B) : bifP (match optI o with | .none => true | _ => false) A B := by
  cases o with
  | none => exact h1 rfl
  | some i => exact h2 (by simp)
theorem tl_sp : TL.tl spS = [32] := by decide +kernel
theorem tl_nl : TL.tl nlS = [10] := by decide +kernel
/-- a text has not the sign x, or is cut at its first one -/
theorem cut_at {x : Nat} {sep : Str} (e : TL.tl sep = [x]) (t : Str) : x ∉ TL.tl t ∨ ∃ a b : Str, t = a ++ sep ++ b ∧ x ∉ TL.tl a := by
  by_cases h : x ∈ TL.tl t
  · right
    obtain ⟨a, b, e2, hn⟩ := first_at h
    exact ⟨⟨a.toArray⟩, ⟨b.toArray⟩, TL.ext_tl (by rw [TL.tl_append, TL.tl_append, e, e2]; show a ++ x :: b = a ++ [x] ++ b; simp), hn⟩
  · exact .inl h
theorem part_none {s : Str} (h : 32 ∉ TL.tl s) : Txt.partition s spS = (s, Str.empty, Str.empty) := TL.partition_none tl_sp h
theorem part_app {a b : Str} (h : 32 ∉ TL.tl a) : Txt.partition (a ++ spS ++ b) spS = (a, spS, b) := TL.partition_app tl_sp h
theorem part_len (s : Str) : (Txt.partition s spS).1.length ≤ s.length ∧ (Txt.partition s spS).2.2.length ≤ s.length := by
  rcases cut_at tl_sp s with h | ⟨a, b, rfl, h⟩
  · rw [part_none h]
    exact ⟨Nat.le_refl _, Nat.zero_le _⟩
  · rw [part_app h, len_add, len_add]
    dsimp only
    omega
abbrev st_node_of : Stmt := top 27
abbrev NN_node_of : List Str := ["line", "first", "blank", "price"]
theorem sc_node_of : FnScope ["line", "first", "blank", "price"] ["line"] (defScope st_node_of) := ⟨rfl, rfl, rfl, by decide +kernel, rfl, by decide +kernel, by decide +kernel⟩
def S_node_of : SP := fun ds _ P => ∃ (s : Str), ds = [.str s] ∧ (s.length ≤ 1000000) ∧ P (lineD s)
theorem m_node_of : MonoS S_node_of := fun _ _ _ _ _ _ hP ⟨s, e, h0, qq⟩ => ⟨s, e, h0, hP _ qq⟩
theorem l_node_of : ∀ ds E P, S_node_of ds E P → ds.length = 1 := fun _ _ _ ⟨s, e, _⟩ => by rw [e]; rfl

theorem ok_node_of (T : Top K mg) (A : DefAt K mg "node_of" st_node_of ["line"]) (C_number_of : CalD P w K mg base CX0 1 "number_of" ["text"] S_number_of) : CalD P w K mg base CX0 2 "node_of" ["line"] S_node_of := by
  refine calD A sc_node_of m_node_of l_node_of (fun f cdv A outer s H E hr Γ => ⟨_, (db_cons (dp_unp (vs := [1, 2, 3]) (de_partition (de_var 0) de_str) (dg_t (n := 3) (dgs_c (dg_name 1 sc_node_of.nd) (dgs_c (dg_name 2 sc_node_of.nd) (dgs_c (dg_name 3 sc_node_of.nd) dgs_nil)))))
    (db_cons (dp_if (DW.dt (dw_or (dt_gt (de_len T.b_len (da_cons (de_var 3) da_nil)) de_int) (dw_or (dt_gt (de_len T.b_len (da_cons (de_var 1) da_nil)) de_int) (dw_or1 (dt_isN (de_cal C_number_of hr (by decide) (fun _ => passZ) (da_cons (de_var 3) da_nil)))))))
    (db_one (dp_ret de_non))
    db_nil)
    (db_cons (dp_if (dt_eq (hu64 hr) (de_var 1) de_str)
    (db_one (dp_ret (de_tup (da_cons de_non (da_cons (de_cal C_number_of hr (by decide) (fun _ => passZ) (da_cons (de_var 3) da_nil)) da_nil)))))
    db_nil)
    (db_cons (dp_if (dt_isN (de_cal C_number_of hr (by decide) (fun _ => passZ) (da_cons (de_var 1) da_nil)))
    (db_one (dp_ret de_non))
    db_nil)
    (db_one (dp_ret (de_tup (da_cons (de_cal C_number_of hr (by decide) (fun _ => passZ) (da_cons (de_var 1) da_nil)) (da_cons (de_cal C_number_of hr (by decide) (fun _ => passZ) (da_cons (de_var 3) da_nil)) da_nil))))))))), fun ds E P h => ?_⟩)
  obtain ⟨s, rfl, hl, hP⟩ := h
  have a4 : (1500000 : Nat) + 10 < sizeLine := by decide
  unfold lineD at hP
  refine cut1 (fun δ => δ = [some (.sh (.str (s))), some (.sh (.str ((Txt.partition s spS).1))), some (.sh (.str ((Txt.partition s spS).2.1))), some (.sh (.str ((Txt.partition s spS).2.2)))]) (fun P' h => ⟨⟨rfl, by omega⟩, rfl, h _ rfl⟩) ?_
  rintro δ rfl
  obtain ⟨z1, z2⟩ := part_len s
  generalize (Txt.partition s spS).1 = a at hP z1 ⊢
  generalize (Txt.partition s spS).2.1 = m
  generalize (Txt.partition s spS).2.2 = b at hP z2 ⊢
  have la := TL.len_tl a
  have lb := TL.len_tl b
  have no : (10 < (TL.tl b).length ∨ 2 < (TL.tl a).length ∨ numO (TL.tl b) = none) → P .none := fun z => by
    unfold nodeO at hP
    rw [if_pos z] at hP
    exact hP
  refine ⟨by omega, ?_⟩
  by_cases c1 : (10 : Int) < (b.length : Nat)
  · exact bif_true (by show decide ((10 : Int) < (b.length : Nat)) = true; exact decide_eq_true c1) (no (.inl (by omega)))
  refine bif_false (by show decide ((10 : Int) < (b.length : Nat)) = false; exact decide_eq_false c1) ?_
  refine ⟨by omega, ?_⟩
  by_cases c2 : (2 : Int) < (a.length : Nat)
  · exact bif_true (by show decide ((2 : Int) < (a.length : Nat)) = true; exact decide_eq_true c2) (no (.inr (.inl (by omega))))
  refine bif_false (by show decide ((2 : Int) < (a.length : Nat)) = false; exact decide_eq_false c2) ?_
  refine ⟨b, rfl, by omega, ?_⟩
  by_cases qn : numO (TL.tl b) = none
  · exact bif_true (by rw [qn]; rfl) (no (.inr (.inr qn)))
  obtain ⟨i, qb⟩ := Option.ne_none_iff_exists'.mp qn
  have hP2 : P (if TL.tl a = [45] then .tuple [.none, .int i] else if numO (TL.tl a) = none then .none else .tuple [optI (numO (TL.tl a)), .int i]) := by
    unfold nodeO at hP
    rw [if_neg (by rw [qb]; intro z; rcases z with z | z | z <;> first | omega | cases z), qb] at hP
    exact hP
  refine bif_false (by rw [qb]; rfl) (nxR_of (nextK ?_))
  refine bif_eqs (fun h => ?_) (fun h => ?_)
  · rw [tl_minus] at h
    rw [if_pos h] at hP2
    refine ⟨b, rfl, by omega, ?_⟩
    rw [qb]
    exact hP2
  · rw [tl_minus] at h
    rw [if_neg h] at hP2
    refine nextK ?_
    refine ⟨a, rfl, by omega, ?_⟩
    by_cases qm : numO (TL.tl a) = none
    · rw [if_pos qm] at hP2
      exact bif_true (by rw [qm]; rfl) hP2
    · obtain ⟨j, qa⟩ := Option.ne_none_iff_exists'.mp qm
      rw [qa, if_neg (by simp)] at hP2
      refine bif_false (by rw [qa]; rfl) (nxR_of (nextK ?_))
      refine ⟨a, rfl, by omega, ?_⟩
      rw [qa]
      refine ⟨b, rfl, by omega, ?_⟩
      rw [qb]
      exact hP2
end
end KX

namespace KX
open PySem PySem.Spec PyProof.Rows L2 DL
section
variable [NX.TabsC]
variable {P : Program} {w : World} {K : PySem.W.Frag} {mg : Str → Option Value} {base : Heap}
theorem nl_one {t : Str} (h : 10 ∉ TL.tl t) : Txt.split t nlS = [t] := by
  refine TL.map_tl_inj ?_
  have := TL.spl_join (s := 10) (S := []) (parts := [TL.tl t]) (by simp) (fun p hp => by rw [List.mem_singleton.mp hp]; exact h)
  rw [TL.split_spl t nlS (by rw [tl_nl]; simp) (TL.kind_ok (by decide +kernel)), tl_nl]
  exact this
theorem nl_more {a b : Str} (h : 10 ∉ TL.tl a) : Txt.split (a ++ nlS ++ b) nlS = a :: Txt.split b nlS := by
  refine TL.map_tl_inj ?_
  rw [List.map_cons, TL.split_spl _ nlS (by rw [tl_nl]; simp) (TL.kind_ok (by decide +kernel)), TL.split_spl _ nlS (by rw [tl_nl]; simp) (TL.kind_ok (by decide +kernel)), tl_nl, TL.tl_append, TL.tl_append, tl_nl, List.append_assoc]
  exact TL.spl_part1 (S := []) h
theorem nl_len : ∀ (n : Nat) (t : Str), t.length ≤ n → (Txt.split t nlS).length ≤ n + 1 ∧ ∀ y ∈ Txt.split t nlS, y.length ≤ n
  | n, t, h => by
    rcases cut_at tl_nl t with z | ⟨a, b, rfl, z⟩
    · rw [nl_one z]
      refine ⟨by show 1 ≤ n + 1; omega, fun y hy => ?_⟩
      rw [List.mem_singleton.mp hy]
      exact h
    · rw [len_add, len_add] at h
      have e1 : nlS.length = 1 := rfl
      match n, h with
      | 0, h => omega
      | m + 1, h =>
        obtain ⟨h1, h2⟩ := nl_len m b (by omega)
        rw [nl_more z]
        refine ⟨by rw [List.length_cons]; omega, fun y hy => ?_⟩
        rcases List.mem_cons.mp hy with w | w
        · rw [w]; omega
        · have := h2 y w; omega
def linesD (s : Str) : D := .list ((Txt.split s nlS).map lineD)
theorem plain_line (s : Str) : plainR (lineD s) := by
  have g : ∀ o, isObjD (optI o) = false := fun o => by cases o <;> rfl
  unfold lineD nodeO
  split
  · exact ⟨rfl, fun xs e => by cases e⟩
  · split
    · refine ⟨rfl, fun xs e x hx => ?_⟩
      cases e
      simp only [List.mem_cons, List.not_mem_nil, or_false] at hx
      rcases hx with rfl | rfl
      · rfl
      · exact g _
    · split
      · exact ⟨rfl, fun xs e => by cases e⟩
      · refine ⟨rfl, fun xs e x hx => ?_⟩
        cases e
        simp only [List.mem_cons, List.not_mem_nil, or_false] at hx
        rcases hx with rfl | rfl
        · exact g _
        · exact g _
theorem plain_lines {s : Str} (h : s.length ≤ 100000) : plainT (linesD s) := by
  obtain ⟨h1, h2⟩ := nl_len 100000 s h
  refine ⟨rfl, fun rs e => ?_⟩
  injection e with e
  subst e
  refine ⟨by rw [List.length_map]; omega, fun r hr => ?_⟩
  obtain ⟨y, _, rfl⟩ := List.mem_map.mp hr
  exact plain_line y
abbrev st_read_tree : Stmt := top 28
abbrev NN_read_tree : List Str := ["text", "tree", "line"]
theorem sc_read_tree : FnScope ["text", "tree", "line"] ["text"] (defScope st_read_tree) := ⟨rfl, rfl, rfl, by decide +kernel, rfl, by decide +kernel, by decide +kernel⟩
def S_read_tree (K : PySem.W.Frag) : SP := fun ds E P => ∃ d, ds = [d] ∧ isObjD d = false ∧ (∀ s, d = .str s → s.length ≤ 100000 ∧ (GoodT (linesD s) → P (linesD s))) ∧ ((∀ s, d = .str s → ¬ GoodT (linesD s)) → E (eA K "BadTree", none))
theorem m_read_tree {K : PySem.W.Frag} : MonoS (S_read_tree K) := fun _ _ _ _ _ he hP ⟨d, e, p, q1, q2⟩ => ⟨d, e, p, fun s z => ⟨(q1 s z).1, fun w => hP _ ((q1 s z).2 w)⟩, fun z => he _ (q2 z)⟩
theorem l_read_tree {K : PySem.W.Frag} : ∀ ds E P, S_read_tree K ds E P → ds.length = 1 := fun _ _ _ ⟨_, e, _⟩ => by rw [e]; rfl

theorem ok_read_tree (T : Top K mg) (A : DefAt K mg "read_tree" st_read_tree ["text"]) (C_need_tree : CalD P w K mg base (L2.CX P w) 4 "need_tree" ["tree"] (S_need_tree K)) (C_node_of : CalD P w K mg base CX0 2 "node_of" ["line"] S_node_of) : CalD P w K mg base (L2.CX P w) 5 "read_tree" ["text"] (S_read_tree K) := by
  refine calX A sc_read_tree m_read_tree l_read_tree (fun f cdv A outer s H E hr Γ => ⟨_, (db_cons (dp_if (dt_not (dt_val (de_isi (T := "str") (by decide) T.b_isinstance T.b_str (by decide +kernel) (de_var 0))))
    (db_one (dp_raiseF T.x_BadTree (takes_of rfl rfl rfl rfl)))
    db_nil)
    (db_cons (dp_setLc2 1 [("line", 2)] sc_read_tree.nd (di_list (de_of (dn_split (de_var 0) de_str))) (blkOk_by (N := NN_read_tree) (sc := defScope st_read_tree) (by decide +kernel)) (fun _ _ _ _ _ => (dg_name 2 sc_read_tree.nd)) (fun _ _ _ _ _ => dts_nil) (fun _ _ _ _ _ => (de_cal C_node_of hr (by decide) (fun _ => passZ) (da_cons (de_var 2) da_nil)))).2
    (db_cons (dp_expr (de_cal C_need_tree hr (by decide) (fun σ => passAt (takes_of rfl rfl rfl rfl) σ) (da_cons (de_var 1) da_nil)))
    (db_one (dp_ret (de_var 1)))))), fun ds E P h => ?_⟩)
  obtain ⟨d, rfl, ho, hG, hB⟩ := h
  have a4 : (1500000 : Nat) + 10 < sizeLine := by decide
  refine isi_of ho ?_
  by_cases c : ∃ s, d = .str s
  case neg => exact bif_true (by cases d <;> first | rfl | exact absurd ⟨_, rfl⟩ c | cases ho) (hB fun s e => absurd ⟨s, e⟩ c)
  refine bif_false (by obtain ⟨s, rfl⟩ := c; rfl) (nxR_of (nextK ?_))
  obtain ⟨s, rfl⟩ := c
  · obtain ⟨hl, hG⟩ := hG s rfl
    obtain ⟨n1, n2⟩ := nl_len 100000 s hl
    refine cut1 (fun δ => δ = [some (.sh (.str (s))), some (.sh (.list ((Txt.split s nlS).map lineD))), none]) ?_ ?_
    · intro P' h
      refine ⟨⟨rfl, by omega⟩, ?_⟩
      refine ⟨by show ((Txt.split s nlS).map PyData.str).length ≤ sizeLine; rw [List.length_map]; omega, ioG_of rfl ?_⟩
      refine lcK_all (xs := Txt.split s nlS) (g := PyData.str) lineD ?_ (h _ rfl)
      intro y hy acc F hF
      exact ⟨y, rfl, by have := n2 y hy; omega, hF⟩
    rintro δ rfl
    refine ⟨linesD s, rfl, plain_lines hl, fun hg => ?_, fun hn => ?_⟩
    · refine nextK ?_
      exact hG hg
    · exact hB fun s2 e => by cases e; exact hn
end
end KX

namespace KX
open PySem PySem.Spec PyProof.Rows L2 DL
section
variable [NX.TabsC]
variable {P : Program} {w : World} {K : PySem.W.Frag} {mg : Str → Option Value} {base : Heap}
theorem lt_bits {x : Int} {k : Nat} (h : Builtin.Int.intBits x ≤ k) : Bt k x := by
  unfold Builtin.Int.intBits at h
  unfold Bt
  split at h
  · rename_i hz
    have : x = 0 := by simpa using hz
    subst this
    exact Nat.two_pow_pos k
  · rename_i hz
    have h0 : x.natAbs ≠ 0 := by
      intro z
      have : x = 0 := by omega
      simp [this] at hz
    exact (Nat.log2_lt h0).mp (by omega)

theorem lit_ne {a b : Str} {A B : Prop} (h : PySem.Str.cps a ≠ PySem.Str.cps b) (hB : B) : bifP (PyData.eqv (.str a) (.str b)) A B := by
  have e : PyData.eqv (.str a) (.str b) = (a == b) := by simp only [PyData.eqv]
  rw [e]
  exact bif_false (beq_false_of_ne fun z => h (by rw [z])) hB
theorem lit_eq {a b : Str} {A B : Prop} (h : a = b) (hA : A) : bifP (PyData.eqv (.str a) (.str b)) A B := by
  have e : PyData.eqv (.str a) (.str b) = (a == b) := by simp only [PyData.eqv]
  rw [e, h]
  exact bif_true (by simp) hA
abbrev st__law_cell : Stmt := top 31
abbrev NN__law_cell : List Str := ["_law_cells", "_law_spot", "_law_k", "_law_base", "_law_own", "_law_turn"]
theorem sc__law_cell : FnScope ["_law_cells", "_law_spot", "_law_k", "_law_base", "_law_own", "_law_turn"] ["_law_cells", "_law_spot"] (defScope st__law_cell) := ⟨rfl, rfl, rfl, by decide +kernel, rfl, by decide +kernel, by decide +kernel⟩
def S__law_cell : SPI := fun ds P => ∃ (ns : List Int) (k : Nat), ds = [.list (ns.map PyData.int), .list [.int (k : Int)]] ∧ (ns.length ≤ 63) ∧ (∀ z ∈ ns, Builtin.Int.intBits z ≤ 1048576) ∧ (k < 2 ^ 30) ∧ ∀ (v : Int), (0 ≤ v) → (v < 306783379) → P (.int v) [[.int ((k + 1 : Nat) : Int)]]
theorem m__law_cell : MonoI S__law_cell := fun _ _ _ hP ⟨ns, k, e, h0, h1, h2, qq⟩ => ⟨ns, k, e, h0, h1, h2, fun v hh0 hh1 => hP _ _ (qq v hh0 hh1)⟩
theorem l__law_cell : ∀ ds P, S__law_cell ds P → ds.length = 2 := fun _ _ ⟨ns, k, e, _⟩ => by rw [e]; rfl

theorem ok__law_cell (T : Top K mg) (A : DefAt K mg "_law_cell" st__law_cell ["_law_cells", "_law_spot"]) : CalI P w K mg base CX0 1 "_law_cell" ["_law_cells", "_law_spot"] [1] S__law_cell := by
  refine calI (js := [1]) A sc__law_cell m__law_cell l__law_cell (fun f cdv A outer s H E hr Γ => ⟨_, (db_cons (dp_setIx 1 (pv 1) (de_add (de_ixO 1 (pv 1) de_int) de_int) de_int (fun h1 h2 => pg_sub h1 h2 set_list) (fun h1 h2 => ps_asg h1 h2))
    (db_cons (dp_set 2 sc__law_cell.nd (de_ixO 1 (pv 1) de_int))
    (db_cons (dp_set 3 sc__law_cell.nd (de_add (de_mul (de_mul de_int (de_var 2)) (de_var 2)) (de_mul de_int (de_var 2))))
    (db_cons (dp_if (DW.dt (dw_and (dt_gt (de_len T.b_len (da_cons (de_var 0) da_nil)) de_int) (dw_and (dt_ge (de_ix (de_var 0) (de_mod (de_var 2) (de_len T.b_len (da_cons (de_var 0) da_nil)))) (de_pow de_int de_int)) (dw_and1 (dt_lt (de_fdiv (de_var 2) (de_len T.b_len (da_cons (de_var 0) da_nil))) de_int)))))
    (db_cons (dp_set 4 sc__law_cell.nd (de_ix (de_var 0) (de_mod (de_var 2) (de_len T.b_len (da_cons (de_var 0) da_nil)))))
    (db_cons (dp_for (vs := [5]) PassesOwn.never (di_range1 T.b_range (de_fdiv (de_var 2) (de_len T.b_len (da_cons (de_var 0) da_nil)))) (dg_name 5 sc__law_cell.nd)
    (db_one (dp_set 4 sc__law_cell.nd (de_fdiv (de_var 4) de_int))))
    (db_one (dp_if (dt_gt (de_var 4) de_int)
    (db_one (dp_ret (de_mod (de_var 4) de_int)))
    db_nil))))
    db_nil)
    (db_cons (dp_if (dt_gt (de_len T.b_len (da_cons (de_var 0) da_nil)) de_int)
    (db_one (dp_set 3 sc__law_cell.nd (de_add (de_var 3) (de_mul (de_ix (de_var 0) (de_mod (de_var 2) (de_len T.b_len (da_cons (de_var 0) da_nil)))) (de_add de_int (de_fdiv (de_var 2) (de_len T.b_len (da_cons (de_var 0) da_nil))))))))
    db_nil)
    (db_one (dp_ret (de_fdiv (de_mod (de_mul (de_var 3) de_int) de_int) de_int)))))))), fun ds P h => ?_⟩)
  obtain ⟨ns, k, rfl, hl, hb, hk, hP⟩ := h
  have bk : Bt 31 ((k : Int) + 1) := Bt.of_lt (by omega) (by omega)
  have b2 : Bt 36 (31 * ((k : Int) + 1)) := (by decide : Bt 5 31).mul bk
  have b3 : Bt 67 (31 * ((k : Int) + 1) * ((k : Int) + 1)) := b2.mul bk
  have b4 : Bt 44 (7919 * ((k : Int) + 1)) := (by decide : Bt 13 7919).mul bk
  have b5 : Bt 68 (31 * ((k : Int) + 1) * ((k : Int) + 1) + 7919 * ((k : Int) + 1)) := b3.add (b4.mono (by decide))
  have ll : ((ns.map PyData.int).length : Int) = ns.length := by rw [List.length_map]
  refine cut3 (fun δ => δ = [some (.sh (.list (ns.map PyData.int))), some (.io (.lst [.int ((k + 1 : Nat) : Int)])), some (.sh (.int ((k : Int) + 1))), some (.sh (.int (31 * ((k : Int) + 1) * ((k : Int) + 1) + 7919 * ((k : Int) + 1)))), none, none]) (fun P' h => ⟨(by decide : Bt 5 31).cm bk (by decide), b2.cm bk (by decide), (by decide : Bt 13 7919).cm bk (by decide), h _ rfl⟩) ?_
  rintro δ rfl
  generalize 31 * ((k : Int) + 1) * ((k : Int) + 1) + 7919 * ((k : Int) + 1) = base at *
  refine cut1r (fun δ => ∃ a b : Option Sl, δ = [some (.sh (.list (ns.map PyData.int))), some (.io (.lst [.int ((k + 1 : Nat) : Int)])), some (.sh (.int ((k : Int) + 1))), some (.sh (.int base)), a, b]) ?_ ?_
  · intro P' hP' hR
    refine bif_dec (fun h => ?_) (fun h => ?_)
    · have h : (0 : Int) < ((ns.map PyData.int).length : Int) := h
      have hl0 : 0 < ns.length := by omega
      obtain ⟨z, hz, ez⟩ := atI_mod hl0 ((k : Int) + 1)
      have cd : CDivW ((k : Int) + 1) ((ns.map PyData.int).length : Int) := (Bt.of_lt (by omega) (by omega) : Bt 31 ((ns.map PyData.int).length : Int)).cd h (by decide)
      refine ⟨h, optK_some ez ?_⟩
      refine ⟨⟨by decide, by decide, by decide⟩, ?_⟩
      refine bif_dec (fun h2 => ?_) (fun h2 => ?_)
      · refine ⟨cd, ?_⟩
        refine bif_dec (fun h3 => ?_) (fun h3 => ?_)
        · refine ⟨h, optK_some ez ?_⟩
          refine ⟨cd, ⟨?_, ?_⟩, ?_⟩
          · have := Int.ediv_nonneg (show (0 : Int) ≤ (k : Int) + 1 by omega) (Int.le_of_lt h)
            omega
          · have := Int.ediv_le_self ((ns.map PyData.int).length : Int) (show (0 : Int) ≤ (k : Int) + 1 by omega)
            omega
          · refine forK_nat (fun j δ => ∃ (o : Int) (b : Option Sl), δ = [some (.sh (.list (ns.map PyData.int))), some (.io (.lst [.int ((k + 1 : Nat) : Int)])), some (.sh (.int ((k : Int) + 1))), some (.sh (.int base)), some (.sh (.int o)), b] ∧ notIo b = true) ?_ ?_ _ ⟨z, none, rfl, rfl⟩
            · rintro δ ⟨o, b, rfl, hb2⟩
              refine bif_dec (fun h4 => ?_) (fun h4 => ?_)
              · exact ⟨(by show (0 : Int) < _; decide), hR _ _ (hP _ (Int.emod_nonneg _ (by decide)) (Int.emod_lt_of_pos _ (by decide)))⟩
              · exact hP' _ ⟨_, _, rfl⟩
            · rintro j i δ hj ⟨o, b, rfl, hb2⟩ F hF
              refine nameG_of hb2 ?_
              exact ⟨(by decide : Bt 31 306783379).cd (by decide) (by decide), hF _ ⟨_, _, rfl, rfl⟩⟩
        · exact hP' _ ⟨_, _, rfl⟩
      · exact hP' _ ⟨_, _, rfl⟩
    · exact hP' _ ⟨_, _, rfl⟩
  · rintro δ ⟨a, b, rfl⟩
    refine cutR (fun δ => ∃ (o : Int) (a b : Option Sl), δ = [some (.sh (.list (ns.map PyData.int))), some (.io (.lst [.int ((k + 1 : Nat) : Int)])), some (.sh (.int ((k : Int) + 1))), some (.sh (.int o)), a, b] ∧ Builtin.Int.intBits o ≤ 1048700) ?_ ?_
    · intro P' hP'
      refine bif_dec (fun h => ?_) (fun h => ?_)
      · have h : (0 : Int) < ((ns.map PyData.int).length : Int) := h
        have hl0 : 0 < ns.length := by omega
        obtain ⟨z, hz, ez⟩ := atI_mod hl0 ((k : Int) + 1)
        have cd : CDivW ((k : Int) + 1) ((ns.map PyData.int).length : Int) := (Bt.of_lt (by omega) (by omega) : Bt 31 ((ns.map PyData.int).length : Int)).cd h (by decide)
        have q1 := Int.ediv_nonneg (show (0 : Int) ≤ (k : Int) + 1 by omega) (Int.le_of_lt h)
        have q2 := Int.ediv_le_self ((ns.map PyData.int).length : Int) (show (0 : Int) ≤ (k : Int) + 1 by omega)
        have bz : Bt 1048576 z := lt_bits (hb z hz)
        have bq : Bt 31 (1 + ((k : Int) + 1) / ((ns.map PyData.int).length : Int)) := Bt.of_lt (by omega) (by omega)
        refine ⟨h, optK_some ez ?_⟩
        refine ⟨cd, bz.cm bq (by decide), ?_⟩
        have h9 : Bt (1048576 + 31 + 1) (base + z * (1 + ((k : Int) + 1) / ((ns.map PyData.int).length : Int))) := Bt.add (k := 1048576 + 31) (b5.mono (by omega)) (bz.mul bq)
        have h10 := bits_lt h9
        exact hP' _ ⟨_, _, _, rfl, by omega⟩
      · exact hP' _ ⟨_, _, _, rfl, Nat.le_trans (bits_lt b5) (by omega)⟩
    · rintro δ ⟨o, a, b, rfl, ho⟩
      refine ⟨?_, (by show (0 : Int) < _; decide), (by decide : Bt 31 7).cd (by decide) (by decide), ?_⟩
      · unfold CMulX
        have := bits_lt (by decide : Bt 16 48271)
        omega
      · have e1 := Int.emod_nonneg (o * 48271) (show (2147483647 : Int) ≠ 0 by decide)
        have e2 := Int.emod_lt_of_pos (o * 48271) (show (0 : Int) < 2147483647 by decide)
        exact hP _ (by omega) (by omega)
abbrev st__law_price : Stmt := top 32
abbrev NN__law_price : List Str := ["_law_n", "_law_low", "_law_high"]
theorem sc__law_price : FnScope ["_law_n", "_law_low", "_law_high"] ["_law_n", "_law_low", "_law_high"] (defScope st__law_price) := ⟨rfl, rfl, rfl, by decide +kernel, rfl, by decide +kernel, by decide +kernel⟩
def S__law_price : SP := fun ds _ P => ∃ (n lo hi : Int), ds = [.int n, .int lo, .int hi] ∧ (0 ≤ n) ∧ (n < 306783379) ∧ (lo ≤ hi) ∧ (Bt 31 lo) ∧ (Bt 31 hi) ∧ ∀ (v : Int), (lo ≤ v) → (v ≤ hi) → P (.int v)
theorem m__law_price : MonoS S__law_price := fun _ _ _ _ _ _ hP ⟨n, lo, hi, e, h0, h1, h2, h3, h4, qq⟩ => ⟨n, lo, hi, e, h0, h1, h2, h3, h4, fun v hh0 hh1 => hP _ (qq v hh0 hh1)⟩
theorem l__law_price : ∀ ds E P, S__law_price ds E P → ds.length = 3 := fun _ _ _ ⟨n, lo, hi, e, _⟩ => by rw [e]; rfl

theorem ok__law_price (T : Top K mg) (A : DefAt K mg "_law_price" st__law_price ["_law_n", "_law_low", "_law_high"]) : CalD P w K mg base CX0 1 "_law_price" ["_law_n", "_law_low", "_law_high"] S__law_price := by
  refine calD A sc__law_price m__law_price l__law_price (fun f cdv A outer s H E hr Γ => ⟨_, (db_one (dp_ret (de_add (de_var 1) (de_mod (de_mul (de_var 0) (de_pow de_int de_int)) (de_add (de_sub (de_var 2) (de_var 1)) de_int))))), fun ds E P h => ?_⟩)
  obtain ⟨n, lo, hi, rfl, h0, h1, h2, bl, bh, hP⟩ := h
  have bn : Bt 29 n := Bt.of_lt (by omega) (by omega)
  have e2 : (48271 : Int) ^ (2 : Int).toNat = 2330089441 := by decide +kernel
  refine ⟨⟨by decide, by decide, by decide⟩, ?_, by show 0 < hi - lo + 1; omega, ?_⟩
  · rw [e2]
    exact bn.cm (by decide : Bt 32 _) (by decide)
  · have m0 := Int.emod_nonneg (n * 48271 ^ (2 : Int).toNat) (show hi - lo + 1 ≠ 0 by omega)
    have m1 := Int.emod_lt_of_pos (n * 48271 ^ (2 : Int).toNat) (show 0 < hi - lo + 1 by omega)
    exact hP _ (by omega) (by omega)
end
end KX

namespace KX
open PySem PySem.Spec PyProof.Rows L2 DL
section
variable [NX.TabsC]
variable {P : Program} {w : World} {K : PySem.W.Frag} {mg : Str → Option Value} {base : Heap}
abbrev st__law_fair : Stmt := top 34
abbrev NN__law_fair : List Str := ["_law_tree_here", "_law_great", "_law_found", "_law_k", "_law_before", "_law_price_here", "_law_next_ones", "_law_own", "_law_j"]
theorem sc__law_fair : FnScope ["_law_tree_here", "_law_great", "_law_found", "_law_k", "_law_before", "_law_price_here", "_law_next_ones", "_law_own", "_law_j"] ["_law_tree_here", "_law_great"] (defScope st__law_fair) := ⟨rfl, rfl, rfl, by decide +kernel, rfl, by decide +kernel, by decide +kernel⟩
def S__law_fair : SP := fun ds _ P => ∃ (t : List Nd) (g : Int), ds = [.list (t.map ndD), .int g] ∧ (Pre 40 t) ∧ ∀ (u : List Nd), (Unf 40 u) → (u.length = t.length) → P (.list (u.map ndD))
theorem m__law_fair : MonoS S__law_fair := fun _ _ _ _ _ _ hP ⟨t, g, e, h0, qq⟩ => ⟨t, g, e, h0, fun u hh0 hh1 => hP _ (qq u hh0 hh1)⟩
theorem l__law_fair : ∀ ds E P, S__law_fair ds E P → ds.length = 2 := fun _ _ _ ⟨t, g, e, _⟩ => by rw [e]; rfl

theorem ok__law_fair (T : Top K mg) (A : DefAt K mg "_law_fair" st__law_fair ["_law_tree_here", "_law_great"]) : CalD P w K mg base CX0 1 "_law_fair" ["_law_tree_here", "_law_great"] S__law_fair := by
  refine calD A sc__law_fair m__law_fair l__law_fair (fun f cdv A outer s H E hr Γ => ⟨_, (db_cons (dp_setN 2 sc__law_fair.nd (dn_lst (da_cons (de_ix (de_var 0) de_int) da_nil)))
    (db_cons (dp_for (vs := [3]) PassesOwn.never (di_r2 T.b_range de_int (de_len T.b_len (da_cons (de_var 0) da_nil))) (dg_name 3 sc__law_fair.nd)
    (db_cons (dp_set 4 sc__law_fair.nd (de_ix (de_ix (de_var 0) (de_var 3)) de_int))
    (db_cons (dp_set 5 sc__law_fair.nd (de_ix (de_ixO 2 (pv 2) (de_var 4)) de_int))
    (db_cons (dp_setLc2 6 [("_law_j", 8)] sc__law_fair.nd (di_range1 T.b_range (de_len T.b_len (da_cons (de_var 0) da_nil))) (blkOk_by (N := NN__law_fair) (sc := defScope st__law_fair) (by decide +kernel)) (fun _ _ _ _ _ => (dg_name 8 sc__law_fair.nd)) (fun _ _ _ _ _ => (dts_one (dt_eq (hu64 hr) (de_ix (de_ix (de_var 0) (de_var 8)) de_int) (de_var 4)))) (fun _ _ _ _ _ => (de_var 8))).2
    (db_cons (dp_set 7 sc__law_fair.nd (de_ix (de_ix (de_var 0) (de_var 3)) de_int))
    (db_cons (dp_if (dt_eq (hu64 hr) (de_len T.b_len (da_cons (de_var 6) da_nil)) de_int)
    (db_one (dp_set 7 sc__law_fair.nd (de_var 5)))
    (db_one (dp_if (dt_eq (hu64 hr) (de_var 3) (de_ix (de_var 6) de_int))
    (db_one (dp_set 7 sc__law_fair.nd (de_min2 T.b_min (da_cons (de_var 7) (da_cons (de_var 5) da_nil)))))
    (db_one (dp_if (dt_eq (hu64 hr) (de_var 3) (de_ix (de_var 6) (de_neg de_int)))
    (db_one (dp_set 7 sc__law_fair.nd (de_max2 T.b_max (da_cons (de_var 7) (da_cons (de_var 5) da_nil)))))
    db_nil)))))
    (db_one (dp_app 2 (fun h => pe_bm PySem.F.plainAttrs_list PySem.F.slot_list_append PySem.F.type_list_append mt_append (pv 2) h) (de_tup (da_cons (de_var 4) (da_cons (de_var 7) da_nil)))))))))))
    (db_one (dp_ret (de_var 2))))), fun ds E P h => ?_⟩)
  obtain ⟨t, g, rfl, ht, hP⟩ := h
  have a4 : (1000000 : Nat) + 10 < sizeLine := by decide
  have l1 := ht.l1
  have lm := ht.lm
  obtain ⟨n0, hn0⟩ : ∃ n, t[0]? = some n := ⟨_, List.getElem?_eq_getElem (by omega)⟩
  refine cut1 (fun δ => δ = [some (.sh (.list (t.map ndD))), some (.sh (.int g)), some (.ow (.lst ([n0].map ndD))), none, none, none, none, none, none]) (fun P' h => optK_some (atI_map (j := 0) hn0) (h _ rfl)) ?_
  rintro δ rfl
  have ll : ((t.map ndD).length : Int) = t.length := by rw [List.length_map]
  have lt1 : (((t.map ndD).length : Int) - 1).toNat = t.length - 1 := by omega
  refine ⟨⟨by decide, by decide, by omega, by omega⟩, ?_⟩
  rw [lt1]
  refine forK_nat (xs := List.range (t.length - 1)) (g := fun i => PyData.int (1 + (i : Nat))) (fun i δ => ∃ (u : List Nd) (a3 a4 a5 a6 a7 a8 : Option Sl), Fr t u ∧ u.length = i + 1 ∧ (notIo a3 = true ∧ notIo a4 = true ∧ notIo a5 = true ∧ notIo a6 = true ∧ notIo a7 = true ∧ notIo a8 = true) ∧
      δ = [some (.sh (.list (t.map ndD))), some (.sh (.int g)), some (.ow (.lst (u.map ndD))), a3, a4, a5, a6, a7, a8]) ?_ ?_ _ ⟨[n0], none, none, none, none, none, none, .one_node ht.ord hn0 (ht.pr 0 n0 hn0), rfl, ⟨rfl, rfl, rfl, rfl, rfl, rfl⟩, rfl⟩
  · rintro δ ⟨u, a3, a4, a5, a6, a7, a8, f, hu, _, rfl⟩
    rw [List.length_range] at hu
    exact hP u (f.unf ht (by omega)) (by omega)
  · rintro i x δ hi ⟨u, a3, a4', a5, a6, a7, a8, f, hu, ⟨h3, h4, h5, h6, h7, h8⟩, rfl⟩ F hF
    obtain ⟨rfl, hi⟩ := range_get hi
    refine nameG_of h3 ?_
    obtain ⟨n, hn⟩ : ∃ n, t[u.length]? = some n := ⟨_, List.getElem?_eq_getElem (by omega)⟩
    have ek : (1 + (x : Nat) : Int) = (u.length : Int) := by omega
    rw [ek]
    obtain ⟨b, eb⟩ : ∃ b, n.1 = some b := by
      cases q : n.1 with
      | none => have := (ht.ord _ n hn).1.mp q; omega
      | some b => exact ⟨b, rfl⟩
    have pk : par t u.length = some b := (par_get hn).trans eb
    have hb := par_lt ht.ord pk
    have en : ndD n = .tuple [.int (b : Int), .int n.2] := by unfold ndD; rw [eb]; rfl
    obtain ⟨v, hv⟩ : ∃ v, u[b]? = some v := ⟨_, List.getElem?_eq_getElem hb⟩
    have pv := prc_get hv
    have bn := ht.pr _ n hn
    have bv := f.pr _ v hv
    refine cut2 (fun δ => δ = [some (.sh (.list (t.map ndD))), some (.sh (.int g)), some (.ow (.lst (u.map ndD))), some (.sh (.int u.length)), some (.sh (.int b)), some (.sh (.int v.2)), a6, a7, a8]) ?_ ?_
    · intro P' h
      refine optK_some (nd_at hn) ?_
      rw [en]
      refine setK_of h4 ?_
      refine optK_some (nd_at hv) ?_
      exact setK_of h5 (h _ rfl)
    · rintro δ rfl
      refine cut1 (fun δ => ∃ a8 : Option Sl, notIo a8 = true ∧ δ = [some (.sh (.list (t.map ndD))), some (.sh (.int g)), some (.ow (.lst (u.map ndD))), some (.sh (.int u.length)), some (.sh (.int b)), some (.sh (.int v.2)), some (.sh (.list ((nexts t b).map fun j : Nat => PyData.int (0 + (j : Int))))), a7, a8]) ?_ ?_
      · intro P' h
        refine ⟨⟨by omega, by omega⟩, ?_, ?_⟩
        · unfold rangeL
          rw [List.length_map, List.length_range]
          omega
        · refine ioG_of (by show (notIo a8 && true) = true; rw [h8]; rfl) ?_
          have e9 : ((t.map ndD).length : Int).toNat = t.length := by omega
          show lcK _ _ _ _ _ (rangeL 0 ((t.map ndD).length : Int).toNat) _ _
          rw [e9]
          refine lcK_fm (xs := List.range t.length) (g := fun i => PyData.int (0 + (i : Nat))) (fun j => bif decide (par t j = some b) then some (.int (0 + (j : Int))) else none) ?_ ?_
          · intro j hj acc F2 hF2
            have hj := List.mem_range.mp hj
            obtain ⟨m, hm⟩ : ∃ m, t[j]? = some m := ⟨_, List.getElem?_eq_getElem hj⟩
            have e10 : (0 + (j : Nat) : Int) = (j : Int) := by omega
            rw [e10] at hF2 ⊢
            refine optK_some (nd_at hm) ?_
            refine eqG_of ?_ ?_
            · show EqOk (onD m.1) (.int b)
              cases m.1 <;> exact .inl rfl
            · show bifP (PyData.eqv (onD m.1) (.int b)) _ _
              rw [DL.eqv_on]
              rw [par_get hm] at hF2
              cases q : decide (m.1 = some b) with
              | true => rw [q] at hF2; exact hF2
              | false =>
                rw [q, cond_false, Option.toList_none, List.append_nil] at hF2
                exact hF2
          · rw [filterMap_if]
            refine setK_of h6 ?_
            refine h _ ⟨keepD a8, ?_, rfl⟩
            cases a8 with
            | none => rfl
            | some s => cases s <;> first | rfl | cases h8
      · rintro δ ⟨b8, h8, rfl⟩
        have mem : u.length ∈ nexts t b := mem_nexts.mpr ⟨by omega, pk⟩
        have len : 0 < (nexts t b).length := List.length_pos_iff.mpr (List.ne_nil_of_mem mem)
        obtain ⟨z0, e0⟩ : ∃ a, (nexts t b)[0]? = some a := ⟨_, List.getElem?_eq_getElem len⟩
        obtain ⟨z9, e9⟩ : ∃ z, (nexts t b)[(nexts t b).length - 1]? = some z := ⟨_, List.getElem?_eq_getElem (by omega)⟩
        have ln : (((nexts t b).map fun j : Nat => PyData.int (0 + (j : Int))).length : Int) = (nexts t b).length := by rw [List.length_map]
        refine cut2 (fun δ => ∃ (p : Int), (0 ≤ p ∧ p ≤ 1000000000) ∧ ((nexts t b).length = 1 → p = v.2) ∧ ((nexts t b).length ≠ 1 → (nexts t b)[0]? = some u.length → p ≤ v.2) ∧ ((nexts t b).length ≠ 1 → (nexts t b)[0]? ≠ some u.length → (nexts t b)[(nexts t b).length - 1]? = some u.length → v.2 ≤ p) ∧
          δ = [some (.sh (.list (t.map ndD))), some (.sh (.int g)), some (.ow (.lst (u.map ndD))), some (.sh (.int u.length)), some (.sh (.int b)), some (.sh (.int v.2)), some (.sh (.list ((nexts t b).map fun j : Nat => PyData.int (0 + (j : Int))))), some (.sh (.int p)), b8]) ?_ ?_
        · intro P' h
          refine optK_some (nd_at hn) ?_
          rw [en]
          refine setK_of h7 ?_
          refine bif_eqi (fun w => ?_) (fun w => ?_)
          · have w : (((nexts t b).map fun j : Nat => PyData.int (0 + (j : Int))).length : Int) = 1 := w
            exact h _ ⟨v.2, bv, fun _ => rfl, fun z => absurd (by omega) z, fun z => absurd (by omega) z, rfl⟩
          · have w : (((nexts t b).map fun j : Nat => PyData.int (0 + (j : Int))).length : Int) ≠ 1 := w
            refine optK_some (atI_map (j := 0) e0) ?_
            refine bif_eqi (fun w2 => ?_) (fun w2 => ?_)
            · refine h _ ⟨min2 n.2 v.2, ?_, fun z => absurd (by omega) w, fun _ _ => ?_, fun _ z => absurd (by rw [e0]; congr 1; omega) z, rfl⟩
              · unfold min2; split <;> omega
              · unfold min2; split <;> omega
            · have e10 : atI ((nexts t b).map fun j : Nat => PyData.int (0 + (j : Int))) (-1) = some (.int (0 + (z9 : Int))) := by
                have e11 : ((nexts t b).map fun j : Nat => PyData.int (0 + (j : Int)))[((nexts t b).map fun j : Nat => PyData.int (0 + (j : Int))).length - 1]? = some (.int (0 + (z9 : Int))) := by
                  rw [List.length_map, List.getElem?_map, e9]; rfl
                exact atI_neg1 e11
              refine optK_some e10 ?_
              refine bif_eqi (fun w3 => ?_) (fun w3 => ?_)
              · refine h _ ⟨max2 n.2 v.2, ?_, fun z => absurd (by omega) w, fun _ z => ?_, fun _ _ _ => ?_, rfl⟩
                · unfold max2; split <;> omega
                · rw [e0] at z; injection z with z; exact absurd (by omega) w2
                · unfold max2; split <;> omega
              · refine h _ ⟨n.2, bn, fun z => absurd (by omega) w, fun _ z => ?_, fun _ _ z => ?_, rfl⟩
                · rw [e0] at z; injection z with z; exact absurd (by omega) w2
                · rw [e9] at z; injection z with z; exact absurd (by omega) w3
        · rintro δ ⟨p, h0, h1, h2, h3', rfl⟩
          rw [← pv] at h1 h2 h3'
          refine ⟨by rw [List.length_map]; omega, ?_⟩
          exact hF _ ⟨u ++ [(some b, p)], _, _, _, _, _, _, f.app (by omega) ht.ord pk h0 h1 h2 h3', by rw [List.length_append, List.length_singleton]; omega, ⟨rfl, rfl, rfl, rfl, rfl, h8⟩, by rw [List.map_append]; rfl⟩
end
end KX

namespace KX
open PySem PySem.Spec PyProof.Rows L2 DL
section
variable [NX.TabsC]
variable {P : Program} {w : World} {K : PySem.W.Frag} {mg : Str → Option Value} {base : Heap}
abbrev st__law_tree : Stmt := top 33
abbrev NN__law_tree : List Str := ["_law_cells", "_law_spot", "_law_most", "_law_n", "_law_many", "_law_great", "_law_tree_here", "_law_late", "_law_counts", "_law_k", "_law_before", "_law_price_here", "_law_low", "_law_high"]
theorem sc__law_tree : FnScope ["_law_cells", "_law_spot", "_law_most", "_law_n", "_law_many", "_law_great", "_law_tree_here", "_law_late", "_law_counts", "_law_k", "_law_before", "_law_price_here", "_law_low", "_law_high"] ["_law_cells", "_law_spot", "_law_most"] (defScope st__law_tree) := ⟨rfl, rfl, rfl, by decide +kernel, rfl, by decide +kernel, by decide +kernel⟩
def S__law_tree : SPI := fun ds P => ∃ (ns : List Int) (k : Nat) (most : Int), ds = [.list (ns.map PyData.int), .list [.int (k : Int)], .int most] ∧ (ns.length ≤ 63) ∧ (∀ z ∈ ns, Builtin.Int.intBits z ≤ 1048576) ∧ (k < 2 ^ 29) ∧ (1 ≤ most) ∧ (most ≤ 40) ∧ ∀ (u : List Nd) (k2 : Nat), (Unf 40 u) → ((u.length : Int) ≤ most) → (k2 ≤ k + 41) → P (.list (u.map ndD)) [[.int (k2 : Int)]]
theorem m__law_tree : MonoI S__law_tree := fun _ _ _ hP ⟨ns, k, most, e, h0, h1, h2, h3, h4, qq⟩ => ⟨ns, k, most, e, h0, h1, h2, h3, h4, fun u k2 hh0 hh1 hh2 => hP _ _ (qq u k2 hh0 hh1 hh2)⟩
theorem l__law_tree : ∀ ds P, S__law_tree ds P → ds.length = 3 := fun _ _ ⟨ns, k, most, e, _⟩ => by rw [e]; rfl

theorem ok__law_tree (T : Top K mg) (A : DefAt K mg "_law_tree" st__law_tree ["_law_cells", "_law_spot", "_law_most"]) (C__law_cell : CalI P w K mg base CX0 1 "_law_cell" ["_law_cells", "_law_spot"] [1] S__law_cell) (C__law_fair : CalD P w K mg base CX0 1 "_law_fair" ["_law_tree_here", "_law_great"] S__law_fair) (C__law_price : CalD P w K mg base CX0 1 "_law_price" ["_law_n", "_law_low", "_law_high"] S__law_price) : CalI P w K mg base CX0 2 "_law_tree" ["_law_cells", "_law_spot", "_law_most"] [1] S__law_tree := by
  refine calI (js := [1]) A sc__law_tree m__law_tree l__law_tree (fun f cdv A outer s H E hr Γ => ⟨_, (db_cons (dp_set 3 sc__law_tree.nd (de_calI C__law_cell hr (by decide) (fun _ => passZ) (dai_cons (de_var 0) (dai_lend 1 (pv 1) dai_nil))))
    (db_cons (dp_set 4 sc__law_tree.nd (de_add de_int (de_mod (de_var 3) (de_var 2))))
    (db_cons (dp_set 5 sc__law_tree.nd (de_ix (de_lst (da_cons de_int (da_cons de_int (da_cons (de_pow de_int de_int) da_nil)))) (de_mod (de_fdiv (de_var 3) de_int) de_int)))
    (db_cons (dp_setN 6 sc__law_tree.nd (dn_lst (da_cons (de_tup (da_cons de_non (da_cons (de_cal C__law_price hr (by decide) (fun _ => passZ) (da_cons (de_var 3) (da_cons de_int (da_cons (de_var 5) da_nil)))) da_nil))) da_nil)))
    (db_cons (dp_setN 7 sc__law_tree.nd (dn_lst (da_cons de_int da_nil)))
    (db_cons (dp_setN 8 sc__law_tree.nd (dn_lst (da_cons de_int da_nil)))
    (db_cons (dp_for (vs := [9]) PassesOwn.never (di_r2 T.b_range de_int (de_var 4)) (dg_name 9 sc__law_tree.nd)
    (db_cons (dp_set 3 sc__law_tree.nd (de_calI C__law_cell hr (by decide) (fun _ => passZ) (dai_cons (de_var 0) (dai_lend 1 (pv 1) dai_nil))))
    (db_cons (dp_set 10 sc__law_tree.nd (de_mod (de_var 3) (de_var 9)))
    (db_cons (dp_if (dt_gt (de_mod (de_fdiv (de_var 3) de_int) de_int) de_int)
    (db_one (dp_set 10 sc__law_tree.nd (de_max2 T.b_max (da_cons de_int (da_cons (de_sub (de_sub (de_var 9) de_int) (de_mod (de_fdiv (de_var 3) de_int) de_int)) da_nil)))))
    db_nil)
    (db_cons (dp_while PassesOwn.never (DW.dt (dw_or (dt_eq (hu64 hr) (de_ixO 8 (pv 8) (de_var 10)) de_int) (dw_or1 (dt_eq (hu64 hr) (de_ixO 7 (pv 7) (de_var 10)) de_int))))
    (db_one (dp_set 10 sc__law_tree.nd (de_mod (de_add (de_var 10) de_int) (de_var 9)))))
    (db_cons (dp_set 11 sc__law_tree.nd (de_ix (de_ixO 6 (pv 6) (de_var 10)) de_int))
    (db_cons (dp_set 12 sc__law_tree.nd (de_ix (de_lst (da_cons (de_var 11) (da_cons de_int (da_cons (de_var 11) (da_cons de_int da_nil))))) (de_mod (de_fdiv (de_var 3) de_int) de_int)))
    (db_cons (dp_set 13 sc__law_tree.nd (de_ix (de_lst (da_cons (de_var 11) (da_cons (de_var 11) (da_cons (de_var 5) (da_cons (de_var 5) da_nil))))) (de_mod (de_fdiv (de_var 3) de_int) de_int)))
    (db_cons (dp_app 6 (fun h => pe_bm PySem.F.plainAttrs_list PySem.F.slot_list_append PySem.F.type_list_append mt_append (pv 6) h) (de_tup (da_cons (de_var 10) (da_cons (de_cal C__law_price hr (by decide) (fun _ => passZ) (da_cons (de_var 3) (da_cons (de_var 12) (da_cons (de_var 13) da_nil)))) da_nil))))
    (db_cons (dp_app 7 (fun h => pe_bm PySem.F.plainAttrs_list PySem.F.slot_list_append PySem.F.type_list_append mt_append (pv 7) h) (de_add (de_ixO 7 (pv 7) (de_var 10)) de_int))
    (db_cons (dp_app 8 (fun h => pe_bm PySem.F.plainAttrs_list PySem.F.slot_list_append PySem.F.type_list_append mt_append (pv 8) h) de_int)
    (db_one (dp_setIx 8 (pv 8) (de_add (de_ixO 8 (pv 8) (de_var 10)) de_int) (de_var 10) (fun h1 h2 => pg_sub h1 h2 set_list) (fun h1 h2 => ps_asg h1 h2))))))))))))))
    (db_one (dp_ret (de_cal C__law_fair hr (by decide) (fun _ => passZ) (da_cons (de_var 6) (da_cons (de_var 5) da_nil)))))))))))), fun ds P h => ?_⟩)
  obtain ⟨ns, k, most, rfl, hl, hb, hk, hm1, hm2, hP⟩ := h
  have a4 : (1000000 : Nat) + 10 < sizeLine := by decide
  have d40 : ∀ n : Int, CDivW n 40 := fun n => (by decide : Bt 31 40).cd (by decide) (by decide)
  have d120 : ∀ n : Int, CDivW n 120 := fun n => (by decide : Bt 31 120).cd (by decide) (by decide)
  have d360 : ∀ n : Int, CDivW n 360 := fun n => (by decide : Bt 31 360).cd (by decide) (by decide)
  refine cut1 (fun δ => ∃ n : Int, (0 ≤ n ∧ n < 306783379) ∧ δ = [some (.sh (.list (ns.map PyData.int))), some (.io (.lst [.int ((k + 1 : Nat) : Int)])), some (.sh (.int most)), some (.sh (.int n)), none, none, none, none, none, none, none, none, none, none]) (fun P' h => ⟨ns, k, rfl, hl, hb, by omega, fun v v0 v1 => h _ ⟨v, ⟨v0, v1⟩, rfl⟩⟩) ?_
  rintro δ ⟨n, ⟨n0, n1⟩, rfl⟩
  refine cut2 (fun δ => ∃ (m : Nat) (g : Int), (1 ≤ m ∧ (m : Int) ≤ most) ∧ (20 ≤ g ∧ g ≤ 1000000000) ∧ δ = [some (.sh (.list (ns.map PyData.int))), some (.io (.lst [.int ((k + 1 : Nat) : Int)])), some (.sh (.int most)), some (.sh (.int n)), some (.sh (.int (m : Int))), some (.sh (.int g)), none, none, none, none, none, none, none, none]) ?_ ?_
  · intro P' h
    have m0 := Int.emod_nonneg n (show most ≠ 0 by omega)
    have m1 := Int.emod_lt_of_pos n (show 0 < most by omega)
    refine ⟨by omega, ⟨by decide, by decide, by decide⟩, d40 n, (by show (0 : Int) < _; decide), ?_⟩
    refine atI_all (by omega) (by show n / 40 % 3 < 3; omega) (fun d hd => ?_)
    have e9 : ((10 : Int) ^ (9 : Int).toNat) = 1000000000 := by decide
    have hd : d ∈ [PyData.int 20, PyData.int 1000, PyData.int 1000000000] := by rw [← e9]; exact hd
    obtain ⟨g, rfl, g0, g1⟩ : ∃ g, d = .int g ∧ 20 ≤ g ∧ g ≤ 1000000000 := by
      simp only [List.mem_cons, List.not_mem_nil, or_false] at hd
      rcases hd with rfl | rfl | rfl
      · exact ⟨_, rfl, by decide, by decide⟩
      · exact ⟨_, rfl, by decide, by decide⟩
      · exact ⟨_, rfl, by decide, by decide⟩
    refine h _ ⟨(1 + n % most).toNat, g, ⟨by omega, by omega⟩, ⟨g0, g1⟩, ?_⟩
    rw [show (((1 + n % most).toNat : Nat) : Int) = 1 + n % most by omega]
    rfl
  · rintro δ ⟨m, g, ⟨hm0, hmm⟩, ⟨g0, g1⟩, rfl⟩
    have bg : Bt 31 g := Bt.of_lt (by omega) (by omega)
    refine cut3 (fun δ => ∃ p : Int, (0 ≤ p ∧ p ≤ g) ∧ δ = [some (.sh (.list (ns.map PyData.int))), some (.io (.lst [.int ((k + 1 : Nat) : Int)])), some (.sh (.int most)), some (.sh (.int n)), some (.sh (.int (m : Int))), some (.sh (.int g)), some (.ow (.lst ([((none, p) : Nd)].map ndD))), some (.ow (.lst [.int 0])), some (.ow (.lst [.int 0])), none, none, none, none, none]) ?_ ?_
    · intro P' h
      exact ⟨n, 0, g, rfl, n0, n1, by omega, by decide, bg, fun v v0 v1 => h _ ⟨v, ⟨v0, v1⟩, rfl⟩⟩
    · rintro δ ⟨p, ⟨p0, p1⟩, rfl⟩
      refine ⟨⟨by decide, by decide, by omega, by omega⟩, ?_⟩
      have em : ((m : Int) - 1).toNat = m - 1 := by omega
      rw [em]
      refine forK_nat (xs := List.range (m - 1)) (g := fun i => PyData.int (1 + (i : Nat))) (fun i δ => ∃ (t : List Nd) (c : Nat) (a3 a9 a10 a11 a12 a13 : Option Sl), Pre 40 t ∧ t.length = i + 1 ∧ c ≤ k + 1 + i ∧ (∀ x ∈ t, x.2 ≤ g) ∧ (notIo a3 = true ∧ notIo a9 = true ∧ notIo a10 = true ∧ notIo a11 = true ∧ notIo a12 = true ∧ notIo a13 = true) ∧
        δ = [some (.sh (.list (ns.map PyData.int))), some (.io (.lst [.int (c : Int)])), some (.sh (.int most)), a3, some (.sh (.int (m : Int))), some (.sh (.int g)), some (.ow (.lst (t.map ndD))), some (.ow (.lst ((List.range t.length).map fun j : Nat => PyData.int (tm t j : Nat)))), some (.ow (.lst ((List.range t.length).map fun j : Nat => PyData.int ((nexts t j).length : Nat)))), a9, a10, a11, a12, a13]) ?_ ?_ _
        ⟨[(none, p)], k + 1, _, none, none, none, none, none, pre_one (by decide) ⟨p0, by omega⟩, rfl, by omega, fun x hx => by rw [List.mem_singleton.mp hx]; exact p1, ⟨rfl, rfl, rfl, rfl, rfl, rfl⟩, rfl⟩
      · rintro δ ⟨t, c, a3, a9, a10, a11, a12, a13, ht, hlen, hc, hg, _, rfl⟩
        rw [List.length_range] at hlen hc
        exact ⟨t, g, rfl, ht, fun u hu hlu => hP u c hu (by omega) (by omega)⟩
      · rintro i x δ hi ⟨t, c, a3, a9, a10, a11, a12, a13, ht, hlen, hc, hg, ⟨h3, h9, h10, h11, h12, h13⟩, rfl⟩ F hF
        obtain ⟨rfl, hi⟩ := range_get hi
        refine nameG_of h9 ?_
        have ek : (1 + (x : Nat) : Int) = (t.length : Int) := by omega
        rw [ek]
        have l40 : t.length < 40 := by omega
        refine cut1 (fun δ => ∃ n : Int, (0 ≤ n ∧ n < 306783379) ∧ δ = [some (.sh (.list (ns.map PyData.int))), some (.io (.lst [.int ((c + 1 : Nat) : Int)])), some (.sh (.int most)), some (.sh (.int n)), some (.sh (.int (m : Int))), some (.sh (.int g)), some (.ow (.lst (t.map ndD))), some (.ow (.lst ((List.range t.length).map fun j : Nat => PyData.int (tm t j : Nat)))), some (.ow (.lst ((List.range t.length).map fun j : Nat => PyData.int ((nexts t j).length : Nat)))), some (.sh (.int (t.length : Int))), a10, a11, a12, a13]) ?_ ?_
        · intro P' h
          refine ⟨ns, c, rfl, hl, hb, by omega, fun v v0 v1 => ?_⟩
          exact setK_of h3 (h _ ⟨v, ⟨v0, v1⟩, rfl⟩)
        · rintro δ ⟨n, ⟨n0, n1⟩, rfl⟩
          refine cut2 (fun δ => ∃ b : Nat, b < t.length ∧ δ = [some (.sh (.list (ns.map PyData.int))), some (.io (.lst [.int ((c + 1 : Nat) : Int)])), some (.sh (.int most)), some (.sh (.int n)), some (.sh (.int (m : Int))), some (.sh (.int g)), some (.ow (.lst (t.map ndD))), some (.ow (.lst ((List.range t.length).map fun j : Nat => PyData.int (tm t j : Nat)))), some (.ow (.lst ((List.range t.length).map fun j : Nat => PyData.int ((nexts t j).length : Nat)))), some (.sh (.int (t.length : Int))), some (.sh (.int (b : Int))), a11, a12, a13]) ?_ ?_
          · intro P' h
            have m0 := Int.emod_nonneg n (show (t.length : Int) ≠ 0 by omega)
            have m1 := Int.emod_lt_of_pos n (show 0 < (t.length : Int) by omega)
            refine ⟨by omega, ?_⟩
            refine setK_of h10 ?_
            refine ⟨d40 n, (by show (0 : Int) < _; decide), ?_⟩
            refine bif_dec (fun w => ?_) (fun w => ?_)
            · refine ⟨d120 n, (by show (0 : Int) < _; decide), ?_⟩
              refine h _ ⟨(max2 0 ((t.length : Int) - 1 - n / 120 % 3)).toNat, ?_, ?_⟩
              · unfold max2; split <;> omega
              · rw [show (((max2 0 ((t.length : Int) - 1 - n / 120 % 3)).toNat : Nat) : Int) = max2 0 ((t.length : Int) - 1 - n / 120 % 3) by unfold max2; split <;> omega]
                rfl
            · refine h _ ⟨(n % (t.length : Int)).toNat, by omega, ?_⟩
              rw [show (((n % (t.length : Int)).toNat : Nat) : Int) = n % (t.length : Int) by omega]
              rfl
          · rintro δ ⟨b0, hb0, rfl⟩
            have rg : ∀ {f : Nat → D} {j : Nat}, j < t.length → atI ((List.range t.length).map f) (j : Int) = some (f j) := fun {f j} hj => atI_map (by rw [List.getElem?_range hj])
            refine cut1 (fun δ => ∃ b : Nat, b < t.length ∧ (nexts t b).length ≠ 4 ∧ tm t b ≠ 7 ∧ δ = [some (.sh (.list (ns.map PyData.int))), some (.io (.lst [.int ((c + 1 : Nat) : Int)])), some (.sh (.int most)), some (.sh (.int n)), some (.sh (.int (m : Int))), some (.sh (.int g)), some (.ow (.lst (t.map ndD))), some (.ow (.lst ((List.range t.length).map fun j : Nat => PyData.int (tm t j : Nat)))), some (.ow (.lst ((List.range t.length).map fun j : Nat => PyData.int ((nexts t j).length : Nat)))), some (.sh (.int (t.length : Int))), some (.sh (.int (b : Int))), a11, a12, a13]) ?_ ?_
            · intro P' h
              obtain ⟨jj, j1, j2, j3⟩ := room ht (by omega)
              refine ⟨fun μ δ => ∃ b : Nat, b < t.length ∧ (b ≤ jj ∧ μ = jj - b ∨ jj < b ∧ μ = jj + t.length - b) ∧ δ = [some (.sh (.list (ns.map PyData.int))), some (.io (.lst [.int ((c + 1 : Nat) : Int)])), some (.sh (.int most)), some (.sh (.int n)), some (.sh (.int (m : Int))), some (.sh (.int g)), some (.ow (.lst (t.map ndD))), some (.ow (.lst ((List.range t.length).map fun j : Nat => PyData.int (tm t j : Nat)))), some (.ow (.lst ((List.range t.length).map fun j : Nat => PyData.int ((nexts t j).length : Nat)))), some (.sh (.int (t.length : Int))), some (.sh (.int (b : Int))), a11, a12, a13], ?_, ?_⟩
              · by_cases w : b0 ≤ jj
                · exact ⟨_, b0, hb0, .inl ⟨w, rfl⟩, rfl⟩
                · exact ⟨_, b0, hb0, .inr ⟨by omega, rfl⟩, rfl⟩
              · rintro μ δ ⟨b, hb, hμ, rfl⟩
                have stepB : b ≠ jj → ∃ b2 : Nat, b2 < t.length ∧ ((b : Int) + 1) % (t.length : Int) = (b2 : Int) ∧ ∃ μ2, μ2 < μ ∧ (b2 ≤ jj ∧ μ2 = jj - b2 ∨ jj < b2 ∧ μ2 = jj + t.length - b2) := fun w => by
                  by_cases e : b + 1 = t.length
                  · refine ⟨0, by omega, ?_, jj, by omega, .inl ⟨by omega, by omega⟩⟩
                    rw [show ((b : Int) + 1) = (t.length : Int) by omega]
                    simp
                  · refine ⟨b + 1, by omega, ?_, μ - 1, by omega, by omega⟩
                    rw [Int.emod_eq_of_lt (by omega) (by omega)]
                    rfl
                refine optK_some (rg hb) ?_
                refine bif_eqi (fun w => ?_) (fun w => ?_)
                · have w : (((nexts t b).length : Nat) : Int) = 4 := w
                  obtain ⟨b2, h2, e2, μ2, h3', h4⟩ := stepB (fun z => by subst z; omega)
                  refine ⟨by omega, μ2, h3', b2, h2, h4, ?_⟩
                  rw [← e2]
                  rfl
                · have w : (((nexts t b).length : Nat) : Int) ≠ 4 := w
                  refine optK_some (rg hb) ?_
                  refine bif_eqi (fun w2 => ?_) (fun w2 => ?_)
                  · have w2 : ((tm t b : Nat) : Int) = 7 := w2
                    obtain ⟨b2, h2, e2, μ2, h3', h4⟩ := stepB (fun z => by subst z; omega)
                    refine ⟨by omega, μ2, h3', b2, h2, h4, ?_⟩
                    rw [← e2]
                    rfl
                  · have w2 : ((tm t b : Nat) : Int) ≠ 7 := w2
                    exact h _ ⟨b, hb, by omega, by omega, rfl⟩
            · rintro δ ⟨b, hb', hb4, hb7, rfl⟩
              obtain ⟨v, hv⟩ : ∃ v, t[b]? = some v := ⟨_, List.getElem?_eq_getElem hb'⟩
              have hgv := hg v (get_mem hv)
              have pvv := ht.pr b v hv
              refine cut3 (fun δ => ∃ lo hi : Int, (0 ≤ lo ∧ lo ≤ hi ∧ hi ≤ g) ∧ δ = [some (.sh (.list (ns.map PyData.int))), some (.io (.lst [.int ((c + 1 : Nat) : Int)])), some (.sh (.int most)), some (.sh (.int n)), some (.sh (.int (m : Int))), some (.sh (.int g)), some (.ow (.lst (t.map ndD))), some (.ow (.lst ((List.range t.length).map fun j : Nat => PyData.int (tm t j : Nat)))), some (.ow (.lst ((List.range t.length).map fun j : Nat => PyData.int ((nexts t j).length : Nat)))), some (.sh (.int (t.length : Int))), some (.sh (.int (b : Int))), some (.sh (.int v.2)), some (.sh (.int lo)), some (.sh (.int hi))]) ?_ ?_
              · intro P' h
                refine optK_some (nd_at hv) ?_
                refine setK_of h11 ?_
                refine ⟨d360 n, (by show (0 : Int) < _; decide), ?_⟩
                rcases (show n / 360 % 4 = 0 ∨ n / 360 % 4 = 1 ∨ n / 360 % 4 = 2 ∨ n / 360 % 4 = 3 by omega) with he | he | he | he
                · refine optK_some (a := .int v.2) (by show atI [PyData.int v.2, .int 0, .int v.2, .int 0] (n / 360 % 4) = _; rw [he]; rfl) (setK_of h12 ⟨d360 n, (by show (0 : Int) < _; decide), optK_some (a := .int v.2) (by show atI [PyData.int v.2, .int v.2, .int g, .int g] (n / 360 % 4) = _; rw [he]; rfl) (setK_of h13 (h _ ⟨v.2, v.2, ⟨by omega, by omega, by omega⟩, rfl⟩))⟩)
                · refine optK_some (a := .int 0) (by show atI [PyData.int v.2, .int 0, .int v.2, .int 0] (n / 360 % 4) = _; rw [he]; rfl) (setK_of h12 ⟨d360 n, (by show (0 : Int) < _; decide), optK_some (a := .int v.2) (by show atI [PyData.int v.2, .int v.2, .int g, .int g] (n / 360 % 4) = _; rw [he]; rfl) (setK_of h13 (h _ ⟨0, v.2, ⟨by omega, by omega, by omega⟩, rfl⟩))⟩)
                · refine optK_some (a := .int v.2) (by show atI [PyData.int v.2, .int 0, .int v.2, .int 0] (n / 360 % 4) = _; rw [he]; rfl) (setK_of h12 ⟨d360 n, (by show (0 : Int) < _; decide), optK_some (a := .int g) (by show atI [PyData.int v.2, .int v.2, .int g, .int g] (n / 360 % 4) = _; rw [he]; rfl) (setK_of h13 (h _ ⟨v.2, g, ⟨by omega, by omega, by omega⟩, rfl⟩))⟩)
                · refine optK_some (a := .int 0) (by show atI [PyData.int v.2, .int 0, .int v.2, .int 0] (n / 360 % 4) = _; rw [he]; rfl) (setK_of h12 ⟨d360 n, (by show (0 : Int) < _; decide), optK_some (a := .int g) (by show atI [PyData.int v.2, .int v.2, .int g, .int g] (n / 360 % 4) = _; rw [he]; rfl) (setK_of h13 (h _ ⟨0, g, ⟨by omega, by omega, by omega⟩, rfl⟩))⟩)
              · rintro δ ⟨lo, hi, ⟨q0, q1, q2⟩, rfl⟩
                refine ⟨n, lo, hi, rfl, n0, n1, q1, Bt.of_lt (by omega) (by omega), Bt.of_lt (by omega) (by omega), fun w w0 w1 => ?_⟩
                refine ⟨by rw [List.length_map]; omega, ?_⟩
                refine optK_some (rg hb') ?_
                refine ⟨by rw [List.length_map, List.length_range]; omega, ?_⟩
                refine ⟨by rw [List.length_map, List.length_range]; omega, ?_⟩
                have ec : atI ((List.range t.length).map (fun j : Nat => PyData.int ((nexts t j).length : Nat)) ++ [PyData.int 0]) (b : Int) = some (.int ((nexts t b).length : Nat)) := atI_nat (by rw [List.getElem?_append_left (by rw [List.length_map, List.length_range]; exact hb'), List.getElem?_map, List.getElem?_range hb']; rfl)
                refine optK_some ec ?_
                refine optK_some (ixN_nat (by rw [List.length_append, List.length_map, List.length_range]; show b < _ + 1; omega)) ?_
                have hb4' := ht.nx b
                have hb7' := ht.tm b hb'
                refine hF _ ⟨t ++ [(some b, w)], c + 1, some (.sh (.int n)), some (.sh (.int (t.length : Int))), some (.sh (.int (b : Int))), some (.sh (.int v.2)), some (.sh (.int lo)), some (.sh (.int hi)), ht.app l40 hb' (by omega) (by omega) ⟨by omega, by omega⟩, by rw [List.length_append, List.length_singleton]; omega, by omega, fun y hy => ?_, ⟨rfl, rfl, rfl, rfl, rfl, rfl⟩, ?_⟩
                · rcases List.mem_append.mp hy with hy | hy
                  · exact hg y hy
                  · rw [List.mem_singleton.mp hy]; show w ≤ g; omega
                · rw [late_app ht.ord hb', counts_app ht.ord hb', List.map_append]
                  rfl
end
end KX

namespace KX
open PySem PySem.Spec PyProof.Rows L2 DL
section
variable [NX.TabsC]
variable {P : Program} {w : World} {K : PySem.W.Frag} {mg : Str → Option Value} {base : Heap}
abbrev st__law_lines : Stmt := top 39
abbrev NN__law_lines : List Str := ["_law_tree_here", "_law_row"]
theorem sc__law_lines : FnScope ["_law_tree_here", "_law_row"] ["_law_tree_here"] (defScope st__law_lines) := ⟨rfl, rfl, rfl, by decide +kernel, rfl, by decide +kernel, by decide +kernel⟩
def S__law_lines : SP := fun ds _ P => ∃ (t : List Nd), ds = [.list (t.map ndD)] ∧ (Pre 40 t) ∧ P (.str (treeS t))
theorem m__law_lines : MonoS S__law_lines := fun _ _ _ _ _ _ hP ⟨t, e, h0, qq⟩ => ⟨t, e, h0, hP _ qq⟩
theorem l__law_lines : ∀ ds E P, S__law_lines ds E P → ds.length = 1 := fun _ _ _ ⟨t, e, _⟩ => by rw [e]; rfl

theorem ok__law_lines (T : Top K mg) (A : DefAt K mg "_law_lines" st__law_lines ["_law_tree_here"]) : CalD P w K mg base CX0 1 "_law_lines" ["_law_tree_here"] S__law_lines := by
  refine calD A sc__law_lines m__law_lines l__law_lines (fun f cdv A outer s H E hr Γ => ⟨_, (db_one (dp_ret (de_join de_str (de_of (dn_lc [("_law_row", 1)] sc__law_lines.nd (di_list (de_var 0)) (blkOk_by (N := NN__law_lines) (sc := defScope st__law_lines) (by decide +kernel)) (fun _ _ _ _ _ => (dg_name 1 sc__law_lines.nd)) (fun _ _ _ _ _ => dts_nil) (fun _ _ _ _ _ => (de_add (de_add (de_if (dt_isN (de_ix (de_var 1) de_int)) de_str (de_strOf T.b_str (da_cons (de_ix (de_var 1) de_int) da_nil))) de_str) (de_strOf T.b_str (da_cons (de_ix (de_var 1) de_int) da_nil))))))))), fun ds E P h => ?_⟩)
  obtain ⟨t, rfl, ht, hP⟩ := h
  have a4 : (1500000 : Nat) + 10 < sizeLine := by decide
  have lm := ht.lm
  refine ⟨by rw [List.length_map]; omega, ioG_of rfl ?_⟩
  refine lcK_all (xs := t) (g := ndD) (fun n => PyData.str (rowS n)) ?_ ?_
  · intro n hn acc F hF
    obtain ⟨i, hi⟩ := mem_get hn
    obtain ⟨r1, r2, r3⟩ := row_sz ht hi
    have bp := log_lt (bt_num (ht.pr i n hi).1 (ht.pr i n hi).2)
    have l1 : (firstS n.1).length + 1 ≤ sizeLine := by omega
    have l2 : (firstS n.1 ++ Str.ofString " ").length + (Str.ofString (toString n.2)).length ≤ sizeLine := by
      rw [len_add]
      show _ + 1 + _ ≤ _
      omega
    unfold rowS at hF
    cases q : n.1 with
    | none =>
      rw [q] at l1 l2 hF
      have e2 : ndD n = .tuple [.none, .int n.2] := by unfold ndD; rw [q]; rfl
      rw [e2]
      exact ⟨l1, bp, l2, hF⟩
    | some b =>
      rw [q] at l1 l2 hF
      have hb : b ≤ 40 := by
        have := (ht.ord i n hi).2 b q
        have := get_lt hi
        omega
      have e2 : ndD n = .tuple [.int (b : Int), .int n.2] := by unfold ndD; rw [q]; rfl
      rw [e2]
      exact ⟨log_lt (bt_num (by omega) (by omega)), l1, bp, l2, hF⟩
  · have e : (t.map fun n => PyData.str (rowS n)) = (t.map rowS).map PyData.str := by rw [List.map_map]; rfl
    rw [e]
    refine optK_some (strsD_map _) ⟨?_, hP⟩
    rw [List.length_map, List.map_map]
    have := sum_le (l := t.map fun n => (rowS n).length) (m := 1203) fun x hx => by
      obtain ⟨n, hn, rfl⟩ := List.mem_map.mp hx
      obtain ⟨k, hk⟩ := mem_get hn
      exact (row_sz ht hk).2.2
    rw [List.length_map] at this
    show (t.map fun n => (rowS n).length).sum + t.length * 1 ≤ 16777216
    omega
end
end KX

namespace KX
open PySem PySem.Spec PyProof.Rows L2 DL
section
variable [NX.TabsC]
variable {P : Program} {w : World} {K : PySem.W.Frag} {mg : Str → Option Value} {base : Heap}
theorem tl_nat {i : Int} (h : 0 ≤ i) : TL.tl (Str.ofString (toString i)) = TL.numL i.natAbs := by
  rw [tl_int, if_neg (by omega)]
theorem tl_first {o : Option Nat} : TL.tl (firstS o) = match o with
  | none => [45]
  | some b => TL.numL b := by
  cases o with
  | none => exact tl_minus
  | some b =>
    show TL.tl (Str.ofString (toString (b : Int))) = TL.numL b
    rw [tl_nat (by omega), Int.natAbs_natCast]
theorem dig_free {n x : Nat} (h : dig x = false) : x ∉ TL.numL n := fun z => by
  rw [numL_dig n x z] at h
  cases h
theorem first_free {o : Option Nat} {x : Nat} (h : dig x = false) (h2 : x ≠ 45) : x ∉ TL.tl (firstS o) := by
  rw [tl_first]
  cases o with
  | none => simpa using h2
  | some b => exact dig_free h
theorem row_free {n : Nd} (h : 0 ≤ n.2) : 10 ∉ TL.tl (rowS n) := by
  unfold rowS
  rw [TL.tl_append, TL.tl_append, tl_nat h]
  intro z
  rcases List.mem_append.mp z with z | z
  · rcases List.mem_append.mp z with z | z
    · exact first_free (by decide) (by decide) z
    · rw [show TL.tl (Str.ofString " ") = [32] from tl_sp] at z
      simp at z
  · exact dig_free (by decide) z
theorem line_row {n : Nd} (h0 : 0 ≤ n.2) (h1 : n.2 ≤ 1000000000) (hb : ∀ b, n.1 = some b → b < 100) : lineD (rowS n) = ndD n := by
  obtain ⟨o, p⟩ := n
  have e : Txt.partition (rowS (o, p)) spS = (firstS o, spS, Str.ofString (toString p)) := part_app (first_free (by decide) (by decide))
  unfold lineD
  rw [e]
  dsimp only at h0 h1 hb ⊢
  rw [tl_nat h0, tl_first]
  have lp : (TL.numL p.natAbs).length ≤ 10 := TL.numL_len (by decide) (by omega)
  have np : numO (TL.numL p.natAbs) = some p := by
    rw [numO_num (Nat.lt_of_lt_of_le (show p.natAbs < 10 ^ 10 by omega) (Nat.pow_le_pow_right (by decide) (by decide)))]
    congr 1
    omega
  cases o with
  | none =>
    unfold nodeO
    rw [if_neg (by rw [np]; intro z; rcases z with z | z | z; omega; exact absurd z (by decide); cases z), if_pos rfl, np]
    rfl
  | some b =>
    have lb := hb b rfl
    have l2 : (TL.numL b).length ≤ 2 := TL.numL_len (by decide) (by omega)
    have nb : numO (TL.numL b) = some (b : Int) := numO_num (Nat.lt_of_lt_of_le (show b < 10 ^ 2 by omega) (Nat.pow_le_pow_right (by decide) (by decide)))
    unfold nodeO
    rw [if_neg (by rw [np]; intro z; rcases z with z | z | z; omega; dsimp only at z; omega; cases z), if_neg, if_neg (by rw [nb]; simp), nb, np]
    · rfl
    · intro z
      have : 45 ∈ TL.numL b := by
        have z : TL.numL b = [45] := z
        rw [z]; exact List.mem_cons_self
      exact dig_free (by decide) this
theorem lines_tree {t : List Nd} (h : Pre 40 t) : linesD (treeS t) = .list (t.map ndD) := by
  have l1 := h.l1
  have lm := h.lm
  have e : Txt.split (treeS t) nlS = t.map rowS := by
    unfold treeS
    refine TL.split_join tl_nl (by decide +kernel) ?_ ?_
    · intro z
      rw [List.map_eq_nil_iff] at z
      rw [z] at l1
      exact absurd l1 (by decide)
    · intro p hp
      obtain ⟨n, hn, rfl⟩ := List.mem_map.mp hp
      obtain ⟨k, hk⟩ := mem_get hn
      exact row_free (h.pr k n hk).1
  unfold linesD
  rw [e, List.map_map]
  congr 1
  refine List.map_congr_left fun n hn => ?_
  obtain ⟨k, hk⟩ := mem_get hn
  refine line_row (h.pr k n hk).1 (h.pr k n hk).2 fun b z => ?_
  have := (h.ord k n hk).2 b z
  have := get_lt hk
  omega
end
end KX

namespace KX
open PySem PySem.Spec PyProof.Rows L2 DL
section
variable [NX.TabsC]
variable {P : Program} {w : World} {K : PySem.W.Frag} {mg : Str → Option Value} {base : Heap}
def refD : D := .list [.bool true, .bool true, .bool false, .bool false, .bool false, .bool false, .bool false]
abbrev st__law_refused : Stmt := top 37
abbrev NN__law_refused : List Str := ["_law_call", "_law_thing", "_law_found", "e"]
theorem sc__law_refused : FnScope ["_law_call", "_law_thing", "_law_found", "e"] ["_law_call", "_law_thing"] (defScope st__law_refused) := ⟨rfl, rfl, rfl, by decide +kernel, rfl, by decide +kernel, by decide +kernel⟩
def S__law_refused (K : PySem.W.Frag) : SP := fun ds _ P => ∃ (f : Addr) (d : D), ds = [objD f, d] ∧ ((f = eA K "need_tree" ∧ plainT d ∧ (GoodT d → P .none) ∧ (¬ GoodT d → P refD)) ∨
  (f = eA K "read_tree" ∧ isObjD d = false ∧ (∀ s, d = .str s → s.length ≤ 100000 ∧ (GoodT (linesD s) → P .none)) ∧ ((∀ s, d = .str s → ¬ GoodT (linesD s)) → P refD)))
theorem m__law_refused {K : PySem.W.Frag} : MonoS (S__law_refused K) := fun _ _ _ _ _ _ hP ⟨f, d, e, q⟩ => ⟨f, d, e, q.imp (fun ⟨a, b, c1, c2⟩ => ⟨a, b, fun z => hP _ (c1 z), fun z => hP _ (c2 z)⟩) (fun ⟨a, b, c1, c2⟩ => ⟨a, b, fun s z => ⟨(c1 s z).1, fun w => hP _ ((c1 s z).2 w)⟩, fun z => hP _ (c2 z)⟩)⟩
theorem l__law_refused {K : PySem.W.Frag} : ∀ ds E P, S__law_refused K ds E P → ds.length = 2 := fun _ _ _ ⟨_, _, e, _⟩ => by rw [e]; rfl

def T__law_refused__law_call (K : PySem.W.Frag) : Addr → SP → Prop := fun f S => (f = eA K "need_tree" ∧ S = S_need_tree K) ∨ (f = eA K "read_tree" ∧ S = S_read_tree K)
theorem ok__law_refused (T : Top K mg) (A : DefAt K mg "_law_refused" st__law_refused ["_law_call", "_law_thing"]) (C_need_tree : CalD P w K mg base (L2.CX P w) 4 "need_tree" ["tree"] (S_need_tree K)) (C_read_tree : CalD P w K mg base (L2.CX P w) 5 "read_tree" ["text"] (S_read_tree K)) : CalD P w K mg base CX0 6 "_law_refused" ["_law_call", "_law_thing"] (S__law_refused K) := by
  refine calD A sc__law_refused m__law_refused l__law_refused (fun f cdv A outer s H E hr Γ => ⟨_, (db_cons (dp_set 2 sc__law_refused.nd de_non)
    (db_cons (dp_tryAs 3 sc__law_refused.nd (ExcG.nm T.xg_HedgeError) takes0 (fun _ _ _ tk1 po1 => (db_one (dp_expr (de_calV (T := T__law_refused__law_call K) (j := 5) 0 (fun _ _ h => by rcases h with ⟨rfl, rfl⟩ | ⟨rfl, rfl⟩; exact C_need_tree.held (by decide) T.g_need_tree; exact C_read_tree.held (by decide) T.g_read_tree) hr (fun σ => passAt tk1 σ) (da_cons (de_var 1) da_nil))))) (fun a oe C pn hz hf => (db_cons (dp_set 2 sc__law_refused.nd (de_lst (da_cons (de_isiF T.xg_BadTree hz hf T.b_isinstance (de_var 3)) (da_cons (de_isiV hz hf T.b_isinstance T.b_ValueError (de_var 3)) (da_cons (de_isiF T.xg_BadDeal hz hf T.b_isinstance (de_var 3)) (da_cons (de_isiF T.xg_TooMany hz hf T.b_isinstance (de_var 3)) da_nil))))))
    (db_one (dp_set 2 sc__law_refused.nd (de_add (de_var 2) (de_lst (da_cons (de_isiF T.xg_NoTurn hz hf T.b_isinstance (de_var 3)) (da_cons (de_isiF T.xg_BadChoice hz hf T.b_isinstance (de_var 3)) (da_cons (de_isiF T.xg_BadText hz hf T.b_isinstance (de_var 3)) da_nil))))))))))
    (db_one (dp_ret (de_var 2))))), fun ds E P h => ?_⟩)
  obtain ⟨f0, d, rfl, h⟩ := h
  refine cut1 (fun δ => δ = [some (.sh (objD f0)), some (.sh (d)), some (.sh (PyData.none)), none]) (fun P' h => h _ rfl) ?_
  rintro δ rfl
  obtain ⟨S, hT, mS, hS⟩ : ∃ S, T__law_refused__law_call K f0 S ∧ MonoS S ∧ S [d] (fun x => x = (eA K "BadTree", none) ∧ P refD) (fun _ => P .none) := by
    rcases h with ⟨e, h1, h2, h3⟩ | ⟨e, h1, h2, h3⟩
    · exact ⟨_, .inl ⟨e, rfl⟩, m_need_tree, d, rfl, h1, h2, fun z => ⟨rfl, h3 z⟩⟩
    · exact ⟨_, .inr ⟨e, rfl⟩, m_read_tree, d, rfl, h1, h2, fun z => ⟨rfl, h3 z⟩⟩
  refine ⟨f0, S, hT, objK_of ?_⟩
  refine mS _ _ _ _ _ (fun x hx => ?_) (fun _ hp => hp) hS
  obtain ⟨rfl, hP⟩ := hx
  refine ⟨rfl, true, (relB.ex T.r_BadTree_HedgeError).1, fun _ a => setK_of rfl ?_, fun z => by cases z⟩
  have cx := T.x_BadTree.c
  refine cut1 (fun δ => δ = [some (.sh (objD f0)), some (.sh (d)), some (.sh (.list ([PyData.bool true, .bool true, .bool false, .bool false]))), some (.sh (objD a))]) (fun P' h => ?_) ?_
  · refine ⟨rfl, cx, true, (relB.ex T.r_BadTree_BadTree).2, rfl, cx, true, isVB.ex T.v_BadTree, rfl, cx, false, (relB.ex T.r_BadTree_BadDeal).2, rfl, cx, false, (relB.ex T.r_BadTree_TooMany).2, ?_⟩
    exact h _ rfl
  rintro δ rfl
  refine ⟨rfl, cx, false, (relB.ex T.r_BadTree_NoTurn).2, rfl, cx, false, (relB.ex T.r_BadTree_BadChoice).2, rfl, cx, false, (relB.ex T.r_BadTree_BadText).2, ?_⟩
  refine ⟨by show 4 + 3 ≤ sizeLine; decide, ?_⟩
  exact ⟨rfl, hP⟩
end
end KX

namespace KX
open PySem PySem.Spec PyProof.Rows L2 DL
section
variable [NX.TabsC]
variable {P : Program} {w : World} {K : PySem.W.Frag} {mg : Str → Option Value} {base : Heap}
abbrev Rw := Option Int × Int
def rwD (r : Rw) : D := .tuple [optI r.1, .int r.2]
def rwN (n : Nd) : Rw := (n.1.map fun k : Nat => (k : Int), n.2)
theorem rwD_nd (n : Nd) : rwD (rwN n) = ndD n := by
  obtain ⟨o, p⟩ := n
  cases o <;> rfl
theorem rw_at {t : List Rw} {k : Nat} {n : Rw} (e : t[k]? = some n) : atI (t.map rwD) (k : Int) = some (rwD n) := atI_map e
theorem eqv_opt {o : Option Int} {b : Int} : PyData.eqv (optI o) (.int b) = decide (o = some b) := by
  cases o with
  | none => rfl
  | some i =>
    show PyData.eqv (.int i) (.int b) = _
    rw [eqv_int]
    by_cases h : i = b
    · rw [decide_eq_true h, decide_eq_true (by rw [h])]
    · rw [decide_eq_false h, decide_eq_false (by intro z; injection z with z; exact h z)]
theorem eqok_opt {o : Option Int} {b : Int} : EqOk (optI o) (.int b) := by cases o <;> exact .inl rfl
/-- a row that may be a node -/
def okP (o : Option Int) (k : Nat) : Bool := match o with
  | none => decide (k = 0)
  | some b => decide (k ≠ 0) && decide (0 ≤ b) && decide (b < (k : Int))
def okR (r : Rw) (k : Nat) : Bool := decide (0 ≤ r.2) && decide (r.2 ≤ 1000000000) && okP r.1 k
theorem okR_node (r : Rw) (k : Nat) : nodeB (rwD r) k = okR r k := by
  obtain ⟨o, p⟩ := r
  have e : nodeB (rwD (o, p)) k = (amongB (.int p) 0 1000000000 && (if k = 0 then noneB (optI o) else amongB (optI o) 0 ((k : Int) - 1))) := rfl
  rw [e]
  unfold okR
  show (decide (0 ≤ p) && decide (p ≤ 1000000000) && _) = _
  congr 1
  cases o with
  | none =>
    by_cases c : k = 0
    · rw [if_pos c]; simp [c, optI, noneB, okP]
    · rw [if_neg c]; simp [c, optI, amongB, okP]
  | some b =>
    by_cases c : k = 0
    · rw [if_pos c]; simp [c, optI, noneB, okP]
    · rw [if_neg c]
      show (decide (0 ≤ b) && decide (b ≤ (k : Int) - 1)) = (decide (k ≠ 0) && decide (0 ≤ b) && decide (b < (k : Int)))
      rw [show decide (k ≠ 0) = true by simpa using c, Bool.true_and]
      congr 1
      rw [decide_eq_decide]
      omega
theorem okR_none {p : Int} {k : Nat} (h : okR (none, p) k = true) : k = 0 := by
  unfold okR okP at h
  simp only [Bool.and_eq_true, decide_eq_true_eq] at h
  exact h.2
theorem okR_some {p b : Int} {k : Nat} (h : okR (some b, p) k = true) : k ≠ 0 ∧ 0 ≤ b ∧ b < (k : Int) := by
  unfold okR okP at h
  simp only [Bool.and_eq_true, decide_eq_true_eq] at h
  exact ⟨h.2.1.1, h.2.1.2, h.2.2⟩
/-- all rows may be nodes -/
def AllOk (t : List Rw) : Prop := ∀ (k : Nat) (r : Rw), t[k]? = some r → okR r k = true
theorem allok_nds {t : List Rw} (h : AllOk t) : ∃ u : List Nd, t = u.map rwN := by
  have : ∀ (l : List Rw), (∀ r ∈ l, ∃ n : Nd, r = rwN n) → ∃ u : List Nd, l = u.map rwN := by
    intro l
    induction l with
    | nil => intro _; exact ⟨[], rfl⟩
    | cons r l ih =>
      intro hh
      obtain ⟨n, rfl⟩ := hh r List.mem_cons_self
      obtain ⟨u, rfl⟩ := ih fun x hx => hh x (List.mem_cons_of_mem _ hx)
      exact ⟨n :: u, rfl⟩
  refine this t fun r hr => ?_
  obtain ⟨k, hk⟩ := mem_get hr
  have q := h k r hk
  obtain ⟨o, p⟩ := r
  cases o with
  | none => exact ⟨(none, p), rfl⟩
  | some b =>
    unfold okR okP at q
    simp only [Bool.and_eq_true, decide_eq_true_eq] at q
    exact ⟨(some b.toNat, p), by show (some b, p) = (some ((b.toNat : Nat) : Int), p); rw [Int.toNat_of_nonneg (by omega)]⟩
theorem good_allok {t : List Rw} (h : GoodT (.list (t.map rwD))) : AllOk t := by
  obtain ⟨u, e, hu⟩ := h
  injection e with e
  intro k r hk
  have e2 : (t.map rwD)[k]? = some (rwD r) := by rw [List.getElem?_map, hk]; rfl
  rw [e, List.getElem?_map] at e2
  obtain ⟨n, hn, en⟩ := Option.map_eq_some_iff.mp e2
  rw [← okR_node, ← en]
  exact unf_nd hu hn
theorem map_rwN (u : List Nd) : (u.map rwN).map rwD = u.map ndD := by
  rw [List.map_map]
  exact List.map_congr_left fun n _ => rwD_nd n
theorem good_unf {u : List Nd} : GoodT (.list (u.map ndD)) ↔ Unf 40 u := by
  constructor
  · rintro ⟨v, e, h⟩
    injection e with e
    rw [nds_inj e]
    exact h
  · exact fun h => ⟨u, rfl, h⟩
theorem nexts_rows (u : List Nd) (k : Nat) : (u.filter fun n => decide (n.1 = some k)).map (·.2) = (nexts u k).map (prc u) := by
  have e : u = (List.range u.length).map fun i => u.getD i (none, 0) := by
    refine List.ext_getElem? fun i => ?_
    rw [List.getElem?_map]
    by_cases h : i < u.length
    · rw [List.getElem?_range h, List.getElem?_eq_getElem h]
      show _ = some (u.getD i (none, 0))
      rw [List.getD, List.getElem?_eq_getElem h]; rfl
    · rw [List.getElem?_eq_none (by omega), List.getElem?_eq_none (by rw [List.length_range]; omega)]; rfl
  have key : ∀ l : List Nat, (∀ i ∈ l, i < u.length) → ((l.map fun i => u.getD i (none, 0)).filter fun n => decide (n.1 = some k)).map (·.2) = (l.filter fun j => decide (par u j = some k)).map (prc u) := by
    intro l
    induction l with
    | nil => intro _; rfl
    | cons i l ih =>
      intro hl
      have hi := hl i List.mem_cons_self
      have ig := ih fun x hx => hl x (List.mem_cons_of_mem _ hx)
      have eg : u[i]? = some (u.getD i (none, 0)) := by rw [List.getD, List.getElem?_eq_getElem hi]; rfl
      rw [List.map_cons, List.filter_cons, List.filter_cons, par_get eg]
      by_cases c : (u.getD i (none, 0)).1 = some k
      · rw [if_pos (decide_eq_true c), if_pos (decide_eq_true c), List.map_cons, List.map_cons, ig, prc_get eg]
      · rw [if_neg (by simpa using c), if_neg (by simpa using c), ig]
  have := key (List.range u.length) fun i hi => List.mem_range.mp hi
  rw [← e] at this
  exact this
theorem rows_filter (u : List Nd) (k : Nat) : ((u.map rwN).filter fun r => decide (r.1 = some (k : Int))).map (·.2) = (nexts u k).map (prc u) := by
  rw [← nexts_rows, List.filter_map, List.map_map]
  congr 1
  refine List.filter_congr fun n _ => ?_
  show decide ((n.1.map fun k : Nat => (k : Int)) = some (k : Int)) = decide (n.1 = some k)
  cases n.1 with
  | none => rfl
  | some b =>
    rw [decide_eq_decide]
    constructor
    · intro z
      have z : some ((b : Nat) : Int) = some (k : Int) := z
      injection z with z
      rw [show b = k by omega]
    · intro z
      injection z with z
      rw [z]
      rfl
/-- the law's own look at prices behind a node -/
def lookP (ps : List Int) (p : Int) : Prop := ps = [] ∨ ((∃ a ∈ ps, a ≤ p) ∧ ∃ a ∈ ps, p ≤ a)
theorem lookP_fair {u : List Nd} {k : Nat} {n : Nd} (e : u[k]? = some n) : (((nexts u k).map (prc u)).length ≤ 4 ∧ lookP ((nexts u k).map (prc u)) n.2) ↔ FairAt u k := by
  unfold lookP FairAt
  rw [prc_get e, List.length_map]
  constructor
  · rintro ⟨h1, h2⟩
    rcases h2 with h2 | ⟨⟨a, ha, h3⟩, b, hb, h4⟩
    · exact .inl (List.map_eq_nil_iff.mp h2)
    · obtain ⟨i, hi, rfl⟩ := List.mem_map.mp ha
      obtain ⟨j, hj, rfl⟩ := List.mem_map.mp hb
      exact .inr ⟨h1, ⟨i, hi, h3⟩, j, hj, h4⟩
  · intro h1
    rcases h1 with h1 | ⟨h2, ⟨i, hi, h3⟩, j, hj, h4⟩
    · exact ⟨by rw [h1]; exact Nat.zero_le _, .inl (by rw [h1]; rfl)⟩
    · exact ⟨h2, .inr ⟨⟨_, List.mem_map.mpr ⟨i, hi, rfl⟩, h3⟩, _, List.mem_map.mpr ⟨j, hj, rfl⟩, h4⟩⟩
theorem bif_ndec {c : Prop} [Decidable c] {A B : Prop} (h1 : ¬ c → A) (h2 : c → B) : bifP (!decide c) A B := by
  by_cases h : c
  · rw [decide_eq_true h]; exact h2 h
  · rw [decide_eq_false h]; exact h1 h
abbrev st__law_good : Stmt := top 35
abbrev NN__law_good : List Str := ["_law_tree_here", "_law_late", "_law_k", "_law_before", "_law_price_here", "_law_prices", "_law_row"]
theorem sc__law_good : FnScope ["_law_tree_here", "_law_late", "_law_k", "_law_before", "_law_price_here", "_law_prices", "_law_row"] ["_law_tree_here"] (defScope st__law_good) := ⟨rfl, rfl, rfl, by decide +kernel, rfl, by decide +kernel, by decide +kernel⟩
def S__law_good : SP := fun ds _ P => ∃ (t : List Rw), ds = [.list (t.map rwD)] ∧ (t.length ≤ 1000000) ∧ ∀ (b : Bool), (b = true ↔ GoodT (.list (t.map rwD))) → P (.bool b)
theorem m__law_good : MonoS S__law_good := fun _ _ _ _ _ _ hP ⟨t, e, h0, qq⟩ => ⟨t, e, h0, fun b hh0 => hP _ (qq b hh0)⟩
theorem l__law_good : ∀ ds E P, S__law_good ds E P → ds.length = 1 := fun _ _ _ ⟨t, e, _⟩ => by rw [e]; rfl

theorem ok__law_good (T : Top K mg) (A : DefAt K mg "_law_good" st__law_good ["_law_tree_here"]) : CalD P w K mg base CX0 1 "_law_good" ["_law_tree_here"] S__law_good := by
  refine calD A sc__law_good m__law_good l__law_good (fun f cdv A outer s H E hr Γ => ⟨_, (db_cons (dp_if (DW.dt (dw_or (dt_not (dt_lele de_int (de_len T.b_len (da_cons (de_var 0) da_nil)) de_int)) (dw_or1 (dt_notN (de_ix (de_ix (de_var 0) de_int) de_int)))))
    (db_one (dp_ret de_bl))
    db_nil)
    (db_cons (dp_setN 1 sc__law_good.nd (dn_rep (de_lst (da_cons de_int da_nil)) (de_len T.b_len (da_cons (de_var 0) da_nil))))
    (db_cons (dp_for (vs := [2]) PassesOwn.never (di_range1 T.b_range (de_len T.b_len (da_cons (de_var 0) da_nil))) (dg_name 2 sc__law_good.nd)
    (db_cons (dp_unp (vs := [3, 4]) (de_ix (de_var 0) (de_var 2)) (dg_t (n := 2) (dgs_c (dg_name 3 sc__law_good.nd) (dgs_c (dg_name 4 sc__law_good.nd) dgs_nil))))
    (db_cons (dp_if (DW.dt (dw_or (dt_not (dt_lele de_int (de_var 4) (de_pow de_int de_int))) (dw_or1 (DW.dt (dw_and (dt_gt (de_var 2) de_int) (dw_and1 (DW.dt (dw_or (dt_isN (de_var 3)) (dw_or1 (dt_not (dt_lelt de_int (de_var 3) (de_var 2))))))))))))
    (db_one (dp_ret de_bl))
    db_nil)
    (db_cons (dp_if (dt_gt (de_var 2) de_int)
    (db_one (dp_setIx 1 (pv 1) (de_add (de_ixO 1 (pv 1) (de_var 3)) de_int) (de_var 2) (fun h1 h2 => pg_sub h1 h2 set_list) (fun h1 h2 => ps_asg h1 h2)))
    db_nil)
    (db_cons (dp_setLc2 5 [("_law_row", 6)] sc__law_good.nd (di_list (de_var 0)) (blkOk_by (N := NN__law_good) (sc := defScope st__law_good) (by decide +kernel)) (fun _ _ _ _ _ => (dg_name 6 sc__law_good.nd)) (fun _ _ _ _ _ => (dts_one (dt_eq (hu64 hr) (de_ix (de_var 6) de_int) (de_var 2)))) (fun _ _ _ _ _ => (de_ix (de_var 6) de_int))).2
    (db_one (dp_if (DW.dt (dw_or (dt_gt (de_len T.b_len (da_cons (de_var 5) da_nil)) de_int) (dw_or (dt_gt (de_ixO 1 (pv 1) (de_var 2)) de_int) (dw_or1 (DW.dt (dw_and (dt_ne (hu64 hr) (de_var 5) (de_lst da_nil)) (dw_and1 (dt_not (dt_lele (de_minL T.b_min (da_cons (de_var 5) da_nil)) (de_var 4) (de_maxL T.b_max (da_cons (de_var 5) da_nil)))))))))))
    (db_one (dp_ret de_bl))
    db_nil)))))))
    (db_one (dp_ret de_bl))))), fun ds E P h => ?_⟩)
  obtain ⟨t, rfl, hl, hP⟩ := h
  have a4 : (1000000 : Nat) + 10 < sizeLine := by decide
  have e9 : ((10 : Int) ^ (9 : Int).toNat) = 1000000000 := by decide
  have no : ¬ GoodT (.list (t.map rwD)) → P (.bool false) := fun z => hP false ⟨fun w => (by cases w), fun w => absurd w z⟩
  have tooL : ¬ (1 ≤ t.length ∧ t.length ≤ 40) → ¬ GoodT (.list (t.map rwD)) := fun c ⟨u, e, hu⟩ => by
    injection e with e
    have e2 := congrArg List.length e
    rw [List.length_map, List.length_map] at e2
    exact c ⟨by have := hu.l1; omega, by have := hu.lm; omega⟩
  refine cut1r (fun δ => (1 ≤ t.length ∧ t.length ≤ 40) ∧ (∀ r, t[0]? = some r → r.1 = none) ∧ δ = [some (.sh (.list (t.map rwD))), none, none, none, none, none, none]) ?_ ?_
  · intro P' hN hR
    refine bif_dec (fun h1 => ?_) (fun h1 => hR _ _ (no (tooL fun z => h1 (by show (1 : Int) ≤ ((t.map rwD).length : Nat); rw [List.length_map]; omega))))
    have h1 : (1 : Int) ≤ ((t.map rwD).length : Nat) := h1
    rw [List.length_map] at h1
    refine bif_ndec (fun h2 => hR _ _ (no (tooL fun z => h2 (by show ((t.map rwD).length : Int) ≤ 40; rw [List.length_map]; omega)))) (fun h2 => ?_)
    have h2 : ((t.map rwD).length : Int) ≤ 40 := h2
    rw [List.length_map] at h2
    obtain ⟨r, hr⟩ : ∃ r, t[0]? = some r := ⟨_, List.getElem?_eq_getElem (by omega)⟩
    refine optK_some (rw_at (k := 0) hr) ?_
    obtain ⟨o, p⟩ := r
    cases o with
    | none => exact hN _ ⟨⟨by omega, by omega⟩, fun r e => by rw [hr] at e; cases e; rfl, rfl⟩
    | some b => exact hR _ _ (no fun g => by
        have := good_allok g 0 _ hr
        unfold okR okP at this
        simp at this)
  rintro δ ⟨⟨l1, l2⟩, h0, rfl⟩
  have lz : ((t.map rwD).length : Int).toNat = t.length := by rw [List.length_map]; omega
  have e0 : (List.replicate ((t.map rwD).length : Int).toNat [PyData.int 0]).flatten = (List.replicate t.length (0 : Int)).map PyData.int := by
    rw [lz, List.map_replicate]
    generalize t.length = n
    induction n with
    | zero => rfl
    | succ n ih => rw [List.replicate_succ, List.flatten_cons, ih, List.replicate_succ]; rfl
  refine cut1 (fun δ => δ = [some (.sh (.list (t.map rwD))), some (.ow (.lst ((List.replicate t.length (0 : Int)).map PyData.int))), none, none, none, none, none]) ?_ ?_
  · intro P' h
    refine ⟨⟨by rw [List.length_map]; omega, by show 1 * _ ≤ _; rw [lz]; omega, by rw [List.length_map]; omega⟩, ?_⟩
    rw [e0]
    exact h _ rfl
  rintro δ rfl
  refine cut1r (fun δ => GoodT (.list (t.map rwD))) ?_ (fun δ g => hP true ⟨fun _ => g, fun _ => rfl⟩)
  intro P' hN hR
  have no : ∀ δ, ¬ GoodT (.list (t.map rwD)) → P' (.rt (.bool false)) δ := fun δ z => hR _ _ (no z)
  refine ⟨⟨by rw [List.length_map]; omega, by rw [List.length_map]; omega⟩, ?_⟩
  rw [lz]
  refine forK_nat (xs := List.range t.length) (g := fun i => PyData.int (0 + (i : Nat))) (fun i δ => ∃ (a2 a3 a4 a5 : Option Sl), ∃ L : List Int, L.length = t.length ∧ (∀ j, j < i → ∃ r, t[j]? = some r ∧ okR r j = true) ∧
    (∀ u : List Nd, t = u.map rwN → Ord u → (∀ j, j < i → L[j]? = some (tm u j : Int)) ∧ (∀ j, i ≤ j → j < t.length → L[j]? = some 0) ∧ ∀ j, j < i → tm u j ≤ 7 ∧ FairAt u j) ∧ (notIo a2 = true ∧ notIo a3 = true ∧ notIo a4 = true ∧ notIo a5 = true) ∧ δ = [some (.sh (.list (t.map rwD))), some (.ow (.lst (L.map PyData.int))), a2, a3, a4, a5, none]) ?_ ?_ _
    ⟨none, none, none, none, List.replicate t.length 0, by rw [List.length_replicate], fun _ z => absurd z (Nat.not_lt_zero _), fun u hu ho => ⟨fun _ z => absurd z (Nat.not_lt_zero _), fun j _ hj => by rw [List.getElem?_replicate, if_pos hj], fun _ z => absurd z (Nat.not_lt_zero _)⟩, ⟨rfl, rfl, rfl, rfl⟩, rfl⟩
  · rintro δ ⟨a2, a3, a4, a5, L, hL, hok, hu, _, rfl⟩
    rw [List.length_range] at hok hu
    refine hN _ ?_
    have ha : AllOk t := fun k r e => by
      obtain ⟨r', e', q⟩ := hok k (get_lt e)
      rw [e] at e'
      cases e'
      exact q
    obtain ⟨u, rfl⟩ := allok_nds ha
    have hno : ∀ (k : Nat) (n : Nd), u[k]? = some n → nodeB (ndD n) k = true := fun k n e => by
      rw [← rwD_nd, okR_node]
      exact ha k _ (by rw [List.getElem?_map, e]; rfl)
    have ho : Ord u := fun k n e => ⟨(nodeB_nd.mp (hno k n e)).2.1, (nodeB_nd.mp (hno k n e)).2.2⟩
    obtain ⟨_, _, hf⟩ := hu u rfl ho
    rw [List.length_map] at l1 l2 hf
    rw [map_rwN]
    exact good_unf.mpr (unf_of (by omega) (by omega) hno hf)
  · rintro i x δ hi ⟨a2, a3, a4, a5, L, hL, hok, hu, ⟨h2, h3, h4, h5⟩, rfl⟩ F hF
    obtain ⟨rfl, hk⟩ := range_get hi
    refine nameG_of h2 ?_
    rw [show (0 + (x : Nat) : Int) = (x : Int) by omega]
    obtain ⟨r, hr⟩ : ∃ r, t[x]? = some r := ⟨_, List.getElem?_eq_getElem hk⟩
    refine cut1 (fun δ => δ = [some (.sh (.list (t.map rwD))), some (.ow (.lst (L.map PyData.int))), some (.sh (.int (x : Int))), some (.sh (optI r.1)), some (.sh (.int r.2)), a5, none]) ?_ ?_
    · intro P' h
      refine optK_some (rw_at hr) (tupG_of rfl (consG_of (nameG_of h3 (consG_of (nameG_of h4 ?_)))))
      exact h _ rfl
    rintro δ rfl
    refine cut1r (fun δ => okR r x = true ∧ δ = [some (.sh (.list (t.map rwD))), some (.ow (.lst (L.map PyData.int))), some (.sh (.int (x : Int))), some (.sh (optI r.1)), some (.sh (.int r.2)), a5, none]) ?_ ?_
    · intro P2 hN2 hR2
      have bad : okR r x = false → ∀ δ, P2 (.rt (.bool false)) δ := fun z δ => hR2 _ _ (no δ fun g => by
        rw [good_allok g x r hr] at z
        cases z)
      obtain ⟨o, p⟩ := r
      refine bif_dec (fun c1 => ?_) (fun c1 => bad (by unfold okR; rw [show decide (0 ≤ ((o, p) : Rw).2) = false from decide_eq_false c1]; rfl) _)
      refine ⟨⟨by decide, by decide, by decide⟩, bif_ndec (fun c2 => bad (by unfold okR; rw [show decide (((o, p) : Rw).2 ≤ 1000000000) = false from decide_eq_false (fun z => c2 (by show p ≤ (10 : Int) ^ (9 : Int).toNat; rw [e9]; exact z)), Bool.and_false]; rfl) _) (fun c2 => ?_)⟩
      have c1 : 0 ≤ p := c1
      have c2 : p ≤ 1000000000 := by rw [← e9]; exact c2
      have e : okR (o, p) x = okP o x := by
        unfold okR
        rw [show decide (0 ≤ ((o, p) : Rw).2) = true from decide_eq_true c1, show decide (((o, p) : Rw).2 ≤ 1000000000) = true from decide_eq_true c2]
        rfl
      refine bif_dec (fun c3 => ?_) (fun c3 => ?_)
      · have c3 : (0 : Int) < (x : Int) := c3
        cases o with
        | none => exact bad (e.trans (decide_eq_false (by omega))) _
        | some b =>
          refine bif_dec (fun c4 => ?_) (fun c4 => bad (e.trans (by unfold okP; dsimp only; rw [decide_eq_false (p := 0 ≤ b) c4, Bool.and_false]; rfl)) _)
          refine bif_ndec (fun c5 => bad (e.trans (by unfold okP; dsimp only; rw [decide_eq_false (p := b < (x : Int)) c5, Bool.and_false])) _) (fun c5 => ?_)
          exact hN2 _ ⟨e.trans (by unfold okP; dsimp only; rw [decide_eq_true (p := x ≠ 0) (by omega), decide_eq_true (p := 0 ≤ b) c4, decide_eq_true (p := b < (x : Int)) c5]; rfl), rfl⟩
      · have c3 : ¬ (0 : Int) < (x : Int) := c3
        have z : x = 0 := by omega
        subst z
        have := h0 _ hr
        dsimp only at this
        subst this
        exact hN2 _ ⟨e, rfl⟩
    rintro δ ⟨ok, rfl⟩
    have hok2 : ∀ j, j < x + 1 → ∃ r, t[j]? = some r ∧ okR r j = true := fun j hj => by
      by_cases c : j = x
      · subst c; exact ⟨r, hr, ok⟩
      · exact hok j (by omega)
    refine cut1 (fun δ => ∃ L2 : List Int, L2.length = t.length ∧ (∀ u : List Nd, t = u.map rwN → Ord u → (∀ j, j < x + 1 → L2[j]? = some (tm u j : Int)) ∧ (∀ j, x + 1 ≤ j → j < t.length → L2[j]? = some 0)) ∧
      δ = [some (.sh (.list (t.map rwD))), some (.ow (.lst (L2.map PyData.int))), some (.sh (.int (x : Int))), some (.sh (optI r.1)), some (.sh (.int r.2)), a5, none]) ?_ ?_
    · intro P2 h
      obtain ⟨o, p⟩ := r
      have hpar : ∀ u : List Nd, t = u.map rwN → (par u x).map (fun k : Nat => (k : Int)) = o := fun u e => by
        rw [e, List.getElem?_map] at hr
        obtain ⟨n, hn, en⟩ := Option.map_eq_some_iff.mp hr
        rw [par_get hn]
        unfold rwN at en
        injection en
      refine bif_dec (fun c3 => ?_) (fun c3 => ?_)
      · have c3 : (0 : Int) < (x : Int) := c3
        cases o with
        | none => exact absurd (okR_none ok) (by omega)
        | some b =>
          obtain ⟨b0, b1, b2⟩ := okR_some ok
          obtain ⟨z, hz⟩ : ∃ z, L[b.toNat]? = some z := ⟨_, List.getElem?_eq_getElem (by omega)⟩
          refine optK_some (a := .int z) ?_ ?_
          · have := atI_map (f := PyData.int) hz
            rw [Int.toNat_of_nonneg b1] at this
            exact this
          · refine optK_some (a := x) (ixN_nat (by rw [List.length_map]; omega)) ?_
            refine h _ ⟨L.set x (z + 1), by rw [List.length_set]; exact hL, fun u e ho => ?_, ?_⟩
            · obtain ⟨u1, u2, u3⟩ := hu u e ho
              have hp := hpar u e
              cases q : par u x with
              | none => rw [q] at hp; cases hp
              | some k =>
                rw [q] at hp
                injection hp with hp
                have hp : (k : Int) = b := hp
                have kx := par_lt ho q
                refine ⟨fun j hj => ?_, fun j hj1 hj2 => ?_⟩
                · by_cases c : j = x
                  · subst c
                    have := u1 k kx
                    rw [show b.toNat = k by omega, this] at hz
                    injection hz with hz
                    rw [List.getElem?_set_self (by omega), tm_some ho q, ← hz]
                    rfl
                  · rw [List.getElem?_set_ne (fun z => c z.symm)]
                    exact u1 j (by omega)
                · rw [List.getElem?_set_ne (by omega)]
                  exact u2 j (by omega) hj2
            · rw [← List.map_set]
              rfl
      · have c3 : ¬ (0 : Int) < (x : Int) := c3
        have z : x = 0 := by omega
        subst z
        refine h _ ⟨L, hL, fun u e ho => ?_, rfl⟩
        obtain ⟨u1, u2, u3⟩ := hu u e ho
        have hp := hpar u e
        have := h0 _ hr
        dsimp only at this
        subst this
        have q : par u 0 = none := by
          cases q : par u 0 with
          | none => rfl
          | some k => rw [q] at hp; cases hp
        refine ⟨fun j hj => ?_, fun j hj1 hj2 => u2 j (by omega) hj2⟩
        rw [show j = 0 by omega, tm_none q]
        exact u2 0 (by omega) (by omega)
    rintro δ ⟨L2, hL2, hu2, rfl⟩
    refine cut1 (fun δ => δ = [some (.sh (.list (t.map rwD))), some (.ow (.lst (L2.map PyData.int))), some (.sh (.int (x : Int))), some (.sh (optI r.1)), some (.sh (.int r.2)), some (.sh (.list (((t.filter fun r => decide (r.1 = some (x : Int))).map fun r => PyData.int r.2)))), none]) ?_ ?_
    · intro P2 h
      refine ⟨by rw [List.length_map]; omega, ioG_of rfl ?_⟩
      refine lcK_fm (xs := t) (g := rwD) (fun r => bif decide (r.1 = some (x : Int)) then some (.int r.2) else none) ?_ ?_
      · intro r2 hr2 acc F2 hF2
        refine eqG_of eqok_opt ?_
        show bifP (PyData.eqv (optI r2.1) (.int (x : Int))) _ _
        rw [eqv_opt]
        cases q : decide (r2.1 = some (x : Int)) with
        | true => rw [q] at hF2; exact hF2
        | false =>
          rw [q, cond_false, Option.toList_none, List.append_nil] at hF2
          exact hF2
      · rw [filterMap_if]
        exact setK_of h5 (h _ rfl)
    rintro δ rfl
    have bad : ¬ ((t.filter fun r => decide (r.1 = some (x : Int))).length ≤ 4 ∧ (∀ z, L2[x]? = some z → z ≤ 7) ∧ lookP ((t.filter fun r => decide (r.1 = some (x : Int))).map (·.2)) r.2) → ¬ GoodT (.list (t.map rwD)) := fun c g => by
      obtain ⟨u, rfl⟩ := allok_nds (good_allok g)
      rw [map_rwN] at g
      have hU := good_unf.mp g
      rw [List.getElem?_map] at hr
      obtain ⟨n, hn, rfl⟩ := Option.map_eq_some_iff.mp hr
      rw [List.length_map] at hk
      obtain ⟨q1, q2⟩ := (lookP_fair hn).mpr (unf_fair hU hk)
      refine c ⟨?_, fun z hz => ?_, ?_⟩
      · rw [← List.length_map (f := fun r : Rw => r.2), rows_filter]
        exact q1
      · rw [(hu2 u rfl hU.ord).1 x (by omega)] at hz
        injection hz with hz
        have := hU.tm x hk
        omega
      · rw [rows_filter]
        exact q2
    generalize ep : (t.filter fun r => decide (r.1 = some (x : Int))) = ps at bad
    have em : (ps.map fun r => PyData.int r.2) = (ps.map (·.2)).map PyData.int := by rw [List.map_map]; rfl
    have lp : ps.length ≤ t.length := by rw [← ep]; exact List.length_filter_le _ _
    obtain ⟨z, hz⟩ : ∃ z, L2[x]? = some z := ⟨_, List.getElem?_eq_getElem (by omega)⟩
    refine bif_dec (fun c4 => no _ (bad fun w => ?_)) (fun c4 => ?_)
    · have c4 : (4 : Int) < ((ps.map fun r => PyData.int r.2).length : Nat) := c4
      rw [List.length_map] at c4
      have := w.1
      omega
    have c4 : ¬ (4 : Int) < ((ps.map fun r => PyData.int r.2).length : Nat) := c4
    rw [List.length_map] at c4
    refine optK_some (atI_map (f := PyData.int) hz) ?_
    refine bif_dec (fun c5 => no _ (bad fun w => ?_)) (fun c5 => ?_)
    · have c5 : (7 : Int) < z := c5
      have := w.2.1 z hz
      omega
    have c5 : ¬ (7 : Int) < z := c5
    have sh : SeqAt.shaped (.list (ps.map fun r => PyData.int r.2)) = true := shaped_list (fun d hd => by obtain ⟨_, _, rfl⟩ := List.mem_map.mp hd; rfl) (fun d hd => by obtain ⟨_, _, rfl⟩ := List.mem_map.mp hd; exact Nat.zero_le _)
    have ev : PyData.eqv (.list (ps.map fun r => PyData.int r.2)) (.list []) = decide (ps = []) := by
      cases ps with
      | nil => rw [List.map_nil, eqv_nil]; rfl
      | cons a r => rw [eqv_ne_nil (by simp)]; exact (decide_eq_false (by simp)).symm
    have fin : lookP (ps.map (·.2)) r.2 → foK F P' .nx [some (.sh (.list (t.map rwD))), some (.ow (.lst (L2.map PyData.int))), some (.sh (.int (x : Int))), some (.sh (optI r.1)), some (.sh (.int r.2)), some (.sh (.list (ps.map fun r => PyData.int r.2))), none] := fun lk => by
      refine hF _ ⟨_, _, _, _, L2, hL2, hok2, fun u e ho => ⟨(hu2 u e ho).1, (hu2 u e ho).2, fun j hj => ?_⟩, ⟨rfl, rfl, rfl, rfl⟩, rfl⟩
      by_cases c : j = x
      · subst c
        subst e
        have hz2 := hz
        rw [(hu2 u rfl ho).1 j (by omega)] at hz2
        injection hz2 with hz2
        rw [List.getElem?_map] at hr
        obtain ⟨n, hn, rfl⟩ := Option.map_eq_some_iff.mp hr
        refine ⟨by omega, (lookP_fair hn).mp ⟨?_, ?_⟩⟩
        · rw [← rows_filter, ep, List.length_map]; omega
        · rw [← rows_filter, ep]; exact lk
      · exact (hu u e ho).2.2 j (by omega)
    refine eqG_of (.inr ⟨sh, rfl⟩) ?_
    rw [ev]
    refine bif_ndec (fun c6 => ?_) (fun c6 => fin (.inl (by rw [c6]; rfl)))
    have pos : 0 < (ps.map (·.2)).length := by
      rw [List.length_map]
      exact List.length_pos_iff.mpr c6
    rw [em]
    refine optK_some (intsD_map _) ⟨pos, fun m hm hmin => ?_⟩
    refine bif_dec (fun h1 => ?_) (fun h1 => no _ (bad fun w => ?_))
    · refine optK_some (intsD_map _) ⟨pos, fun M hM hmax => ?_⟩
      refine bif_ndec (fun h2 => no _ (bad fun w => ?_)) (fun h2 => ?_)
      · rcases w.2.2 with w | w
        · exact c6 (List.map_eq_nil_iff.mp w)
        · obtain ⟨_, a, ha, hle⟩ := w
          have := hmax a ha
          exact h2 (show r.2 ≤ M by omega)
      · rw [← em]
        exact fin (.inr ⟨⟨m, hm, h1⟩, M, hM, h2⟩)
    · rcases w.2.2 with w | w
      · exact c6 (List.map_eq_nil_iff.mp w)
      · obtain ⟨⟨a, ha, hle⟩, _⟩ := w
        have := hmin a ha
        exact h1 (show m ≤ r.2 by omega)
end
end KX

namespace KX
open PySem PySem.Spec PyProof.Rows L2 DL
section
variable [NX.TabsC]
variable {P : Program} {w : World} {K : PySem.W.Frag} {mg : Str → Option Value} {base : Heap}
theorem flat_one {α : Type} (x : α) : ∀ n : Nat, (List.replicate n [x]).flatten = List.replicate n x
  | 0 => rfl
  | n + 1 => by rw [List.replicate_succ, List.flatten_cons, flat_one x n, List.replicate_succ]; rfl
theorem notGood_of {rs : List D} (h : ∃ r ∈ rs, ∀ n : Nd, r ≠ ndD n) : ¬ GoodT (.list rs) := by
  rintro ⟨t, e, _⟩
  injection e with e
  obtain ⟨r, hr, hn⟩ := h
  rw [e] at hr
  obtain ⟨n, _, en⟩ := List.mem_map.mp hr
  exact hn n en.symm
def rowsD (d : D) : Prop := ∃ rows : List Rw, d = .list (rows.map rwD) ∧ 1 ≤ rows.length ∧ rows.length ≤ 100
def BentOk (d : D) : Prop := rowsD d ∨ ∃ x, d = .list [x, .none] ∧ plainT x ∧ ¬ GoodT x
theorem more_bent {t : List Nd} {l : List Rw} (l1 : 1 ≤ t.length) (lm : t.length ≤ 40) (h : l.length ≤ 8) : BentOk (.list (t.map ndD ++ l.map rwD)) := by
  refine .inl ⟨t.map rwN ++ l, ?_, ?_, ?_⟩
  · simp only [List.map_append, map_rwN]
  · simp only [List.length_append, List.length_map]; omega
  · simp only [List.length_append, List.length_map]; omega
theorem plain_tup {xs : List D} (h : ∀ x ∈ xs, isObjD x = false) : plainR (.tuple xs) := ⟨rfl, fun ys e => by injection e with e; subst e; exact h⟩
theorem plain_oth {d : D} (h : isObjD d = false) (h2 : ∀ xs, d ≠ .tuple xs) : plainR d := ⟨h, fun xs e => absurd e (h2 xs)⟩
theorem plain_nd (n : Nd) : plainR (ndD n) := by
  refine ⟨rfl, fun xs e x hx => ?_⟩
  unfold ndD at e
  injection e with e
  subst e
  simp only [List.mem_cons, List.not_mem_nil, or_false] at hx
  rcases hx with rfl | rfl
  · cases n.1 <;> rfl
  · rfl
theorem odd_bent {t : List Nd} {r : D} {lo hi lo2 hi2 : Option Int} (hl : t.length ≤ 40) (hp : plainR r) (hn : ∀ n : Nd, r ≠ ndD n) : BentOk (.list [.list (cutL (t.map ndD) lo hi ++ [r] ++ cutL (t.map ndD) lo2 hi2), .none]) := by
  have h1 := cutL_len (xs := t.map ndD) (lo := lo) (hi := hi)
  have h2 := cutL_len (xs := t.map ndD) (lo := lo2) (hi := hi2)
  rw [List.length_map] at h1 h2
  refine .inr ⟨_, rfl, ⟨rfl, fun rs e => ?_⟩, notGood_of ⟨r, by simp, hn⟩⟩
  injection e with e
  subst e
  refine ⟨by simp only [List.length_append, List.length_singleton]; omega, fun x hx => ?_⟩
  simp only [List.mem_append, List.mem_singleton] at hx
  rcases hx with (hx | hx) | hx
  · obtain ⟨n, _, rfl⟩ := List.mem_map.mp (cutL_mem hx)
    exact plain_nd n
  · rw [hx]; exact hp
  · obtain ⟨n, _, rfl⟩ := List.mem_map.mp (cutL_mem hx)
    exact plain_nd n
theorem rows_bent {a b : List Nd} {r : Rw} (h1 : a.length ≤ 40) (h2 : b.length ≤ 40) : BentOk (.list (a.map ndD ++ [rwD r] ++ b.map ndD)) := by
  refine .inl ⟨a.map rwN ++ [r] ++ b.map rwN, ?_, ?_, ?_⟩
  · simp only [List.map_append, map_rwN]; rfl
  · simp only [List.length_append, List.length_singleton]; omega
  · simp only [List.length_append, List.length_singleton, List.length_map]; omega
abbrev st__law_bent : Stmt := top 36
abbrev NN__law_bent : List Str := ["_law_tree_here", "_law_n", "_law_at", "_law_before", "_law_price_here", "_law_more", "_law_some", "_law_odd", "_law_k"]
theorem sc__law_bent : FnScope ["_law_tree_here", "_law_n", "_law_at", "_law_before", "_law_price_here", "_law_more", "_law_some", "_law_odd", "_law_k"] ["_law_tree_here", "_law_n"] (defScope st__law_bent) := ⟨rfl, rfl, rfl, by decide +kernel, rfl, by decide +kernel, by decide +kernel⟩
def S__law_bent : SP := fun ds _ P => ∃ (t : List Nd) (n : Int), ds = [.list (t.map ndD), .int n] ∧ (Pre 40 t) ∧ (0 ≤ n) ∧ (n < 306783379) ∧ ∀ (d : D), (BentOk d) → P (d)
theorem m__law_bent : MonoS S__law_bent := fun _ _ _ _ _ _ hP ⟨t, n, e, h0, h1, h2, qq⟩ => ⟨t, n, e, h0, h1, h2, fun d hh0 => hP _ (qq d hh0)⟩
theorem l__law_bent : ∀ ds E P, S__law_bent ds E P → ds.length = 2 := fun _ _ _ ⟨t, n, e, _⟩ => by rw [e]; rfl

theorem ok__law_bent (T : Top K mg) (A : DefAt K mg "_law_bent" st__law_bent ["_law_tree_here", "_law_n"]) : CalD P w K mg base CX0 1 "_law_bent" ["_law_tree_here", "_law_n"] S__law_bent := by
  refine calD A sc__law_bent m__law_bent l__law_bent (fun f cdv A outer s H E hr Γ => ⟨_, (db_cons (dp_set 2 sc__law_bent.nd (de_mod (de_var 1) (de_len T.b_len (da_cons (de_var 0) da_nil))))
    (db_cons (dp_unp (vs := [3, 4]) (de_ix (de_var 0) (de_var 2)) (dg_t (n := 2) (dgs_c (dg_name 3 sc__law_bent.nd) (dgs_c (dg_name 4 sc__law_bent.nd) dgs_nil))))
    (db_cons (dp_set 5 sc__law_bent.nd (de_fdiv (de_var 1) de_int))
    (db_cons (dp_set 6 sc__law_bent.nd (de_lst (da_cons (de_tup (da_cons (de_var 3) (da_cons (de_add (de_var 4) de_int) da_nil))) (da_cons (de_tup (da_cons (de_var 3) (da_cons (de_sub (de_var 4) de_int) da_nil))) (da_cons (de_tup (da_cons (de_var 3) (da_cons (de_add (de_pow de_int de_int) de_int) da_nil))) (da_cons (de_tup (da_cons (de_var 3) (da_cons (de_sub de_int de_int) da_nil))) (da_cons (de_tup (da_cons (de_var 2) (da_cons (de_var 4) da_nil))) da_nil)))))))
    (db_cons (dp_set 6 sc__law_bent.nd (de_add (de_var 6) (de_lst (da_cons (de_tup (da_cons de_non (da_cons (de_var 4) da_nil))) (da_cons (de_tup (da_cons (de_sub de_int de_int) (da_cons (de_var 4) da_nil))) (da_cons (de_tup (da_cons (de_max2 T.b_max (da_cons de_int (da_cons (de_sub (de_var 2) de_int) da_nil))) (da_cons (de_var 4) da_nil))) (da_cons (de_tup (da_cons de_int (da_cons (de_var 4) da_nil))) (da_cons (de_tup (da_cons (de_var 3) (da_cons (de_pow de_int de_int) da_nil))) da_nil))))))))
    (db_cons (dp_if (dt_lt (de_mod (de_var 5) de_int) de_int)
    (db_one (dp_ret (de_add (de_add (de_slice (de_var 0) do_none (do_some (de_var 2))) (de_lst (da_cons (de_ix (de_var 6) (de_mod (de_var 5) de_int)) da_nil))) (de_slice (de_var 0) (do_some (de_add (de_var 2) de_int)) do_none))))
    db_nil)
    (db_cons (dp_if (dt_eq (hu64 hr) (de_mod (de_var 5) de_int) de_int)
    (db_one (dp_ret (de_add (de_var 0) (de_mul (de_lst (da_cons (de_tup (da_cons (de_var 2) (da_cons (de_var 4) da_nil))) da_nil)) (de_add de_int (de_mod (de_fdiv (de_var 5) de_int) de_int))))))
    db_nil)
    (db_cons (dp_if (dt_eq (hu64 hr) (de_mod (de_var 5) de_int) de_int)
    (db_cons (dp_set 4 sc__law_bent.nd (de_ix (de_ix (de_var 0) (de_neg de_int)) de_int))
    (db_one (dp_ret (de_add (de_var 0) (de_of (dn_lc [("_law_k", 8)] sc__law_bent.nd (di_range1 T.b_range (de_add de_int (de_mod (de_fdiv (de_var 5) de_int) de_int))) (blkOk_by (N := NN__law_bent) (sc := defScope st__law_bent) (by decide +kernel)) (fun _ _ _ _ _ => (dg_name 8 sc__law_bent.nd)) (fun _ _ _ _ _ => dts_nil) (fun _ _ _ _ _ => (de_tup (da_cons (de_add (de_sub (de_len T.b_len (da_cons (de_var 0) da_nil)) de_int) (de_var 8)) (da_cons (de_var 4) da_nil))))))))))
    db_nil)
    (db_cons (dp_set 7 sc__law_bent.nd (de_lst (da_cons (de_tup (da_cons (de_var 3) (da_cons de_bl da_nil))) (da_cons (de_tup (da_cons de_bl (da_cons (de_var 4) da_nil))) (da_cons (de_lst (da_cons (de_var 3) (da_cons (de_var 4) da_nil))) (da_cons (de_tup (da_cons (de_var 3) da_nil)) (da_cons (de_tup (da_cons (de_var 3) (da_cons (de_var 4) (da_cons de_int da_nil)))) (da_cons (de_tup (da_cons (de_var 3) (da_cons de_str da_nil))) da_nil))))))))
    (db_cons (dp_set 7 sc__law_bent.nd (de_ix (de_add (de_var 7) (de_lst (da_cons de_non (da_cons (de_tup (da_cons de_int (da_cons de_non da_nil))) da_nil)))) (de_mod (de_fdiv (de_var 5) de_int) de_int)))
    (db_one (dp_ret (de_lst (da_cons (de_add (de_add (de_slice (de_var 0) do_none (do_some (de_var 2))) (de_lst (da_cons (de_var 7) da_nil))) (de_slice (de_var 0) (do_some (de_add (de_var 2) de_int)) do_none)) (da_cons de_non da_nil))))))))))))))), fun ds E P h => ?_⟩)
  obtain ⟨t, n, rfl, ht, n0, n1, hP⟩ := h
  have a4 : (1000000 : Nat) + 10 < sizeLine := by decide
  have e9 : ((10 : Int) ^ (9 : Int).toNat) = 1000000000 := by decide
  have l1 := ht.l1
  have lm := ht.lm
  have d40 : ∀ n : Int, CDivW n 40 := fun n => (by decide : Bt 31 40).cd (by decide) (by decide)
  have d13 : ∀ n : Int, CDivW n 13 := fun n => (by decide : Bt 31 13).cd (by decide) (by decide)
  have ll : ((t.map ndD).length : Int) = t.length := by rw [List.length_map]
  refine cut1 (fun δ => ∃ (k : Nat), k < t.length ∧ δ = [some (.sh (.list (t.map ndD))), some (.sh (.int n)), some (.sh (.int (k : Int))), none, none, none, none, none, none]) ?_ ?_
  · intro P' h
    refine ⟨by rw [List.length_map]; omega, ?_⟩
    have q0 := Int.emod_nonneg n (show (t.length : Int) ≠ 0 by omega)
    have q1 := Int.emod_lt_of_pos n (show 0 < (t.length : Int) by omega)
    refine h _ ⟨(n % (t.length : Int)).toNat, by omega, ?_⟩
    rw [ll, Int.toNat_of_nonneg q0]
    rfl
  rintro δ ⟨k, hk, rfl⟩
  obtain ⟨v, hv⟩ : ∃ v, t[k]? = some v := ⟨_, List.getElem?_eq_getElem hk⟩
  have pv := ht.pr k v hv
  have eo : onD v.1 = optI (v.1.map fun k : Nat => (k : Int)) := by cases v.1 <;> rfl
  have ev : ndD v = .tuple [optI (v.1.map fun k : Nat => (k : Int)), .int v.2] := by rw [← eo]; rfl
  generalize (v.1.map fun k : Nat => (k : Int)) = b at *
  generalize v.2 = p at *
  refine cut1 (fun δ => δ = [some (.sh (.list (t.map ndD))), some (.sh (.int n)), some (.sh (.int (k : Int))), some (.sh (optI b)), some (.sh (.int p)), none, none, none, none]) (fun P' h => optK_some (nd_at hv) (by rw [ev]; exact tupG_of rfl (consG_of (nameG_of rfl (consG_of (nameG_of rfl (h _ rfl))))))) ?_
  rintro δ rfl
  refine cut1 (fun δ => δ = [some (.sh (.list (t.map ndD))), some (.sh (.int n)), some (.sh (.int (k : Int))), some (.sh (optI b)), some (.sh (.int p)), some (.sh (.int (n / 40))), none, none, none]) (fun P' h => ⟨d40 n, h _ rfl⟩) ?_
  rintro δ rfl
  obtain ⟨m, em, m0, m1⟩ : ∃ m : Int, n / 40 = m ∧ 0 ≤ m ∧ m < 306783379 := ⟨_, rfl, by omega, by omega⟩
  rw [em]
  refine cut2 (fun δ => ∃ rs : List Rw, rs.length = 10 ∧ δ = [some (.sh (.list (t.map ndD))), some (.sh (.int n)), some (.sh (.int (k : Int))), some (.sh (optI b)), some (.sh (.int p)), some (.sh (.int m)), some (.sh (.list (rs.map rwD))), none, none]) ?_ ?_
  · intro P' h
    refine ⟨⟨by decide, by decide, by decide⟩, ?_⟩
    refine ⟨⟨by decide, by decide, by decide⟩, by show 5 + 5 ≤ sizeLine; omega, ?_⟩
    exact h _ ⟨[(b, p + 1), (b, p - 1), (b, 10 ^ 9 + 1), (b, 0 - 1), (some (k : Int), p), (none, p), (some (0 - 1), p), (some (max2 0 ((k : Int) - 1)), p), (some 0, p), (b, 10 ^ 9)], rfl, rfl⟩
  rintro δ ⟨rs, hrs, rfl⟩
  have q0 := Int.emod_nonneg m (show (13 : Int) ≠ 0 by decide)
  have q1 := Int.emod_lt_of_pos m (show (0 : Int) < 13 by decide)
  have lc : ∀ lo hi, (cutL (t.map ndD) lo hi).length ≤ 40 := fun lo hi => by
    have := cutL_len (xs := t.map ndD) (lo := lo) (hi := hi)
    rw [List.length_map] at this
    omega
  refine ⟨(by show (0 : Int) < _; decide), bif_dec (fun c1 => ?_) (fun c1 => nxR_of (nextK ?_))⟩
  · have c1 : m % 13 < 10 := c1
    refine ⟨(by show (0 : Int) < _; decide), atI_all (by omega) (by rw [List.length_map, hrs]; omega) (fun d hd => ?_)⟩
    obtain ⟨r, _, rfl⟩ := List.mem_map.mp hd
    have h1 := lc none (some (k : Int))
    have h2 := lc (some ((k : Int) + 1)) none
    refine ⟨by rw [List.length_singleton]; omega, by rw [List.length_append, List.length_singleton]; omega, hP _ ?_⟩
    rw [cutL_map] at h1 h2 ⊢
    rw [cutL_map]
    rw [List.length_map] at h1 h2
    exact rows_bent h1 h2
  have c1 : ¬ m % 13 < 10 := c1
  refine ⟨(by show (0 : Int) < _; decide), bif_eqi (fun c2 => ?_) (fun c2 => nxR_of (nextK ?_))⟩
  · refine ⟨d13 m, (by show (0 : Int) < _; decide), ?_⟩
    have j0 : 0 ≤ 1 + m / 13 % 5 ∧ 1 + m / 13 % 5 ≤ 5 := by omega
    refine ⟨⟨by omega, by show 1 * (1 + m / 13 % 5).toNat ≤ sizeLine; omega, by omega⟩, ?_⟩
    have fl : (List.replicate (1 + m / 13 % 5).toNat [PyData.tuple [.int (k : Int), .int p]]).flatten = (List.replicate (1 + m / 13 % 5).toNat ((some (k : Int), p) : Rw)).map rwD := by
      rw [flat_one, List.map_replicate]; rfl
    have hp := hP _ (more_bent (l := List.replicate (1 + m / 13 % 5).toNat ((some (k : Int), p) : Rw)) l1 lm (by rw [List.length_replicate]; omega))
    rw [← fl] at hp
    refine ⟨?_, hp⟩
    rw [fl, List.length_map, List.length_map, List.length_replicate]
    omega
  refine ⟨(by show (0 : Int) < _; decide), bif_eqi (fun c3 => ?_) (fun c3 => nxR_of (nextK ?_))⟩
  · obtain ⟨z, hz⟩ : ∃ z, t[t.length - 1]? = some z := ⟨_, List.getElem?_eq_getElem (by omega)⟩
    have ez : atI (t.map ndD) (-1) = some (ndD z) := by
      have e11 : (t.map ndD)[(t.map ndD).length - 1]? = some (ndD z) := by
        rw [List.length_map, List.getElem?_map, hz]; rfl
      exact atI_neg1 e11
    refine optK_some ez ?_
    refine ⟨d13 m, (by show (0 : Int) < _; decide), ?_⟩
    have j0 : 0 ≤ 1 + m / 13 % 8 ∧ 1 + m / 13 % 8 ≤ 8 := by omega
    refine ⟨⟨by omega, by omega⟩, ?_⟩
    refine ⟨by unfold rangeL; rw [List.length_map, List.length_range]; omega, ioG_of rfl ?_⟩
    refine lcK_all (xs := List.range (1 + m / 13 % 8).toNat) (g := fun i => PyData.int (0 + (i : Nat))) (fun i => rwD (some ((t.length : Int) - 1 + (0 + (i : Nat))), z.2)) ?_ ?_
    · intro i hi acc F hF
      have e2 : PyData.tuple [PyData.int (((t.map ndD).length : Int) - 1 + (0 + (i : Nat))), PyData.int z.2] = rwD (some ((t.length : Int) - 1 + (0 + (i : Nat))), z.2) := by rw [ll]; rfl
      rw [← e2] at hF
      exact hF
    · have e : (List.range (1 + m / 13 % 8).toNat).map (fun i : Nat => rwD (some ((t.length : Int) - 1 + (0 + (i : Nat))), z.2)) = ((List.range (1 + m / 13 % 8).toNat).map fun i : Nat => ((some ((t.length : Int) - 1 + (0 + (i : Nat))), z.2) : Rw)).map rwD := by rw [List.map_map]; rfl
      rw [e]
      have hp := hP _ (more_bent (l := (List.range (1 + m / 13 % 8).toNat).map fun i : Nat => ((some ((t.length : Int) - 1 + (0 + (i : Nat))), z.2) : Rw)) l1 lm (by rw [List.length_map, List.length_range]; omega))
      refine ⟨?_, hp⟩
      rw [List.length_map, List.length_map, List.length_map, List.length_range]
      omega
  refine cut2 (fun δ => ∃ r : D, plainR r ∧ (∀ n : Nd, r ≠ ndD n) ∧ δ = [some (.sh (.list (t.map ndD))), some (.sh (.int n)), some (.sh (.int (k : Int))), some (.sh (optI b)), some (.sh (.int p)), some (.sh (.int m)), some (.sh (.list (rs.map rwD))), some (.sh (r)), none]) ?_ ?_
  · intro P' h
    have go : optI b = optI b := rfl
    refine ⟨by show 6 + 2 ≤ sizeLine; omega, d13 m, (by show (0 : Int) < _; decide), ?_⟩
    refine atI_all (by omega) (by show m / 13 % 8 < 8; omega) (fun d hd => ?_)
    have hb : isObjD (optI b) = false := by cases b <;> rfl
    have hb2 : ∀ n : Nd, n.1 = n.1 := fun _ => rfl
    have key : plainR d ∧ ∀ n : Nd, d ≠ ndD n := by
      simp only [List.mem_cons, List.not_mem_nil, or_false, List.cons_append, List.nil_append] at hd
      rcases hd with rfl | rfl | rfl | rfl | rfl | rfl | rfl | rfl
      · exact ⟨plain_tup (by simp [hb]; rfl), fun n z => by unfold ndD at z; simp at z⟩
      · exact ⟨plain_tup (by simp; exact ⟨rfl, rfl⟩), fun n z => by unfold ndD at z; cases q : n.1 <;> rw [q] at z <;> simp [onD] at z⟩
      · exact ⟨plain_oth rfl (fun _ => by simp), fun n z => by unfold ndD at z; simp at z⟩
      · exact ⟨plain_tup (by simp [hb]), fun n z => by unfold ndD at z; simp at z⟩
      · exact ⟨plain_tup (by simp [hb]; exact ⟨rfl, rfl⟩), fun n z => by unfold ndD at z; simp at z⟩
      · exact ⟨plain_tup (by simp [hb]; rfl), fun n z => by unfold ndD at z; simp at z⟩
      · exact ⟨plain_oth rfl (fun _ => by simp), fun n z => by unfold ndD at z; simp at z⟩
      · exact ⟨plain_tup (by simp; exact ⟨rfl, rfl⟩), fun n z => by unfold ndD at z; simp at z⟩
    exact h _ ⟨d, key.1, key.2, rfl⟩
  rintro δ ⟨r, hp, hn, rfl⟩
  have h1 := lc none (some (k : Int))
  have h2 := lc (some ((k : Int) + 1)) none
  refine ⟨by rw [List.length_singleton]; omega, by rw [List.length_append, List.length_singleton]; omega, hP _ ?_⟩
  exact odd_bent lm hp hn
end
end KX

namespace KX
open PySem PySem.Spec PyProof.Rows L2 DL
section
variable [NX.TabsC]
variable {P : Program} {w : World} {K : PySem.W.Frag} {mg : Str → Option Value} {base : Heap}
def natsD (l : List Nat) : List D := l.map fun j : Nat => PyData.int (j : Int)
theorem nats_self (l : List Nat) : PyData.eqv (.list (natsD l)) (.list (natsD l)) = true := eqv_self _ (by
  show PyData.canLayAll0 _ = true
  unfold natsD
  induction l with
  | nil => rfl
  | cons a r ih => rw [List.map_cons]; unfold PyData.canLayAll0; rw [ih]; rfl)
theorem nats_eqok (a b : List Nat) : EqOk (.list (natsD a)) (.list (natsD b)) := .inr ⟨shaped_nats a, shaped_nats b⟩
abbrev st__law_asked : Stmt := top 38
abbrev NN__law_asked : List Str := ["_law_tree_here", "_law_found_ends", "_law_k", "_law_due", "_law_turn", "_law_found", "_law_row", "_law_time", "_law_j"]
theorem sc__law_asked : FnScope ["_law_tree_here", "_law_found_ends", "_law_k", "_law_due", "_law_turn", "_law_found", "_law_row", "_law_time", "_law_j"] ["_law_tree_here"] (defScope st__law_asked) := ⟨rfl, rfl, rfl, by decide +kernel, rfl, by decide +kernel, by decide +kernel⟩
def S__law_asked : SP := fun ds _ P => ∃ (t : List Nd), ds = [.list (t.map ndD)] ∧ (Pre 40 t) ∧ P (.bool true)
theorem m__law_asked : MonoS S__law_asked := fun _ _ _ _ _ _ hP ⟨t, e, h0, qq⟩ => ⟨t, e, h0, hP _ qq⟩
theorem l__law_asked : ∀ ds E P, S__law_asked ds E P → ds.length = 1 := fun _ _ _ ⟨t, e, _⟩ => by rw [e]; rfl

theorem ok__law_asked (T : Top K mg) (A : DefAt K mg "_law_asked" st__law_asked ["_law_tree_here"]) (C_time_of : CalD P w K mg base CX0 1 "time_of" ["tree", "node"] S_time_of) (C_next_nodes : CalN P w K mg base CX0 1 "next_nodes" ["tree", "node"] S_next_nodes) (C_ends : CalD P w K mg base CX0 2 "ends" ["tree"] S_ends) (C_row_to : CalD P w K mg base CX0 1 "row_to" ["tree", "end"] S_row_to) : CalD P w K mg base CX0 3 "_law_asked" ["_law_tree_here"] S__law_asked := by
  refine calD A sc__law_asked m__law_asked l__law_asked (fun f cdv A outer s H E hr Γ => ⟨_, (db_cons (dp_setN 1 sc__law_asked.nd (dn_lst da_nil))
    (db_cons (dp_for (vs := [2]) PassesOwn.never (di_range1 T.b_range (de_len T.b_len (da_cons (de_var 0) da_nil))) (dg_name 2 sc__law_asked.nd)
    (db_cons (dp_setLc2 3 [("_law_j", 8)] sc__law_asked.nd (di_range1 T.b_range (de_len T.b_len (da_cons (de_var 0) da_nil))) (blkOk_by (N := NN__law_asked) (sc := defScope st__law_asked) (by decide +kernel)) (fun _ _ _ _ _ => (dg_name 8 sc__law_asked.nd)) (fun _ _ _ _ _ => (dts_one (dt_eq (hu64 hr) (de_ix (de_ix (de_var 0) (de_var 8)) de_int) (de_var 2)))) (fun _ _ _ _ _ => (de_var 8))).2
    (db_cons (dp_for (vs := [4]) PassesOwn.never (di_range1 T.b_range de_int) (dg_name 4 sc__law_asked.nd)
    (db_cons (dp_setN 5 sc__law_asked.nd (dn_cal C_next_nodes hr (by decide) (fun _ => passZ) (da_cons (de_var 0) (da_cons (de_var 2) da_nil))))
    (db_cons (dp_if (dt_peek 5 (fun Γ => (DW.dt (dw_or (dt_not (dt_val (de_isi (T := "list") (by decide) T.b_isinstance T.b_list (by decide +kernel) (de_var 5)))) (dw_or1 (dt_ne (hu64 hr) (de_var 5) (de_var 3)))))))
    (db_one (dp_ret de_bl))
    db_nil)
    (db_one (dp_app 5 (fun h => pe_bm PySem.F.plainAttrs_list PySem.F.slot_list_append PySem.F.type_list_append mt_append (pv 5) h) de_int)))))
    (db_cons (dp_if (dt_eq (hu64 hr) (de_var 3) (de_lst da_nil))
    (db_one (dp_app 1 (fun h => pe_bm PySem.F.plainAttrs_list PySem.F.slot_list_append PySem.F.type_list_append mt_append (pv 1) h) (de_var 2)))
    db_nil)
    (db_cons (dp_set 6 sc__law_asked.nd (de_lst (da_cons (de_var 2) da_nil)))
    (db_cons (dp_while PassesOwn.never (dt_notN (de_ix (de_ix (de_var 0) (de_ix (de_var 6) de_int)) de_int))
    (db_one (dp_set 6 sc__law_asked.nd (de_add (de_lst (da_cons (de_ix (de_ix (de_var 0) (de_ix (de_var 6) de_int)) de_int) da_nil)) (de_var 6)))))
    (db_cons (dp_set 7 sc__law_asked.nd (de_cal C_time_of hr (by decide) (fun _ => passZ) (da_cons (de_var 0) (da_cons (de_var 2) da_nil))))
    (db_one (dp_if (DW.dt (dw_or (dt_ne (hu64 hr) (de_var 7) (de_sub (de_len T.b_len (da_cons (de_var 6) da_nil)) de_int)) (dw_or (dt_val (de_isi (T := "bool") (by decide) T.b_isinstance T.b_bool (by decide +kernel) (de_var 7))) (dw_or1 (dt_ne (hu64 hr) (de_cal C_row_to hr (by decide) (fun _ => passZ) (da_cons (de_var 0) (da_cons (de_var 2) da_nil))) (de_var 6))))))
    (db_one (dp_ret de_bl))
    db_nil)))))))))
    (db_one (dp_ret (de_and (de_eq (hu64 hr) (de_cal C_ends hr (by decide) (fun _ => passZ) (da_cons (de_var 0) da_nil)) (de_var 1)) (de_one (de_isi (T := "list") (by decide) T.b_isinstance T.b_list (by decide +kernel) (de_cal C_ends hr (by decide) (fun _ => passZ) (da_cons (de_var 0) da_nil))))))))), fun ds E P h => ?_⟩)
  obtain ⟨t, rfl, ht, hP⟩ := h
  have a4 : (1000000 : Nat) + 10 < sizeLine := by decide
  have l1 := ht.l1
  have lm := ht.lm
  have lz : ((t.map ndD).length : Int).toNat = t.length := by rw [List.length_map]; omega
  refine cut1 (fun δ => δ = [some (.sh (.list (t.map ndD))), some (.ow (.lst (natsD []))), none, none, none, none, none, none, none]) (fun P' h => h _ rfl) ?_
  rintro δ rfl
  refine cut1 (fun δ => ∃ (a2 a3 a4 a5 a6 a7 : Option Sl), (notIo a2 = true ∧ notIo a3 = true ∧ notIo a4 = true ∧ notIo a5 = true ∧ notIo a6 = true ∧ notIo a7 = true) ∧ δ = [some (.sh (.list (t.map ndD))), some (.ow (.lst (natsD (endsF t)))), a2, a3, a4, a5, a6, a7, none]) ?_ ?_
  · intro P' h
    refine ⟨⟨by rw [List.length_map]; omega, by rw [List.length_map]; omega⟩, ?_⟩
    rw [lz]
    refine forK_nat (xs := List.range t.length) (g := fun i => PyData.int (0 + (i : Nat))) (fun i δ => ∃ (a2 a3 a4 a5 a6 a7 : Option Sl), (notIo a2 = true ∧ notIo a3 = true ∧ notIo a4 = true ∧ notIo a5 = true ∧ notIo a6 = true ∧ notIo a7 = true) ∧ δ = [some (.sh (.list (t.map ndD))), some (.ow (.lst (natsD ((List.range i).filter fun k => decide (nexts t k = []))))), a2, a3, a4, a5, a6, a7, none]) ?_ ?_ _ ⟨none, none, none, none, none, none, ⟨rfl, rfl, rfl, rfl, rfl, rfl⟩, rfl⟩
    · rintro δ ⟨a2, a3, a4, a5, a6, a7, hj, rfl⟩
      rw [List.length_range]
      exact h _ ⟨a2, a3, a4, a5, a6, a7, hj, rfl⟩
    · rintro i x δ hi ⟨a2, a3, a4, a5, a6, a7, ⟨h2, h3, h4, h5, h6, h7⟩, rfl⟩ F hF
      obtain ⟨rfl, hk⟩ := range_get hi
      refine nameG_of h2 ?_
      rw [show (0 + (x : Nat) : Int) = (x : Int) by omega]
      generalize ee : natsD ((List.range x).filter fun k => decide (nexts t k = [])) = es
      refine cut1 (fun δ => δ = [some (.sh (.list (t.map ndD))), some (.ow (.lst (es))), some (.sh (.int (x : Int))), some (.sh (.list (natsD (nexts t x)))), a4, a5, a6, a7, none]) ?_ ?_
      · intro P2 h2
        refine ⟨⟨by rw [List.length_map]; omega, by rw [List.length_map]; omega⟩, ?_⟩
        rw [lz]
        refine ⟨by unfold rangeL; rw [List.length_map, List.length_range]; omega, ioG_of rfl ?_⟩
        refine lcK_fm (xs := List.range t.length) (g := fun i => PyData.int (0 + (i : Nat))) (fun j => bif decide (par t j = some x) then some (.int (j : Int)) else none) ?_ ?_
        · intro j hj acc F2 hF2
          have hj := List.mem_range.mp hj
          obtain ⟨m, hm⟩ : ∃ m, t[j]? = some m := ⟨_, List.getElem?_eq_getElem hj⟩
          rw [show (0 + (j : Nat) : Int) = (j : Int) by omega]
          refine optK_some (nd_at hm) ?_
          refine eqG_of (show EqOk (onD m.1) (.int (x : Int)) by cases m.1 <;> exact .inl rfl) ?_
          show bifP (PyData.eqv (onD m.1) (.int (x : Int))) _ _
          rw [DL.eqv_on]
          rw [par_get hm] at hF2
          cases q : decide (m.1 = some x) with
          | true => rw [q] at hF2; exact hF2
          | false =>
            rw [q, cond_false, Option.toList_none, List.append_nil] at hF2
            exact hF2
        · rw [filterMap_if]
          exact setK_of h3 (h2 _ rfl)
      rintro δ rfl
      refine cut1 (fun δ => ∃ (a4 a5 : Option Sl), (notIo a4 = true ∧ notIo a5 = true) ∧ δ = [some (.sh (.list (t.map ndD))), some (.ow (.lst (es))), some (.sh (.int (x : Int))), some (.sh (.list (natsD (nexts t x)))), a4, a5, a6, a7, none]) ?_ ?_
      · intro P2 h
        refine ⟨(by decide), ?_⟩
        refine forK_nat (xs := [0, 1]) (g := fun i : Nat => PyData.int (0 + (i : Nat))) (fun i δ => ∃ (a4 a5 : Option Sl), (notIo a4 = true ∧ notIo a5 = true) ∧ δ = [some (.sh (.list (t.map ndD))), some (.ow (.lst (es))), some (.sh (.int (x : Int))), some (.sh (.list (natsD (nexts t x)))), a4, a5, a6, a7, none]) ?_ ?_ _ ⟨a4, a5, ⟨h4, h5⟩, rfl⟩
        · rintro δ ⟨a4, a5, hj, rfl⟩
          exact h _ ⟨a4, a5, hj, rfl⟩
        · rintro i j δ _ ⟨a4, a5, ⟨h4, h5⟩, rfl⟩ F2 hF2
          refine nameG_of h4 ?_
          have nl : (nexts t x).length ≤ 1000 := by
            unfold nexts
            have h1 : ((List.range t.length).filter fun j => decide (par t j = some x)).length ≤ (List.range t.length).length := List.length_filter_le _ _
            rw [List.length_range] at h1
            omega
          refine cut1 (fun δ => δ = [some (.sh (.list (t.map ndD))), some (.ow (.lst (es))), some (.sh (.int (x : Int))), some (.sh (.list (natsD (nexts t x)))), some (.sh (.int (0 + (j : Nat)))), some (.ow (.lst (natsD (nexts t x)))), a6, a7, none]) (fun P3 h => ⟨t, x, rfl, by omega, setK_of h5 (h _ rfl)⟩) ?_
          rintro δ rfl
          refine cut1 (fun δ => δ = [some (.sh (.list (t.map ndD))), some (.ow (.lst (es))), some (.sh (.int (x : Int))), some (.sh (.list (natsD (nexts t x)))), some (.sh (.int (0 + (j : Nat)))), some (.ow (.lst (natsD (nexts t x)))), a6, a7, none]) (fun P3 h => ?_) ?_
          · refine eqG_of (nats_eqok _ _) ?_
            refine bif_false (by rw [nats_self]; rfl) ?_
            exact h _ rfl
          rintro δ rfl
          refine ⟨by unfold natsD; rw [List.length_map]; omega, ?_⟩
          exact hF2 _ ⟨_, _, ⟨rfl, rfl⟩, rfl⟩
      rintro δ ⟨a4, a5, ⟨h4, h5⟩, rfl⟩
      refine cut1 (fun δ => δ = [some (.sh (.list (t.map ndD))), some (.ow (.lst (natsD ((List.range (x + 1)).filter fun k => decide (nexts t k = []))))), some (.sh (.int (x : Int))), some (.sh (.list (natsD (nexts t x)))), a4, a5, a6, a7, none]) ?_ ?_
      · intro P2 h
        have le : es.length ≤ 40 := by
          rw [← ee]
          unfold natsD
          rw [List.length_map]
          have h1 : ((List.range x).filter fun k => decide (nexts t k = [])).length ≤ (List.range x).length := List.length_filter_le _ _
          rw [List.length_range] at h1
          omega
        have er : ∀ b : Bool, decide (nexts t x = []) = b → natsD ((List.range (x + 1)).filter fun k => decide (nexts t k = [])) = es ++ (bif b then [PyData.int (x : Int)] else []) := fun b hb => by
          rw [List.range_succ, List.filter_append, ← ee]
          unfold natsD
          rw [List.map_append]
          congr 1
          rw [List.filter_cons]
          cases b with
          | true => rw [if_pos hb]; rfl
          | false => rw [if_neg (by rw [hb]; simp)]; rfl
        refine eqG_of (.inr ⟨shaped_nats _, rfl⟩) ?_
        show bifP (PyData.eqv (.list (natsD (nexts t x))) (.list [])) _ _
        unfold natsD at er h ⊢
        rw [eqv_nats_nil]
        refine bif_dec (fun c => ?_) (fun c => ?_)
        · have := er true (decide_eq_true c)
          refine ⟨by omega, ?_⟩
          exact h _ (by rw [this]; rfl)
        · have := er false (decide_eq_false c)
          exact h _ (by rw [this]; simp)
      rintro δ rfl
      generalize natsD ((List.range (x + 1)).filter fun k => decide (nexts t k = [])) = es2 at hF ⊢
      refine cut1 (fun δ => δ = [some (.sh (.list (t.map ndD))), some (.ow (.lst (es2))), some (.sh (.int (x : Int))), some (.sh (.list (natsD (nexts t x)))), a4, a5, some (.sh (.list (natsD [x]))), a7, none]) (fun P2 h => setK_of h6 (h _ rfl)) ?_
      rintro δ rfl
      refine cut1 (fun δ => δ = [some (.sh (.list (t.map ndD))), some (.ow (.lst (es2))), some (.sh (.int (x : Int))), some (.sh (.list (natsD (nexts t x)))), a4, a5, some (.sh (.list (natsD (rowTo t x)))), a7, none]) ?_ ?_
      · intro P2 h
        refine ⟨fun μ δ => ∃ (l : List Nat) (j : Nat), l ++ up t j = up t x ∧ j < t.length ∧ j = μ ∧ δ = [some (.sh (.list (t.map ndD))), some (.ow (.lst (es2))), some (.sh (.int (x : Int))), some (.sh (.list (natsD (nexts t x)))), a4, a5, some (.sh (.list (natsD ((l ++ [j]).reverse)))), a7, none], ⟨x, [], x, rfl, hk, rfl, rfl⟩, ?_⟩
        rintro μ δ ⟨l, j, hu, hj, rfl, rfl⟩
        obtain ⟨n, hn⟩ : ∃ n, t[j]? = some n := ⟨_, List.getElem?_eq_getElem hj⟩
        have e0 : natsD ((l ++ [j]).reverse) = PyData.int (j : Int) :: natsD l.reverse := by unfold natsD; rw [List.reverse_append]; rfl
        have ej : atI (natsD ((l ++ [j]).reverse)) 0 = some (.int (j : Int)) := by rw [e0]; exact atI_nat (j := 0) rfl
        have hl : (l ++ [j]).length ≤ 8 := by
          have h1 := up_len ht.ord x
          have h2 := up_len ht.ord j
          have h3 := ht.tm x hk
          rw [← hu, List.length_append] at h1
          rw [List.length_append, List.length_singleton]
          omega
        refine optK_some ej ?_
        refine optK_some (nd_at hn) ?_
        have ep := par_get hn
        cases e : n.1 with
        | none =>
          have e2 : ndD n = .tuple [.none, .int n.2] := by unfold ndD; rw [e]; rfl
          rw [e2]
          rw [up_none (ep.trans e)] at hu
          refine h _ ?_
          rw [hu]
          rfl
        | some b =>
          have e2 : ndD n = .tuple [.int (b : Int), .int n.2] := by unfold ndD; rw [e]; rfl
          have hb := par_lt ht.ord (ep.trans e)
          rw [up_some ht.ord (ep.trans e)] at hu
          rw [e2]
          refine optK_some ej ?_
          refine optK_some (nd_at hn) ?_
          rw [e2]
          refine ⟨by unfold natsD; rw [List.length_map, List.length_reverse, List.length_singleton]; omega, b, hb, l ++ [j], b, by rw [List.append_assoc]; exact hu, by omega, rfl, ?_⟩
          rw [List.reverse_append (as := l ++ [j])]
          rfl
      rintro δ rfl
      refine cut1 (fun δ => δ = [some (.sh (.list (t.map ndD))), some (.ow (.lst (es2))), some (.sh (.int (x : Int))), some (.sh (.list (natsD (nexts t x)))), a4, a5, some (.sh (.list (natsD (rowTo t x)))), some (.sh (.int (tm t x : Nat))), none]) (fun P2 h => ⟨t, x, rfl, ht.ord, hk, setK_of h7 (h _ rfl)⟩) ?_
      rintro δ rfl
      have lr : (natsD (rowTo t x)).length = tm t x + 1 := by unfold natsD rowTo; rw [List.length_map, List.length_reverse, up_len ht.ord]
      have h8 := ht.tm x hk
      refine bif_nei (fun z => absurd (by rw [lr]; omega) z) (fun _ => ?_)
      refine ⟨t, x, rfl, ht, hk, ?_⟩
      refine eqG_of (nats_eqok _ _) ?_
      refine bif_false (by show (!PyData.eqv (.list (natsD (rowTo t x))) (.list (natsD (rowTo t x)))) = false; rw [nats_self]; rfl) ?_
      exact hF _ ⟨_, _, _, _, _, _, ⟨rfl, rfl, h4, h5, rfl, rfl⟩, rfl⟩
  rintro δ ⟨a2, a3, a4, a5, a6, a7, hj, rfl⟩
  refine ⟨t, rfl, by omega, ?_⟩
  refine eqG_of (nats_eqok _ _) ?_
  refine bif_true (by show PyData.eqv (.list (natsD (endsF t))) (.list (natsD (endsF t))) = true; exact nats_self _) ?_
  exact ⟨t, rfl, by omega, hP⟩
end
end KX

namespace KX
open PySem PySem.Spec PyProof.Rows L2 DL
section
variable [NX.TabsC]
variable {P : Program} {w : World} {K : PySem.W.Frag} {mg : Str → Option Value} {base : Heap}
theorem uni_dig : ∀ c, c < 128 → Unicode.isDigit c = dig c := by decide +kernel
theorem isd_iff {u : Str} (h : ∀ c ∈ TL.tl u, c < 128) : Txt.isdigit u = true ↔ TL.tl u ≠ [] ∧ ∀ c ∈ TL.tl u, dig c = true := by
  have e1 : u.cps.all Unicode.isDigit = (TL.tl u).all Unicode.isDigit := (Array.all_toList ..).symm
  have e2 : u.length = (TL.tl u).length := TL.len_tl u
  show (decide (u.length > 0) && u.cps.all Unicode.isDigit) = true ↔ _
  rw [e1, e2, Bool.and_eq_true, decide_eq_true_eq, List.all_eq_true]
  refine and_congr ⟨fun z w => by rw [w] at z; exact absurd z (by simp), fun z => List.length_pos_iff.mpr z⟩ ?_
  constructor
  · exact fun z c hc => by rw [← uni_dig c (h c hc)]; exact z c hc
  · exact fun z c hc => by rw [uni_dig c (h c hc)]; exact z c hc
def goodW (L : List Nat) : Prop := (L ≠ [] ∧ ∀ c ∈ L, dig c = true) ∧ (L.head? = some 48 → L = [48]) ∧ L.length ≤ 10
def valW (L : List Nat) : Int := ((NumText.digitsVal L : Nat) : Int)
theorem good_num {L : List Nat} (h : goodW L) : numO L = some (valW L) := by
  unfold numO
  rw [if_neg, if_pos]
  · rfl
  · exact List.all_eq_true.mpr h.1.2
  · unfold badN
    rintro (z | z | z)
    · exact h.1.1 z
    · have := h.2.2; omega
    · exact z.2 (h.2.1 z.1)
theorem bad_num {L : List Nat} (h : ¬ goodW L) (hl : L.length ≤ 10) : numO L = none := by
  unfold numO
  by_cases c : badN L
  · rw [if_pos c]
  · rw [if_neg c, if_neg]
    intro z
    unfold badN at c
    refine h ⟨⟨fun w => c (.inl w), List.all_eq_true.mp z⟩, fun w => ?_, hl⟩
    by_cases q : L = [48]
    · exact q
    · exact absurd (.inr (.inr ⟨w, q⟩)) c
theorem val_ge : ∀ (L : List Nat) (a : Nat), a * 10 ^ L.length ≤ L.foldl (fun acc c => acc * 10 + (c - 48)) a
  | [], a => by simp
  | c :: r, a => by
    have := val_ge r (a * 10 + (c - 48))
    rw [List.length_cons, List.foldl_cons, Nat.pow_succ]
    refine Nat.le_trans ?_ this
    rw [Nat.mul_comm (10 ^ r.length) 10, ← Nat.mul_assoc]
    exact Nat.mul_le_mul_right _ (by omega)
theorem val_big {L : List Nat} (h : goodW L) (hl : 2 < L.length) : 100 ≤ valW L := by
  obtain ⟨⟨h1, h2⟩, h3, _⟩ := h
  cases L with
  | nil => exact absurd rfl h1
  | cons c r =>
    have hc := dig_iff.mp (h2 c List.mem_cons_self)
    have h48 : c ≠ 48 := fun z => by
      have := h3 (by rw [z]; rfl)
      rw [this] at hl
      exact absurd hl (by decide)
    have hr : 2 ≤ r.length := by rw [List.length_cons] at hl; omega
    have := val_ge r (c - 48)
    have e : NumText.digitsVal (c :: r) = r.foldl (fun acc c => acc * 10 + (c - 48)) (c - 48) := by
      unfold NumText.digitsVal
      simp
    have p : 10 ^ 2 ≤ 10 ^ r.length := Nat.pow_le_pow_right (by decide) hr
    have q : 1 * 10 ^ r.length ≤ (c - 48) * 10 ^ r.length := Nat.mul_le_mul_right _ (by omega)
    unfold valW
    rw [e]
    omega
/-- the two words of a line -/
def w1S (y : Str) : Str := (Txt.partition y spS).1
def w2S (y : Str) : Str := (Txt.partition y spS).2.2
def lineOk (y : Str) : Prop := (TL.tl (w1S y) = [45] ∨ goodW (TL.tl (w1S y))) ∧ goodW (TL.tl (w2S y))
def lineR (y : Str) : Rw := (if TL.tl (w1S y) = [45] then none else some (valW (TL.tl (w1S y))), valW (TL.tl (w2S y)))
theorem node_bad {a b : List Nat} (h : ¬ ((a = [45] ∨ goodW a) ∧ goodW b)) : nodeO a b = .none := by
  unfold nodeO
  by_cases c : 10 < b.length ∨ 2 < a.length ∨ numO b = none
  · rw [if_pos c]
  · rw [if_neg c]
    have g2 : goodW b := by
      by_cases q : goodW b
      · exact q
      · exact absurd (.inr (.inr (bad_num q (by omega)))) c
    have n1 : ¬ (a = [45] ∨ goodW a) := fun z => h ⟨z, g2⟩
    rw [if_neg (fun z => n1 (.inl z)), if_pos (bad_num (fun z => n1 (.inr z)) (by omega))]
theorem node_good {a b : List Nat} (h1 : a = [45] ∨ goodW a) (h2 : goodW b) (hl : a.length ≤ 2) : nodeO a b = rwD (if a = [45] then none else some (valW a), valW b) := by
  have e2 := good_num h2
  unfold nodeO
  rw [if_neg (by
    rintro (z | z | z)
    · have := h2.2.2; omega
    · omega
    · rw [e2] at z; cases z), e2]
  by_cases c : a = [45]
  · rw [if_pos c, if_pos c]
    rfl
  · have e1 := good_num (h1.resolve_left c)
    rw [if_neg c, if_neg c, if_neg (by rw [e1]; simp), e1]
    rfl
theorem line_eq (y : Str) : lineD y = nodeO (TL.tl (w1S y)) (TL.tl (w2S y)) := rfl
theorem line_bad {y : Str} (h : ¬ lineOk y) : lineD y = .none := (line_eq y).trans (node_bad h)
theorem line_good {y : Str} (h : lineOk y) (hl : (TL.tl (w1S y)).length ≤ 2) : lineD y = rwD (lineR y) := (line_eq y).trans (node_good h.1 h.2 hl)
theorem line_long {y : Str} (hl : 2 < (TL.tl (w1S y)).length) : lineD y = .none := by
  unfold lineD nodeO
  rw [if_pos (.inr (.inl hl))]
theorem none_nd (n : Nd) : PyData.none ≠ ndD n := fun z => by cases z
theorem lines_bad {s : Str} {y : Str} (hy : y ∈ Txt.split s nlS) (h : lineD y = .none) : ¬ GoodT (linesD s) :=
  notGood_of ⟨.none, List.mem_map.mpr ⟨y, hy, h⟩, none_nd⟩
def ReadOk (s : Str) (d : D) : Prop := (d = .none ∧ ¬ GoodT (linesD s)) ∨ ∃ rows : List Rw, d = .list (rows.map rwD) ∧ rows.length ≤ 1000000 ∧ (GoodT d ↔ GoodT (linesD s)) ∧ (GoodT d → linesD s = d)
theorem read_all {s : Str} (h : ∀ y ∈ Txt.split s nlS, lineOk y) (hl : (Txt.split s nlS).length ≤ 1000000) : ReadOk s (.list (((Txt.split s nlS).map lineR).map rwD)) := by
  refine .inr ⟨_, rfl, by rw [List.length_map]; exact hl, ?_⟩
  by_cases c : ∃ y ∈ Txt.split s nlS, 2 < (TL.tl (w1S y)).length
  · obtain ⟨y, hy, hl⟩ := c
    have n1 : ¬ GoodT (linesD s) := lines_bad hy (line_long hl)
    have n2 : ¬ GoodT (.list (((Txt.split s nlS).map lineR).map rwD)) := fun g => by
      have c45 : TL.tl (w1S y) ≠ [45] := fun z => by rw [z] at hl; exact absurd hl (by decide)
      have hb := val_big ((h y hy).1.resolve_left c45) hl
      obtain ⟨k, hk⟩ := mem_get (List.mem_map.mpr ⟨y, hy, rfl⟩ : lineR y ∈ (Txt.split s nlS).map lineR)
      have ok := good_allok g k _ hk
      have el : lineR y = (some (valW (TL.tl (w1S y))), valW (TL.tl (w2S y))) := by unfold lineR; rw [if_neg c45]
      rw [el] at ok
      have h3 := okR_some ok
      obtain ⟨u, e, hu⟩ := g
      injection e with e
      have e2 := congrArg List.length e
      simp only [List.length_map] at e2
      have h5 := get_lt hk
      rw [List.length_map] at h5
      have h6 := hu.lm
      have h7 : (k : Int) < 40 := by omega
      omega
    exact ⟨⟨fun z => absurd z n2, fun z => absurd z n1⟩, fun z => absurd z n2⟩
  · have e : linesD s = .list (((Txt.split s nlS).map lineR).map rwD) := by
      unfold linesD
      rw [List.map_map]
      congr 1
      refine List.map_congr_left fun y hy => line_good (h y hy) ?_
      by_cases q : (TL.tl (w1S y)).length ≤ 2
      · exact q
      · exact absurd ⟨y, hy, by omega⟩ c
    rw [e]
    exact ⟨Iff.rfl, fun _ => rfl⟩
theorem split_sub : ∀ (n : Nat) (t : Str), t.length ≤ n → ∀ y ∈ Txt.split t nlS, ∀ c ∈ TL.tl y, c ∈ TL.tl t
  | n, t, h => by
    rcases cut_at tl_nl t with z | ⟨a, b, rfl, z⟩
    · rw [nl_one z]
      intro y hy
      rw [List.mem_singleton.mp hy]
      exact fun _ h => h
    · rw [len_add, len_add] at h
      have e1 : nlS.length = 1 := rfl
      match n, h with
      | 0, h => omega
      | m + 1, h =>
        have ih := split_sub m b (by omega)
        rw [nl_more z]
        intro y hy c hc
        rw [TL.tl_append, TL.tl_append]
        rcases List.mem_cons.mp hy with w | w
        · rw [w] at hc
          exact List.mem_append_left _ (List.mem_append_left _ hc)
        · exact List.mem_append_right _ (ih y w c hc)
theorem part_sub (y : Str) : (∀ c ∈ TL.tl (w1S y), c ∈ TL.tl y) ∧ ∀ c ∈ TL.tl (w2S y), c ∈ TL.tl y := by
  unfold w1S w2S
  rcases cut_at tl_sp y with h | ⟨a, b, rfl, h⟩
  · rw [part_none h]
    exact ⟨fun _ h => h, fun c hc => by cases hc⟩
  · rw [part_app h, TL.tl_append, TL.tl_append]
    exact ⟨fun c hc => List.mem_append_left _ (List.mem_append_left _ hc), fun c hc => List.mem_append_right _ hc⟩
abbrev st__law_read : Stmt := top 40
abbrev NN__law_read : List Str := ["_law_text_here", "_law_found", "_law_line", "_law_first", "_law_blank", "_law_price_here", "_law_word"]
theorem sc__law_read : FnScope ["_law_text_here", "_law_found", "_law_line", "_law_first", "_law_blank", "_law_price_here", "_law_word"] ["_law_text_here"] (defScope st__law_read) := ⟨rfl, rfl, rfl, by decide +kernel, rfl, by decide +kernel, by decide +kernel⟩
def S__law_read : SP := fun ds _ P => ∃ (s : Str), ds = [.str s] ∧ (s.length ≤ 100000) ∧ (∀ c ∈ TL.tl s, c < 128) ∧ ∀ (d : D), (ReadOk s d) → P (d)
theorem m__law_read : MonoS S__law_read := fun _ _ _ _ _ _ hP ⟨s, e, h0, h1, qq⟩ => ⟨s, e, h0, h1, fun d hh0 => hP _ (qq d hh0)⟩
theorem l__law_read : ∀ ds E P, S__law_read ds E P → ds.length = 1 := fun _ _ _ ⟨s, e, _⟩ => by rw [e]; rfl

theorem ok__law_read (T : Top K mg) (A : DefAt K mg "_law_read" st__law_read ["_law_text_here"]) : CalD P w K mg base CX0 1 "_law_read" ["_law_text_here"] S__law_read := by
  refine calD A sc__law_read m__law_read l__law_read (fun f cdv A outer s H E hr Γ => ⟨_, (db_cons (dp_setN 1 sc__law_read.nd (dn_lst da_nil))
    (db_cons (dp_for (vs := [2]) PassesOwn.never (di_list (de_of (dn_split (de_var 0) de_str))) (dg_name 2 sc__law_read.nd)
    (db_cons (dp_unp (vs := [3, 4, 5]) (de_partition (de_var 2) de_str) (dg_t (n := 3) (dgs_c (dg_name 3 sc__law_read.nd) (dgs_c (dg_name 4 sc__law_read.nd) (dgs_c (dg_name 5 sc__law_read.nd) dgs_nil)))))
    (db_cons (dp_for (vs := [6]) PassesOwn.never (di_list (de_lst (da_cons (de_if (dt_ne (hu64 hr) (de_var 3) de_str) (de_var 3) de_str) (da_cons (de_var 5) da_nil)))) (dg_name 6 sc__law_read.nd)
    (db_one (dp_if (DW.dt (dw_or (dt_not (dt_val (de_isdigit (de_var 6)))) (dw_or (DW.dt (dw_and (dt_eq (hu64 hr) (de_ix (de_var 6) de_int) de_str) (dw_and1 (dt_ne (hu64 hr) (de_var 6) de_str)))) (dw_or1 (dt_gt (de_len T.b_len (da_cons (de_var 6) da_nil)) de_int)))))
    (db_one (dp_ret de_non))
    db_nil)))
    (db_one (dp_app 1 (fun h => pe_bm PySem.F.plainAttrs_list PySem.F.slot_list_append PySem.F.type_list_append mt_append (pv 1) h) (de_tup (da_cons (de_if (dt_eq (hu64 hr) (de_var 3) de_str) de_non (de_intOf T.b_int (da_cons (de_var 3) da_nil))) (da_cons (de_intOf T.b_int (da_cons (de_var 5) da_nil)) da_nil))))))))
    (db_one (dp_ret (de_var 1))))), fun ds E P h => ?_⟩)
  obtain ⟨s, rfl, hl, ha, hP⟩ := h
  have a4 : (1500000 : Nat) + 10 < sizeLine := by decide
  obtain ⟨n1, n2⟩ := nl_len 100000 s hl
  have sub := split_sub _ s (Nat.le_refl _)
  refine cut1 (fun δ => δ = [some (.sh (.str (s))), some (.ow (.lst (([] : List Rw).map rwD))), none, none, none, none, none]) (fun P' h => h _ rfl) ?_
  rintro δ rfl
  refine cut1r (fun δ => (∀ y ∈ Txt.split s nlS, lineOk y) ∧ ∃ (a2 a3 a4 a5 a6 : Option Sl), (notIo a2 = true ∧ notIo a3 = true ∧ notIo a4 = true ∧ notIo a5 = true ∧ notIo a6 = true) ∧ δ = [some (.sh (.str (s))), some (.ow (.lst (((Txt.split s nlS).map lineR).map rwD))), a2, a3, a4, a5, a6]) ?_ ?_
  · intro P' hN hR
    have no : ∀ y ∈ Txt.split s nlS, ¬ lineOk y → ∀ δ, P' (.rt .none) δ := fun y hy z δ => hR _ _ (hP _ (.inl ⟨rfl, lines_bad hy (line_bad z)⟩))
    refine ⟨⟨rfl, by omega⟩, ?_⟩
    refine forK_nat (xs := Txt.split s nlS) (g := PyData.str) (fun i δ => (∀ y ∈ (Txt.split s nlS).take i, lineOk y) ∧ ∃ (a2 a3 a4 a5 a6 : Option Sl), (notIo a2 = true ∧ notIo a3 = true ∧ notIo a4 = true ∧ notIo a5 = true ∧ notIo a6 = true) ∧ δ = [some (.sh (.str (s))), some (.ow (.lst ((((Txt.split s nlS).take i).map lineR).map rwD))), a2, a3, a4, a5, a6]) ?_ ?_ _ ⟨fun y hy => (by cases hy), none, none, none, none, none, ⟨rfl, rfl, rfl, rfl, rfl⟩, rfl⟩
    · rintro δ ⟨h1, a2, a3, a4, a5, a6, hj, rfl⟩
      rw [List.take_length] at h1 ⊢
      exact hN _ ⟨h1, a2, a3, a4, a5, a6, hj, rfl⟩
    · rintro i y δ hi ⟨hok, a2, a3, a4, a5, a6, ⟨h2, h3, h4, h5, h6⟩, rfl⟩ F hF
      have hy := get_mem hi
      have ly := n2 y hy
      have asc : ∀ c ∈ TL.tl y, c < 128 := fun c hc => ha c (sub y hy c hc)
      obtain ⟨p1, p2⟩ := part_sub y
      obtain ⟨z1, z2⟩ := part_len y
      refine nameG_of h2 ?_
      refine cut1 (fun δ => δ = [some (.sh (.str (s))), some (.ow (.lst ((((Txt.split s nlS).take i).map lineR).map rwD))), some (.sh (.str (y))), some (.sh (.str (w1S y))), some (.sh (.str ((Txt.partition y spS).2.1))), some (.sh (.str (w2S y))), a6]) ?_ ?_
      · intro P2 h
        refine ⟨⟨rfl, by omega⟩, tupG_of rfl (consG_of (nameG_of h3 (consG_of (nameG_of h4 (consG_of (nameG_of h5 (h _ rfl)))))))⟩
      rintro δ rfl
      generalize (Txt.partition y spS).2.1 = mid
      have no := no y hy
      have z1 : (w1S y).length ≤ y.length := z1
      have z2 : (w2S y).length ≤ y.length := z2
      have main : ∀ u : Str, (∀ c ∈ TL.tl u, c < 128) → u.length ≤ 100000 → (goodW (TL.tl u) ↔ (TL.tl (w1S y) = [45] ∨ goodW (TL.tl (w1S y)))) → ∀ P2 : Fw → DS → Prop,
          (lineOk y → ∀ a : Option Sl, notIo a = true → P2 .nx [some (.sh (.str (s))), some (.ow (.lst ((((Txt.split s nlS).take i).map lineR).map rwD))), some (.sh (.str (y))), some (.sh (.str (w1S y))), some (.sh (.str (mid))), some (.sh (.str (w2S y))), a]) → (∀ δ, ¬ lineOk y → P2 (.rt .none) δ) →
          forK (nameG 6) (ifS (orT (notT (valT (isdR (varR 6)))) (orT (andT (valT (opR eqD (opR ixD (varR 6) (cR (PyData.int 0))) (cR (PyData.str (Str.ofString "0"))))) (valT (opR neD (varR 6) (cR (PyData.str (Str.ofString "0")))))) (valT (opR gtD (bR lenG (consA (varR 6) nilA)) (cR (PyData.int 10)))))) (retR (cR PyData.none)) nxR)
            E0K P2 [PyData.str u, PyData.str (w2S y)] [some (.sh (.str (s))), some (.ow (.lst ((((Txt.split s nlS).take i).map lineR).map rwD))), some (.sh (.str (y))), some (.sh (.str (w1S y))), some (.sh (.str (mid))), some (.sh (.str (w2S y))), a6] := by
        intro u hu lu hg P2 hgo hno
        refine forK_nat (xs := [u, w2S y]) (g := PyData.str) (fun j δ => (∀ w ∈ [u, w2S y].take j, goodW (TL.tl w)) ∧ ∃ a : Option Sl, notIo a = true ∧ δ = [some (.sh (.str (s))), some (.ow (.lst ((((Txt.split s nlS).take i).map lineR).map rwD))), some (.sh (.str (y))), some (.sh (.str (w1S y))), some (.sh (.str (mid))), some (.sh (.str (w2S y))), a]) ?_ ?_ _ ⟨fun w hw => (by cases hw), a6, h6, rfl⟩
        · rintro δ ⟨h1, a, hj, rfl⟩
          exact hgo ⟨hg.mp (h1 u (by simp)), h1 (w2S y) (by simp)⟩ a hj
        · rintro j w δ hw ⟨hok, a, hj, rfl⟩ F2 hF2
          have hm : w = u ∨ w = w2S y := by simpa using get_mem hw
          have lw : w.length ≤ 100000 := by rcases hm with rfl | rfl <;> omega
          have aw : ∀ c ∈ TL.tl w, c < 128 := by
            rcases hm with rfl | rfl
            · exact hu
            · exact fun c hc => asc c (p2 c hc)
          have bad : ¬ goodW (TL.tl w) → ¬ lineOk y := fun z q => by
            rcases hm with rfl | rfl
            · exact z (hg.mpr q.1)
            · exact z q.2
          have lt := TL.len_tl w
          refine nameG_of hj ?_
          cases gd : Txt.isdigit w with
          | false =>
            refine bif_true (by show (!Txt.isdigit w) = true; rw [gd]; rfl) (hno _ (bad fun z => ?_))
            rw [(isd_iff aw).mpr z.1] at gd
            cases gd
          | true =>
            obtain ⟨g1, g2⟩ := (isd_iff aw).mp gd
            refine bif_false (by show (!Txt.isdigit w) = false; rw [gd]; rfl) ?_
            obtain ⟨c, r, e⟩ : ∃ c r, TL.tl w = c :: r := by
              cases q : TL.tl w with
              | nil => exact absurd q g1
              | cons c r => exact ⟨c, r, rfl⟩
            have e0 : (TL.tl w)[0]? = some c := by rw [e]; rfl
            refine ⟨by omega, optK_some (atI_nat (j := 0) e0) ?_⟩
            have fin : (TL.tl w).head? = some 48 ∧ TL.tl w ≠ [48] ∨ (((TL.tl w).head? = some 48 → TL.tl w = [48]) ∧ True) := by
              by_cases q : (TL.tl w).head? = some 48 ∧ TL.tl w ≠ [48]
              · exact .inl q
              · refine .inr ⟨fun z => ?_, trivial⟩
                by_cases q2 : TL.tl w = [48]
                · exact q2
                · exact absurd ⟨z, q2⟩ q
            have last : ((TL.tl w).head? = some 48 → TL.tl w = [48]) → bifP (decide ((10 : Int) < (w.length : Nat))) (P2 (.rt .none) [some (.sh (.str (s))), some (.ow (.lst ((((Txt.split s nlS).take i).map lineR).map rwD))), some (.sh (.str (y))), some (.sh (.str (w1S y))), some (.sh (.str (mid))), some (.sh (.str (w2S y))), some (.sh (.str (w)))]) (F2 [some (.sh (.str (s))), some (.ow (.lst ((((Txt.split s nlS).take i).map lineR).map rwD))), some (.sh (.str (y))), some (.sh (.str (w1S y))), some (.sh (.str (mid))), some (.sh (.str (w2S y))), some (.sh (.str (w)))]) := fun hz => by
              refine bif_dec (fun h5 => hno _ (bad fun z => ?_)) (fun h5 => hF2 _ ⟨fun v hv => ?_, _, rfl, rfl⟩)
              · have := z.2.2; omega
              · rw [take_succ_of hw] at hv
                rcases List.mem_append.mp hv with hv | hv
                · exact hok v hv
                · rw [List.mem_singleton.mp hv]
                  exact ⟨⟨g1, g2⟩, hz, by omega⟩
            refine bif_eqs (fun h3 => ?_) (fun h3 => ?_)
            · have h3 : [c] = TL.tl (Str.ofString "0") := h3
              rw [tl_zero] at h3
              injection h3 with h3
              refine bif_nes (fun h4 => hno _ (bad fun z => ?_)) (fun h4 => ?_)
              · have h4 : TL.tl w ≠ TL.tl (Str.ofString "0") := h4
                rw [tl_zero] at h4
                exact h4 (z.2.1 (by rw [e, h3]; rfl))
              · have h4 : TL.tl w = TL.tl (Str.ofString "0") := h4
                rw [tl_zero] at h4
                exact ⟨by omega, last fun _ => h4⟩
            · have h3 : [c] ≠ TL.tl (Str.ofString "0") := h3
              rw [tl_zero] at h3
              refine ⟨by omega, last fun z => ?_⟩
              rw [e] at z
              injection z with z
              exact absurd (by rw [z]) h3
      refine cut1r (fun δ => lineOk y ∧ ∃ a : Option Sl, notIo a = true ∧ δ = [some (.sh (.str (s))), some (.ow (.lst ((((Txt.split s nlS).take i).map lineR).map rwD))), some (.sh (.str (y))), some (.sh (.str (w1S y))), some (.sh (.str (mid))), some (.sh (.str (w2S y))), a]) ?_ ?_
      · intro P2 hN2 hR2
        refine bif_nes (fun h7 => ?_) (fun h7 => ?_)
        · have h7 : TL.tl (w1S y) ≠ TL.tl (Str.ofString "-") := h7
          rw [tl_minus] at h7
          exact main (w1S y) (fun c hc => asc c (p1 c hc)) (by omega) ⟨.inr, fun z => z.resolve_left h7⟩ P2 (fun q a ha => hN2 _ ⟨q, a, ha, rfl⟩) (fun δ q => hR2 _ _ (no q δ))
        · have h7 : TL.tl (w1S y) = TL.tl (Str.ofString "-") := h7
          rw [tl_minus] at h7
          refine main (Str.ofString "0") (fun c hc => ?_) (by decide) ⟨fun _ => .inl h7, fun _ => ?_⟩ P2 (fun q a ha => hN2 _ ⟨q, a, ha, rfl⟩) (fun δ q => hR2 _ _ (no q δ))
          · rw [tl_zero] at hc
            rw [List.mem_singleton.mp hc]
            decide
          · rw [tl_zero]
            exact ⟨⟨by simp, fun c hc => by rw [List.mem_singleton.mp hc]; decide⟩, fun _ => rfl, (by decide)⟩
      rintro δ ⟨ok, a, hj, rfl⟩
      have lap : ((((Txt.split s nlS).take i).map lineR).map rwD).length ≤ 100001 := by
        rw [List.length_map, List.length_map]
        have := List.length_take_le' i (Txt.split s nlS)
        omega
      have eap : (((Txt.split s nlS).take (i + 1)).map lineR).map rwD = (((Txt.split s nlS).take i).map lineR).map rwD ++ [rwD (lineR y)] := by
        rw [take_succ_of hi, List.map_append, List.map_append]; rfl
      have hok2 : ∀ z ∈ (Txt.split s nlS).take (i + 1), lineOk z := fun z hz => by
        rw [take_succ_of hi] at hz
        rcases List.mem_append.mp hz with hz | hz
        · exact hok z hz
        · rw [List.mem_singleton.mp hz]; exact ok
      have lt2 := TL.len_tl (w2S y)
      have lt1 := TL.len_tl (w1S y)
      have hv2 := PySem.intText_digits (x := w2S y) (fun c hc => dig_iff.mp (ok.2.1.2 c hc)) ok.2.1.1 (by have := ok.2.2.2; omega)
      refine bif_eqs (fun h7 => ?_) (fun h7 => ?_)
      · have h7 : TL.tl (w1S y) = TL.tl (Str.ofString "-") := h7
        rw [tl_minus] at h7
        refine ⟨_, hv2, by have := ok.2.2.2; omega, ?_⟩
        refine ⟨by omega, hF _ ⟨hok2, some (.sh (.str y)), some (.sh (.str (w1S y))), some (.sh (.str mid)), some (.sh (.str (w2S y))), a, ⟨rfl, rfl, rfl, rfl, hj⟩, ?_⟩⟩
        rw [eap]
        unfold lineR
        rw [if_pos h7]
        rfl
      · have h7 : TL.tl (w1S y) ≠ TL.tl (Str.ofString "-") := h7
        rw [tl_minus] at h7
        have g := ok.1.resolve_left h7
        have hv1 := PySem.intText_digits (x := w1S y) (fun c hc => dig_iff.mp (g.1.2 c hc)) g.1.1 (by have := g.2.2; omega)
        refine ⟨_, hv1, by have := g.2.2; omega, _, hv2, by have := ok.2.2.2; omega, ?_⟩
        refine ⟨by omega, hF _ ⟨hok2, some (.sh (.str y)), some (.sh (.str (w1S y))), some (.sh (.str mid)), some (.sh (.str (w2S y))), a, ⟨rfl, rfl, rfl, rfl, hj⟩, ?_⟩⟩
        rw [eap]
        unfold lineR
        rw [if_neg h7]
        rfl
  rintro δ ⟨hok, a2, a3, a4, a5, a6, hj, rfl⟩
  exact hP _ (read_all hok (by omega))
end
end KX

namespace KX
open PySem PySem.Spec PyProof.Rows L2 DL
section
variable [NX.TabsC]
variable {P : Program} {w : World} {K : PySem.W.Frag} {mg : Str → Option Value} {base : Heap}
def ascS (s : Str) : Prop := ∀ c ∈ TL.tl s, c < 128
theorem asc_add {a b : Str} (ha : ascS a) (hb : ascS b) : ascS (a ++ b) := fun c hc => by
  rw [TL.tl_append] at hc
  rcases List.mem_append.mp hc with hc | hc
  · exact ha c hc
  · exact hb c hc
theorem tl_cut (z : Str) (lo hi : Option Int) : TL.tl (cutS z lo hi) = ((TL.tl z).drop (HT.sIx z.length 0 lo)).take (HT.sIx z.length z.length hi - HT.sIx z.length 0 lo) := by
  unfold cutS
  rfl
theorem asc_cut {z : Str} {lo hi : Option Int} (h : ascS z) : ascS (cutS z lo hi) := fun c hc => by
  rw [tl_cut] at hc
  exact h c (List.mem_of_mem_drop (List.mem_of_mem_take hc))
abbrev st__law_text : Stmt := top 41
abbrev NN__law_text : List Str := ["_law_text_here", "_law_n", "_law_at", "_law_sign", "_law_ahead"]
theorem sc__law_text : FnScope ["_law_text_here", "_law_n", "_law_at", "_law_sign", "_law_ahead"] ["_law_text_here", "_law_n"] (defScope st__law_text) := ⟨rfl, rfl, rfl, by decide +kernel, rfl, by decide +kernel, by decide +kernel⟩
def S__law_text : SP := fun ds _ P => ∃ (x : Str) (n : Int), ds = [.str x, .int n] ∧ (x.length ≤ 49000) ∧ (ascS x) ∧ (0 ≤ n) ∧ (n < 306783379) ∧ ∀ (y : Str), (y.length ≤ 99000) → (ascS y) → P (.str y)
theorem m__law_text : MonoS S__law_text := fun _ _ _ _ _ _ hP ⟨x, n, e, h0, h1, h2, h3, qq⟩ => ⟨x, n, e, h0, h1, h2, h3, fun y hh0 hh1 => hP _ (qq y hh0 hh1)⟩
theorem l__law_text : ∀ ds E P, S__law_text ds E P → ds.length = 2 := fun _ _ _ ⟨x, n, e, _⟩ => by rw [e]; rfl

theorem ok__law_text (T : Top K mg) (A : DefAt K mg "_law_text" st__law_text ["_law_text_here", "_law_n"]) : CalD P w K mg base CX0 1 "_law_text" ["_law_text_here", "_law_n"] S__law_text := by
  refine calD A sc__law_text m__law_text l__law_text (fun f cdv A outer s H E hr Γ => ⟨_, (db_cons (dp_set 2 sc__law_text.nd (de_mod (de_var 1) (de_add (de_len T.b_len (da_cons (de_var 0) da_nil)) de_int)))
    (db_cons (dp_set 3 sc__law_text.nd (de_ix de_str (de_mod (de_fdiv (de_var 1) de_int) de_int)))
    (db_cons (dp_if (dt_eq (hu64 hr) (de_mod (de_fdiv (de_var 1) de_int) de_int) de_int)
    (db_one (dp_ret (de_var 0)))
    db_nil)
    (db_cons (dp_set 4 sc__law_text.nd (de_add (de_slice (de_var 0) do_none (do_some (de_var 2))) (de_mul (de_var 3) (de_intOf T.b_int (da_cons (de_ne (hu64 hr) (de_mod (de_fdiv (de_var 1) de_int) de_int) de_int) da_nil)))))
    (db_one (dp_ret (de_add (de_var 4) (de_slice (de_var 0) (do_some (de_add (de_var 2) (de_intOf T.b_int (da_cons (de_gt (de_mod (de_fdiv (de_var 1) de_int) de_int) de_int) da_nil)))) do_none)))))))), fun ds E P h => ?_⟩)
  obtain ⟨x, n, rfl, hl, ha, n0, n1, hP⟩ := h
  have a4 : (1500000 : Nat) + 10 < sizeLine := by decide
  have d400 : ∀ n : Int, CDivW n 400 := fun n => (by decide : Bt 31 400).cd (by decide) (by decide)
  have d5600 : ∀ n : Int, CDivW n 5600 := fun n => (by decide : Bt 31 5600).cd (by decide) (by decide)
  refine cut1 (fun δ => ∃ k : Int, 0 ≤ k ∧ k ≤ 49000 ∧ δ = [some (.sh (.str (x))), some (.sh (.int n)), some (.sh (.int k)), none, none]) ?_ ?_
  · intro P' h
    have q0 := Int.emod_nonneg n (show ((x.length : Int) + 1) ≠ 0 by omega)
    have q1 := Int.emod_lt_of_pos n (show 0 < ((x.length : Int) + 1) by omega)
    refine ⟨by omega, by omega, ?_⟩
    exact h _ ⟨n % ((x.length : Int) + 1), q0, by omega, rfl⟩
  rintro δ ⟨k, k0, k1, rfl⟩
  refine cut1 (fun δ => ∃ c : Nat, c < 128 ∧ δ = [some (.sh (.str (x))), some (.sh (.int n)), some (.sh (.int k)), some (.sh (.str (⟨#[c]⟩))), none]) ?_ ?_
  · intro P' h
    refine ⟨d400 n, (by show (0 : Int) < _; decide), by decide, ?_⟩
    refine atI_all (by omega) (by show n / 400 % 16 < 16; omega) (fun c hc => h _ ⟨c, ?_, rfl⟩)
    have key : ∀ c ∈ (Str.ofString "0123456789- \na+_").cps.toList, c < 128 := by decide +kernel
    exact key c hc
  rintro δ ⟨c, hc, rfl⟩
  refine ⟨d5600 n, (by show (0 : Int) < _; decide), bif_eqi (fun _ => hP x (by omega) ha) (fun _ => nxR_of (nextK ?_))⟩
  refine cut1 (fun δ => ∃ y : Str, y.length ≤ 49001 ∧ ascS y ∧ δ = [some (.sh (.str (x))), some (.sh (.int n)), some (.sh (.int k)), some (.sh (.str (⟨#[c]⟩))), some (.sh (.str (y)))]) ?_ ?_
  · intro P' h
    refine ⟨by omega, ?_⟩
    refine ⟨d5600 n, (by show (0 : Int) < _; decide), ?_⟩
    have lc := cutS_length x none (some k)
    refine ⟨?_, ?_, ?_⟩
    · cases (!PyData.eqv (.int (n / 5600 % 4)) (.int 2))
      · exact ⟨by decide, by show 1 * 0 ≤ sizeLine; omega, by show 0 ≤ sizeLine; omega⟩
      · exact ⟨by decide, by show 1 * 1 ≤ sizeLine; omega, by show 1 ≤ sizeLine; omega⟩
    · show _ + (repS ⟨#[c]⟩ _).length ≤ sizeLine
      cases (!PyData.eqv (.int (n / 5600 % 4)) (.int 2))
      · show _ + 0 ≤ sizeLine; omega
      · show _ + 1 ≤ sizeLine; omega
    · refine h _ ⟨_, ?_, ?_, rfl⟩
      · rw [len_add]
        cases (!PyData.eqv (.int (n / 5600 % 4)) (.int 2))
        · show _ + 0 ≤ _; omega
        · show _ + 1 ≤ _; omega
      · refine asc_add (asc_cut ha) ?_
        cases (!PyData.eqv (.int (n / 5600 % 4)) (.int 2))
        · exact fun z hz => by cases hz
        · exact fun z hz => by
            have hz : z ∈ [c] := hz
            rw [List.mem_singleton.mp hz]; exact hc
  rintro δ ⟨y, ly, ay, rfl⟩
  refine ⟨d5600 n, (by show (0 : Int) < _; decide), by omega, ?_⟩
  have lc := cutS_length x (some (k + if decide ((1 : Int) < n / 5600 % 4) = true then 1 else 0)) none
  refine ⟨?_, hP _ ?_ (asc_add ay (asc_cut ha))⟩
  · show y.length + (cutS x (some (k + if decide ((1 : Int) < n / 5600 % 4) = true then 1 else 0)) none).length ≤ sizeLine
    omega
  · rw [len_add]
    show y.length + (cutS x (some (k + if decide ((1 : Int) < n / 5600 % 4) = true then 1 else 0)) none).length ≤ _
    omega
end
end KX

namespace KX
open PySem PySem.Spec PyProof.Rows L2 DL
section
variable [NX.TabsC]
variable {P : Program} {w : World} {K : PySem.W.Frag} {mg : Str → Option Value} {base : Heap}
theorem joinL_len {m : Nat} : ∀ l : List (List Nat), (∀ x ∈ l, x.length ≤ m) → (TL.joinL [10] l).length ≤ l.length * (m + 1)
  | [], _ => Nat.zero_le _
  | [p], h => by
    have := h p List.mem_cons_self
    show p.length ≤ 1 * (m + 1)
    omega
  | p :: q :: r, h => by
    have h1 := h p List.mem_cons_self
    have h2 := joinL_len (q :: r) fun x hx => h x (List.mem_cons_of_mem _ hx)
    show (p ++ ([10] ++ TL.joinL [10] (q :: r))).length ≤ (p :: q :: r).length * (m + 1)
    rw [List.length_append, List.length_append, List.length_singleton, List.length_cons, Nat.succ_mul]
    omega
theorem joinL_all {F : Nat → Prop} (h10 : F 10) : ∀ l : List (List Nat), (∀ x ∈ l, ∀ c ∈ x, F c) → ∀ c ∈ TL.joinL [10] l, F c
  | [], _, c, hc => by cases hc
  | [p], h, c, hc => h p List.mem_cons_self c hc
  | p :: q :: r, h, c, hc => by
    have hc : c ∈ p ++ ([10] ++ TL.joinL [10] (q :: r)) := hc
    rcases List.mem_append.mp hc with w | w
    · exact h p List.mem_cons_self c w
    · rcases List.mem_append.mp w with w | w
      · rw [List.mem_singleton.mp w]; exact h10
      · exact joinL_all h10 (q :: r) (fun x hx => h x (List.mem_cons_of_mem _ hx)) c w
theorem tl_tree (t : List Nd) : TL.tl (treeS t) = TL.joinL [10] ((t.map rowS).map TL.tl) := by
  unfold treeS
  rw [TL.join_eq, TL.tl_join, tl_nl]
theorem tree_len {t : List Nd} (h : Pre 40 t) : (treeS t).length ≤ 49000 := by
  have lm := h.lm
  have := joinL_len (m := 1203) ((t.map rowS).map TL.tl) fun x hx => by
    obtain ⟨y, hy, rfl⟩ := List.mem_map.mp hx
    obtain ⟨n, hn, rfl⟩ := List.mem_map.mp hy
    obtain ⟨k, hk⟩ := mem_get hn
    rw [← TL.len_tl]
    exact (row_sz h hk).2.2
  rw [List.length_map, List.length_map] at this
  rw [TL.len_tl, tl_tree]
  omega
theorem num_asc (n : Nat) : ∀ c ∈ TL.numL n, c < 128 := fun c hc => by
  have := dig_iff.mp (numL_dig n c hc)
  omega
theorem tree_asc {t : List Nd} (h : Pre 40 t) : ascS (treeS t) := by
  intro c hc
  rw [tl_tree] at hc
  refine joinL_all (F := fun c => c < 128) (by decide) _ (fun x hx => ?_) c hc
  obtain ⟨y, hy, rfl⟩ := List.mem_map.mp hx
  obtain ⟨n, hn, rfl⟩ := List.mem_map.mp hy
  obtain ⟨k, hk⟩ := mem_get hn
  intro c hc
  unfold rowS at hc
  rw [TL.tl_append, TL.tl_append, tl_nat (h.pr k n hk).1] at hc
  rcases List.mem_append.mp hc with w | w
  · rcases List.mem_append.mp w with w | w
    · rw [tl_first] at w
      cases q : n.1 with
      | none => rw [q] at w; rw [List.mem_singleton.mp w]; decide
      | some b => rw [q] at w; exact num_asc b c w
    · rw [show TL.tl (Str.ofString " ") = [32] from tl_sp] at w
      rw [List.mem_singleton.mp w]; decide
  · exact num_asc _ c w
theorem split_long {u : Str} (hu : 10 ∉ TL.tl u) : ∀ (n : Nat) (a b : Str), a.length ≤ n → ∃ y ∈ Txt.split (a ++ u ++ b) nlS, u.length ≤ y.length
  | n, a, b, h => by
    rcases cut_at tl_nl a with z | ⟨a1, a2, rfl, z⟩
    · rcases cut_at tl_nl b with z2 | ⟨b1, b2, rfl, z2⟩
      · have : 10 ∉ TL.tl (a ++ u ++ b) := by
          rw [TL.tl_append, TL.tl_append]
          intro w
          rcases List.mem_append.mp w with w | w
          · rcases List.mem_append.mp w with w | w
            · exact z w
            · exact hu w
          · exact z2 w
        rw [nl_one this]
        exact ⟨_, List.mem_singleton.mpr rfl, by rw [len_add, len_add]; omega⟩
      · have e : a ++ u ++ (b1 ++ nlS ++ b2) = (a ++ u ++ b1) ++ nlS ++ b2 := TL.ext_tl (by simp only [TL.tl_append, List.append_assoc])
        rw [e, nl_more]
        · exact ⟨_, List.mem_cons_self, by rw [len_add, len_add]; omega⟩
        · rw [TL.tl_append, TL.tl_append]
          intro w
          rcases List.mem_append.mp w with w | w
          · rcases List.mem_append.mp w with w | w
            · exact z w
            · exact hu w
          · exact z2 w
    · rw [len_add, len_add] at h
      have e1 : nlS.length = 1 := rfl
      match n, h with
      | 0, h => omega
      | m + 1, h =>
        obtain ⟨y, hy, hl⟩ := split_long hu m a2 b (by omega)
        have e : a1 ++ nlS ++ a2 ++ u ++ b = a1 ++ nlS ++ (a2 ++ u ++ b) := TL.ext_tl (by simp only [TL.tl_append, List.append_assoc])
        rw [e, nl_more z]
        exact ⟨y, List.mem_cons_of_mem _ hy, hl⟩
theorem line_far {y : Str} (h : 22 ≤ y.length) : lineD y = .none := by
  refine line_bad fun ok => ?_
  have h2 := ok.2.2.2
  have h1 : (TL.tl (w1S y)).length ≤ 10 := by
    rcases ok.1 with z | z
    · rw [z]; decide
    · exact z.2.2
  rw [← TL.len_tl] at h1 h2
  unfold w1S at h1
  unfold w2S at h2
  rcases cut_at tl_sp y with q | ⟨a, b, rfl, q⟩
  · rw [part_none q] at h1
    dsimp only at h1
    omega
  · rw [part_app q] at h1 h2
    rw [len_add, len_add] at h
    have e1 : spS.length = 1 := rfl
    dsimp only at h1 h2
    have h4 : a.length + 1 + b.length ≥ 22 := by omega
    omega
theorem far_bad {a u b : Str} (hu : 10 ∉ TL.tl u) (hl : 30 ≤ u.length) : ¬ GoodT (linesD (a ++ u ++ b)) := by
  obtain ⟨y, hy, h⟩ := split_long hu _ a b (Nat.le_refl _)
  exact lines_bad hy (line_far (by omega))
end
end KX

namespace KX
open PySem PySem.Spec PyProof.Rows L2 DL
section
variable [NX.TabsC]
variable {P : Program} {w : World} {K : PySem.W.Frag} {mg : Str → Option Value} {base : Heap}
theorem nine_tl (k : Nat) : TL.tl (repS (Str.ofString "9") (k : Int)) = List.replicate k 57 := by
  unfold repS
  show (List.replicate (k : Int).toNat [57]).flatten = _
  rw [Int.toNat_natCast, flat_one]
theorem nine_len : (repS (Str.ofString "9") 5000).length = 5000 := by
  rw [TL.len_tl]
  have := nine_tl 5000
  rw [show ((5000 : Nat) : Int) = 5000 from rfl] at this
  rw [this, List.length_replicate]
theorem nine_nl : 10 ∉ TL.tl (repS (Str.ofString "9") 5000) := by
  have := nine_tl 5000
  rw [show ((5000 : Nat) : Int) = 5000 from rfl] at this
  rw [this]
  intro h
  have := List.eq_of_mem_replicate h
  cases this
theorem str_nil (a : Str) : a ++ Str.ofString "" = a := TL.ext_tl (by rw [TL.tl_append, show TL.tl (Str.ofString "") = [] by decide +kernel, List.append_nil])
theorem nil_str (a : Str) : Str.ofString "" ++ a = a := TL.ext_tl (by rw [TL.tl_append, show TL.tl (Str.ofString "") = [] by decide +kernel, List.nil_append])
theorem far1 (a : Str) : ¬ GoodT (linesD (a ++ repS (Str.ofString "9") 5000)) := by
  have := far_bad (a := a) (b := Str.ofString "") nine_nl (by rw [nine_len]; decide)
  rw [str_nil] at this
  exact this
theorem far2 (a : Str) : ¬ GoodT (linesD (repS (Str.ofString "9") 5000 ++ a)) := by
  have := far_bad (a := Str.ofString "") (b := a) nine_nl (by rw [nine_len]; decide)
  rw [nil_str] at this
  exact this
theorem empty_bad : ¬ GoodT (linesD (Str.ofString "")) := by
  have e : Txt.split (Str.ofString "") nlS = [Str.ofString ""] := nl_one (by decide +kernel)
  refine lines_bad (y := Str.ofString "") (by rw [e]; exact List.mem_singleton.mpr rfl) (line_bad fun ok => ok.2.1.1 ?_)
  unfold w2S
  rw [part_none (by decide +kernel)]
  decide +kernel
theorem refD_self : PyData.eqv refD refD = true := eqv_self _ (by decide)
theorem refD_shaped : SeqAt.shaped refD = true := by decide
theorem plain_rw (r : Rw) : plainR (rwD r) := plain_tup (by
  intro x hx
  simp only [List.mem_cons, List.not_mem_nil, or_false] at hx
  rcases hx with rfl | rfl
  · cases r.1 <;> rfl
  · rfl)
theorem plain_rows {rows : List Rw} (h : rows.length ≤ 1000000) : plainT (.list (rows.map rwD)) := ⟨rfl, fun rs e => by
  injection e with e
  subst e
  refine ⟨by rw [List.length_map]; exact h, fun r hr => ?_⟩
  obtain ⟨x, _, rfl⟩ := List.mem_map.mp hr
  exact plain_rw x⟩
theorem plain_tree {t : List Nd} (h : t.length ≤ 1000000) : plainT (.list (t.map ndD)) := ⟨rfl, fun rs e => by
  injection e with e
  subst e
  refine ⟨by rw [List.length_map]; exact h, fun r hr => ?_⟩
  obtain ⟨x, _, rfl⟩ := List.mem_map.mp hr
  exact plain_nd x⟩
theorem notGood_oth {d : D} (h : ∀ rs, d ≠ .list rs) : ¬ GoodT d := fun ⟨t, e, _⟩ => h _ e
/-- a thing that neither reads nor is an unfolding -/
def OddT (d : D) : Prop := plainT d ∧ ¬ GoodT d ∧ ∀ s, d = .str s → s.length ≤ 100000 ∧ ¬ GoodT (linesD s)
theorem odd_oth {d : D} (h : isObjD d = false) (h1 : ∀ rs, d ≠ .list rs) (h2 : ∀ s, d ≠ .str s) : OddT d := ⟨⟨h, fun rs e => absurd e (h1 rs)⟩, notGood_oth h1, fun s e => absurd e (h2 s)⟩
abbrev st_law : Stmt := top 42
abbrev NN_law : List Str := ["_law_script", "_law_spot", "_law_tree_here", "_law_bent_here", "_law_refused_here", "_law_text_here", "_law_other", "_law_due", "_law_good_here", "_law_far", "_law_odd"]
theorem sc_law : FnScope ["_law_script", "_law_spot", "_law_tree_here", "_law_bent_here", "_law_refused_here", "_law_text_here", "_law_other", "_law_due", "_law_good_here", "_law_far", "_law_odd"] ["_law_script"] (defScope st_law) := ⟨rfl, rfl, rfl, by decide +kernel, rfl, by decide +kernel, by decide +kernel⟩
def S_law : SP := lawS 63
theorem m_law : MonoS S_law := fun _ _ _ _ _ _ hP ⟨ns, a, b, c, d⟩ => ⟨ns, a, b, c, hP _ d⟩
theorem l_law : ∀ ds E P, S_law ds E P → ds.length = 1 := fun _ _ _ ⟨_, e, _⟩ => by rw [e]; rfl

theorem ok_law (T : Top K mg) (A : DefAt K mg "law" st_law ["_law_script"]) (C__law_tree : CalI P w K mg base CX0 2 "_law_tree" ["_law_cells", "_law_spot", "_law_most"] [1] S__law_tree) (C__law_bent : CalD P w K mg base CX0 1 "_law_bent" ["_law_tree_here", "_law_n"] S__law_bent) (C_tree_text : CalD P w K mg base CX0 1 "tree_text" ["tree"] S_tree_text) (C__law_text : CalD P w K mg base CX0 1 "_law_text" ["_law_text_here", "_law_n"] S__law_text) (C__law_read : CalD P w K mg base CX0 1 "_law_read" ["_law_text_here"] S__law_read) (C__law_cell : CalI P w K mg base CX0 1 "_law_cell" ["_law_cells", "_law_spot"] [1] S__law_cell) (C__law_refused : CalD P w K mg base CX0 6 "_law_refused" ["_law_call", "_law_thing"] (S__law_refused K)) (C_need_tree : CalD P w K mg base (L2.CX P w) 4 "need_tree" ["tree"] (S_need_tree K)) (C__law_good : CalD P w K mg base CX0 1 "_law_good" ["_law_tree_here"] S__law_good) (C__law_asked : CalD P w K mg base CX0 3 "_law_asked" ["_law_tree_here"] S__law_asked) (C__law_lines : CalD P w K mg base CX0 1 "_law_lines" ["_law_tree_here"] S__law_lines) (C_read_tree : CalD P w K mg base (L2.CX P w) 5 "read_tree" ["text"] (S_read_tree K)) : CalD P w K mg base CX0 7 "law" ["_law_script"] S_law := by
  refine calD A sc_law m_law l_law (fun f cdv A outer s H E hr Γ => ⟨_, (db_cons (dp_setN 1 sc_law.nd (dn_lst (da_cons de_int da_nil)))
    (db_cons (dp_set 2 sc_law.nd (de_calI C__law_tree hr (by decide) (fun _ => passZ) (dai_cons (de_var 0) (dai_lend 1 (pv 1) (dai_cons de_int dai_nil)))))
    (db_cons (dp_set 3 sc_law.nd (de_cal C__law_bent hr (by decide) (fun _ => passZ) (da_cons (de_var 2) (da_cons (de_calI C__law_cell hr (by decide) (fun _ => passZ) (dai_cons (de_var 0) (dai_lend 1 (pv 1) dai_nil))) da_nil))))
    (db_cons (dp_set 4 sc_law.nd (de_add (de_lst (da_cons de_bl (da_cons de_bl da_nil))) (de_mul (de_lst (da_cons de_bl da_nil)) de_int)))
    (db_cons (dp_if (DW.dt (dw_or (dt_notN (de_cal C__law_refused hr (by decide) (fun _ => passZ) (da_cons (de_fnv T.g_need_tree) (da_cons (de_var 2) da_nil)))) (dw_or1 (dt_not (dt_val (de_cal C__law_asked hr (by decide) (fun _ => passZ) (da_cons (de_var 2) da_nil)))))))
    (db_one (dp_ret de_bl))
    db_nil)
    (db_cons (dp_if (DW.dt (dw_and (dt_eq (hu64 hr) (de_len T.b_len (da_cons (de_var 3) da_nil)) de_int) (dw_and1 (dt_isN (de_ix (de_var 3) de_int)))))
    (db_one (dp_ret (de_eq (hu64 hr) (de_cal C__law_refused hr (by decide) (fun _ => passZ) (da_cons (de_fnv T.g_need_tree) (da_cons (de_ix (de_var 3) de_int) da_nil))) (de_var 4))))
    db_nil)
    (db_cons (dp_if (dt_ne (hu64 hr) (de_cal C__law_refused hr (by decide) (fun _ => passZ) (da_cons (de_fnv T.g_need_tree) (da_cons (de_var 3) da_nil))) (de_if (dt_val (de_cal C__law_good hr (by decide) (fun _ => passZ) (da_cons (de_var 3) da_nil))) de_non (de_var 4)))
    (db_one (dp_ret de_bl))
    db_nil)
    (db_cons (dp_set 5 sc_law.nd (de_cal C_tree_text hr (by decide) (fun _ => passZ) (da_cons (de_var 2) da_nil)))
    (db_cons (dp_if (DW.dt (dw_or (dt_ne (hu64 hr) (de_var 5) (de_cal C__law_lines hr (by decide) (fun _ => passZ) (da_cons (de_var 2) da_nil))) (dw_or (dt_ne (hu64 hr) (de_cal C_read_tree hr (by decide) (fun σ => passAt takes0 σ) (da_cons (de_var 5) da_nil)) (de_var 2)) (dw_or1 (dt_not (dt_val (de_isi (T := "list") (by decide) T.b_isinstance T.b_list (by decide +kernel) (de_cal C_read_tree hr (by decide) (fun σ => passAt takes0 σ) (da_cons (de_var 5) da_nil)))))))))
    (db_one (dp_ret de_bl))
    db_nil)
    (db_cons (dp_set 6 sc_law.nd (de_cal C__law_text hr (by decide) (fun _ => passZ) (da_cons (de_var 5) (da_cons (de_calI C__law_cell hr (by decide) (fun _ => passZ) (dai_cons (de_var 0) (dai_lend 1 (pv 1) dai_nil))) da_nil))))
    (db_cons (dp_set 7 sc_law.nd (de_cal C__law_read hr (by decide) (fun _ => passZ) (da_cons (de_var 6) da_nil)))
    (db_cons (dp_set 8 sc_law.nd (de_and (de_notN (de_var 7)) (de_one (de_cal C__law_good hr (by decide) (fun _ => passZ) (da_cons (de_var 7) da_nil)))))
    (db_cons (dp_if (DW.dt (dw_or (dt_ne (hu64 hr) (de_cal C__law_refused hr (by decide) (fun _ => passZ) (da_cons (de_fnv T.g_read_tree) (da_cons (de_var 6) da_nil))) (de_if (dt_val (de_var 8)) de_non (de_var 4))) (dw_or1 (DW.dt (dw_and (dt_val (de_var 8)) (dw_and1 (dt_ne (hu64 hr) (de_cal C_read_tree hr (by decide) (fun σ => passAt takes0 σ) (da_cons (de_var 6) da_nil)) (de_var 7))))))))
    (db_one (dp_ret de_bl))
    db_nil)
    (db_cons (dp_for (vs := [9]) PassesOwn.never (di_tup (de_tup (da_cons (de_add (de_var 5) (de_mul de_str de_int)) (da_cons (de_add (de_mul de_str de_int) (de_var 5)) (da_cons (de_add (de_add (de_add (de_var 5) de_str) (de_mul de_str de_int)) de_str) da_nil))))) (dg_name 9 sc_law.nd)
    (db_one (dp_if (dt_ne (hu64 hr) (de_cal C__law_refused hr (by decide) (fun _ => passZ) (da_cons (de_fnv T.g_read_tree) (da_cons (de_var 9) da_nil))) (de_var 4))
    (db_one (dp_ret de_bl))
    db_nil)))
    (db_cons (dp_set 10 sc_law.nd (de_ix (de_lst (da_cons de_non (da_cons de_int (da_cons (de_of (dn_split (de_var 5) de_str)) (da_cons de_bl (da_cons de_str (da_cons (de_lst da_nil) (da_cons de_dnew (da_cons (de_tupleOf T.b_tuple (de_var 2)) da_nil))))))))) (de_mod (de_calI C__law_cell hr (by decide) (fun _ => passZ) (dai_cons (de_var 0) (dai_lend 1 (pv 1) dai_nil))) de_int)))
    (db_one (dp_ret (de_and (de_eq (hu64 hr) (de_cal C__law_refused hr (by decide) (fun _ => passZ) (da_cons (de_fnv T.g_read_tree) (da_cons (de_var 10) da_nil))) (de_var 4)) (de_one (de_eq (hu64 hr) (de_cal C__law_refused hr (by decide) (fun _ => passZ) (da_cons (de_fnv T.g_need_tree) (da_cons (de_var 10) da_nil))) (de_var 4))))))))))))))))))))), fun ds E P h => ?_⟩)
  obtain ⟨ns, rfl, hl, hb, hP⟩ := h
  have a4 : (1500000 : Nat) + 10 < sizeLine := by decide
  refine cut4 (fun δ => ∃ (t : List Nd) (c : Nat) (d : D), Unf 40 t ∧ c ≤ 50 ∧ BentOk d ∧ δ = [some (.sh (.list (ns.map PyData.int))), some (.ow (.lst [.int ((c : Int) : Int)])), some (.sh (.list (t.map ndD))), some (.sh (d)), some (.sh (refD)), none, none, none, none, none, none]) ?_ ?_
  · intro P' h
    refine ⟨ns, 0, 40, rfl, hl, hb, by decide, by decide, by decide, fun u k2 hu hlu hk2 => ?_⟩
    refine ⟨ns, k2, rfl, hl, hb, by omega, fun v v0 v1 => ?_⟩
    refine ⟨u, v, rfl, hu.toPre, v0, v1, fun d hd => ?_⟩
    refine ⟨⟨by decide, by decide, by decide⟩, by decide, ?_⟩
    exact h _ ⟨u, k2 + 1, d, hu, by omega, hd, rfl⟩
  rintro δ ⟨t, c, d, hu, hc, hd, rfl⟩
  have ht := hu.toPre
  have lm := ht.lm
  have tl := tree_len ht
  have gT : GoodT (.list (t.map ndD)) := ⟨t, rfl, hu⟩
  refine cut1 (fun δ => δ = [some (.sh (.list (ns.map PyData.int))), some (.ow (.lst [.int ((c : Int) : Int)])), some (.sh (.list (t.map ndD))), some (.sh (d)), some (.sh (refD)), none, none, none, none, none, none]) ?_ ?_
  · intro P' h
    refine ⟨eA K "need_tree", .list (t.map ndD), rfl, .inl ⟨rfl, plain_tree (by omega), fun _ => ?_, fun z => absurd gT z⟩⟩
    exact ⟨t, rfl, ht, h _ rfl⟩
  rintro δ rfl
  have okE : ∀ {F : D → Prop}, F (.bool true) → eqG refD refD (F (.bool (PyData.eqv refD refD))) := fun {F} hF => eqG_of (.inr ⟨refD_shaped, refD_shaped⟩) (by rw [refD_self]; exact hF)
  refine cut1r (fun δ => rowsD d ∧ δ = [some (.sh (.list (ns.map PyData.int))), some (.ow (.lst [.int ((c : Int) : Int)])), some (.sh (.list (t.map ndD))), some (.sh (d)), some (.sh (refD)), none, none, none, none, none, none]) ?_ ?_
  · intro P' hN hR
    rcases hd with hd | ⟨x, rfl, px, gx⟩
    · obtain ⟨rows, e, r1, r2⟩ := hd
      subst e
      refine bif_eqi (fun c2 => ?_) (fun c2 => hN _ ⟨⟨rows, rfl, r1, r2⟩, rfl⟩)
      have c2 : ((rows.map rwD).length : Int) = 2 := c2
      rw [List.length_map] at c2
      obtain ⟨r, hr⟩ : ∃ r, rows[1]? = some r := ⟨_, List.getElem?_eq_getElem (by omega)⟩
      refine optK_some (rw_at (k := 1) hr) ?_
      exact hN _ ⟨⟨rows, rfl, r1, r2⟩, rfl⟩
    · refine ⟨eA K "need_tree", x, rfl, .inl ⟨rfl, px, fun z => absurd z gx, fun _ => ?_⟩⟩
      exact okE (F := fun d => P' (.rt d) _) (hR _ _ hP)
  rintro δ ⟨⟨rows, e, r1, r2⟩, rfl⟩
  subst e
  refine cut1 (fun δ => δ = [some (.sh (.list (ns.map PyData.int))), some (.ow (.lst [.int ((c : Int) : Int)])), some (.sh (.list (t.map ndD))), some (.sh (.list (rows.map rwD))), some (.sh (refD)), none, none, none, none, none, none]) ?_ ?_
  · intro P' h
    refine ⟨eA K "need_tree", .list (rows.map rwD), rfl, .inl ⟨rfl, plain_rows (by omega), fun g => ?_, fun g => ?_⟩⟩
    · refine ⟨rows, rfl, by omega, fun b hb => ?_⟩
      rw [hb.mpr g]
      exact h _ rfl
    · refine ⟨rows, rfl, by omega, fun b hb => ?_⟩
      have : b = false := by
        cases b with
        | false => rfl
        | true => exact absurd (hb.mp rfl) g
      rw [this]
      refine eqG_of (.inr ⟨refD_shaped, refD_shaped⟩) ?_
      exact h _ rfl
  rintro δ rfl
  refine cut1 (fun δ => δ = [some (.sh (.list (ns.map PyData.int))), some (.ow (.lst [.int ((c : Int) : Int)])), some (.sh (.list (t.map ndD))), some (.sh (.list (rows.map rwD))), some (.sh (refD)), some (.sh (.str (treeS t))), none, none, none, none, none]) (fun P' h => ⟨t, rfl, ht, h _ rfl⟩) ?_
  rintro δ rfl
  have lin := lines_tree ht
  have g2 : GoodT (linesD (treeS t)) := by rw [lin]; exact gT
  have selfT : PyData.eqv (.list (t.map ndD)) (.list (t.map ndD)) = true := eqv_self _ (shaped_parts (shaped_tr t)).1
  refine cut1 (fun δ => δ = [some (.sh (.list (ns.map PyData.int))), some (.ow (.lst [.int ((c : Int) : Int)])), some (.sh (.list (t.map ndD))), some (.sh (.list (rows.map rwD))), some (.sh (refD)), some (.sh (.str (treeS t))), none, none, none, none, none]) ?_ ?_
  · intro P' h
    refine ⟨t, rfl, ht, bif_nes (fun z => absurd rfl z) (fun _ => ?_)⟩
    refine ⟨.str (treeS t), rfl, rfl, fun s e => ?_, fun z => absurd g2 (z _ rfl)⟩
    injection e with e
    subst e
    refine ⟨by omega, fun _ => ?_⟩
    rw [lin]
    refine eqG_of (.inr ⟨shaped_tr t, shaped_tr t⟩) ?_
    refine bif_false (by rw [selfT]; rfl) ?_
    refine ⟨.str (treeS t), rfl, rfl, fun s e => ?_, fun z => absurd g2 (z _ rfl)⟩
    injection e with e
    subst e
    refine ⟨by omega, fun _ => ?_⟩
    rw [lin]
    exact h _ rfl
  rintro δ rfl
  refine cut1 (fun δ => ∃ y : Str, y.length ≤ 99000 ∧ ascS y ∧ δ = [some (.sh (.list (ns.map PyData.int))), some (.ow (.lst [.int (((c + 1 : Nat) : Int) : Int)])), some (.sh (.list (t.map ndD))), some (.sh (.list (rows.map rwD))), some (.sh (refD)), some (.sh (.str (treeS t))), some (.sh (.str (y))), none, none, none, none]) ?_ ?_
  · intro P' h
    refine ⟨ns, c, rfl, hl, hb, by omega, fun v v0 v1 => ?_⟩
    exact ⟨treeS t, v, rfl, tl, tree_asc ht, v0, v1, fun y ly ay => h _ ⟨y, ly, ay, rfl⟩⟩
  rintro δ ⟨y, ly, ay, rfl⟩
  refine cut1 (fun δ => ∃ d : D, ReadOk y d ∧ δ = [some (.sh (.list (ns.map PyData.int))), some (.ow (.lst [.int (((c + 1 : Nat) : Int) : Int)])), some (.sh (.list (t.map ndD))), some (.sh (.list (rows.map rwD))), some (.sh (refD)), some (.sh (.str (treeS t))), some (.sh (.str (y))), some (.sh (d)), none, none, none]) (fun P' h => ⟨y, rfl, by omega, ay, fun d hd => h _ ⟨d, hd, rfl⟩⟩) ?_
  rintro δ ⟨d, hd, rfl⟩
  have yE : ∀ s, (PyData.str y) = .str s → s = y := fun s e => by injection e with e; exact e.symm
  refine cut2 (fun δ => ∃ b : Bool, δ = [some (.sh (.list (ns.map PyData.int))), some (.ow (.lst [.int (((c + 1 : Nat) : Int) : Int)])), some (.sh (.list (t.map ndD))), some (.sh (.list (rows.map rwD))), some (.sh (refD)), some (.sh (.str (treeS t))), some (.sh (.str (y))), some (.sh (d)), some (.sh (.bool (b))), none, none]) ?_ ?_
  · intro P' h
    rcases hd with ⟨rfl, gn⟩ | ⟨rs, rfl, lr, gi, ge⟩
    · refine ⟨eA K "read_tree", .str y, rfl, .inr ⟨rfl, rfl, fun s e => ?_, fun _ => ?_⟩⟩
      · rw [yE s e]
        exact ⟨by omega, fun z => absurd z gn⟩
      · refine eqG_of (.inr ⟨refD_shaped, refD_shaped⟩) ?_
        exact h _ ⟨false, rfl⟩
    · refine ⟨rs, rfl, lr, fun b hb => ?_⟩
      refine ⟨eA K "read_tree", .str y, rfl, .inr ⟨rfl, rfl, fun s e => ?_, fun z => ?_⟩⟩
      · rw [yE s e]
        refine ⟨by omega, fun g => ?_⟩
        have gd := gi.mpr g
        rw [hb.mpr gd]
        refine ⟨.str y, rfl, rfl, fun s e => ?_, fun z => absurd g (z _ rfl)⟩
        rw [yE s e]
        refine ⟨by omega, fun _ => ?_⟩
        rw [ge gd]
        obtain ⟨t2, e2, hu2⟩ := gd
        rw [e2]
        refine eqG_of (.inr ⟨shaped_tr t2, shaped_tr t2⟩) ?_
        refine bif_false (by rw [eqv_self _ (shaped_parts (shaped_tr t2)).1]; rfl) ?_
        exact h _ ⟨true, by rw [e2]; rfl⟩
      · have : b = false := by
          cases b with
          | false => rfl
          | true => exact absurd (gi.mp (hb.mp rfl)) (z _ rfl)
        rw [this]
        refine eqG_of (.inr ⟨refD_shaped, refD_shaped⟩) ?_
        exact h _ ⟨false, rfl⟩
  rintro δ ⟨b, rfl⟩
  clear hd
  refine cut1 (fun δ => ∃ a : Option Sl, notIo a = true ∧ δ = [some (.sh (.list (ns.map PyData.int))), some (.ow (.lst [.int (((c + 1 : Nat) : Int) : Int)])), some (.sh (.list (t.map ndD))), some (.sh (.list (rows.map rwD))), some (.sh (refD)), some (.sh (.str (treeS t))), some (.sh (.str (y))), some (.sh (d)), some (.sh (.bool (b))), a, none]) ?_ ?_
  · intro P' h
    have n5 : ((0 : Int) ≤ 5000 ∧ (Str.ofString "9").length * (5000 : Int).toNat ≤ sizeLine ∧ (5000 : Int).toNat ≤ sizeLine) := ⟨by decide, by show 1 * 5000 ≤ _; omega, by show 5000 ≤ _; omega⟩
    have nl := nine_len
    refine ⟨n5, by omega, n5, by omega, ?_⟩
    have l1 : (treeS t).length + (Str.ofString "\n").length ≤ sizeLine := by show _ + 1 ≤ _; omega
    refine ⟨l1, n5, by rw [len_add]; show _ + 1 + _ ≤ _; omega, by rw [len_add, len_add]; show _ + 1 + _ + 2 ≤ _; omega, ?_⟩
    show forK _ _ _ _ _ _
    refine forK_nat (xs := [treeS t ++ repS (Str.ofString "9") 5000, repS (Str.ofString "9") 5000 ++ treeS t, treeS t ++ nlS ++ repS (Str.ofString "9") 5000 ++ Str.ofString " 5"]) (g := PyData.str) (fun j δ => ∃ a : Option Sl, notIo a = true ∧ δ = [some (.sh (.list (ns.map PyData.int))), some (.ow (.lst [.int (((c + 1 : Nat) : Int) : Int)])), some (.sh (.list (t.map ndD))), some (.sh (.list (rows.map rwD))), some (.sh (refD)), some (.sh (.str (treeS t))), some (.sh (.str (y))), some (.sh (d)), some (.sh (.bool (b))), a, none]) ?_ ?_ _ ⟨none, rfl, rfl⟩
    · rintro δ ⟨a, ha, rfl⟩
      exact h _ ⟨a, ha, rfl⟩
    · rintro j x δ hx ⟨a, ha, rfl⟩ F hF
      have key : x.length ≤ 100000 ∧ ¬ GoodT (linesD x) := by
        have hm := get_mem hx
        simp only [List.mem_cons, List.not_mem_nil, or_false] at hm
        rcases hm with rfl | rfl | rfl
        · exact ⟨by rw [len_add]; omega, far1 _⟩
        · exact ⟨by rw [len_add]; omega, far2 _⟩
        · exact ⟨by rw [len_add, len_add, len_add]; show _ + 1 + _ + 2 ≤ _; omega, far_bad nine_nl (by omega)⟩
      refine nameG_of ha ?_
      refine ⟨eA K "read_tree", .str x, rfl, .inr ⟨rfl, rfl, fun s e => ?_, fun _ => ?_⟩⟩
      · injection e with e
        subst e
        exact ⟨key.1, fun z => absurd z key.2⟩
      · refine eqG_of (.inr ⟨refD_shaped, refD_shaped⟩) ?_
        exact hF _ ⟨_, rfl, rfl⟩
  rintro δ ⟨a, ha, rfl⟩
  refine cut1 (fun δ => ∃ o : D, OddT o ∧ δ = [some (.sh (.list (ns.map PyData.int))), some (.ow (.lst [.int (((c + 1 + 1 : Nat) : Int) : Int)])), some (.sh (.list (t.map ndD))), some (.sh (.list (rows.map rwD))), some (.sh (refD)), some (.sh (.str (treeS t))), some (.sh (.str (y))), some (.sh (d)), some (.sh (.bool (b))), a, some (.sh (o))]) ?_ ?_
  · intro P' h
    obtain ⟨n1, n2⟩ := nl_len 49000 (treeS t) tl
    refine ⟨⟨rfl, by omega⟩, ?_⟩
    refine ⟨ns, c + 1, rfl, hl, hb, by omega, fun v v0 v1 => ?_⟩
    refine ⟨(by show (0 : Int) < _; decide), atI_all (by omega) (by show v % 8 < 8; omega) (fun o ho => h _ ⟨o, ?_, rfl⟩)⟩
    simp only [List.mem_cons, List.not_mem_nil, or_false] at ho
    rcases ho with rfl | rfl | rfl | rfl | rfl | rfl | rfl | rfl
    · exact odd_oth rfl (fun _ => by simp) (fun _ => by simp)
    · exact odd_oth rfl (fun _ => by simp) (fun _ => by simp)
    · refine ⟨⟨rfl, fun rs e => ?_⟩, notGood_of ?_, fun s e => by cases e⟩
      · injection e with e
        subst e
        refine ⟨by show ((Txt.split (treeS t) nlS).map PyData.str).length ≤ _; rw [List.length_map]; omega, fun r hr => ?_⟩
        obtain ⟨z, _, rfl⟩ := List.mem_map.mp hr
        exact plain_oth rfl (fun _ => by simp)
      · cases q : Txt.split (treeS t) nlS with
        | nil =>
          unfold linesD at lin
          rw [q] at lin
          injection lin with lin
          have := congrArg List.length lin
          rw [List.length_map] at this
          have := ht.l1
          simp at *
          omega
        | cons z r =>
          refine ⟨.str z, ?_, fun n z => by cases z⟩
          have q2 : Txt.split (treeS t) (Str.ofString "\n") = z :: r := q
          rw [q2]
          exact List.mem_cons_self
    · exact odd_oth rfl (fun _ => by simp) (fun _ => by simp)
    · refine ⟨⟨rfl, fun rs e => by cases e⟩, notGood_oth (fun _ => by simp), fun s e => ?_⟩
      injection e with e
      subst e
      exact ⟨by decide, empty_bad⟩
    · refine ⟨⟨rfl, fun rs e => ?_⟩, fun ⟨u, e, h⟩ => ?_, fun s e => by cases e⟩
      · injection e with e
        subst e
        exact ⟨by decide, fun r hr => by cases hr⟩
      · injection e with e
        have := h.l1
        cases u with
        | nil => simp at this
        | cons x r => cases e
    · exact odd_oth rfl (fun _ => by simp) (fun _ => by simp)
    · exact odd_oth rfl (fun _ => by simp) (fun _ => by simp)
  rintro δ ⟨o, ⟨po, go, so⟩, rfl⟩
  refine ⟨eA K "read_tree", o, rfl, .inr ⟨rfl, po.1, fun s e => ⟨(so s e).1, fun z => absurd z (so s e).2⟩, fun _ => ?_⟩⟩
  refine eqG_of (.inr ⟨refD_shaped, refD_shaped⟩) ?_
  refine ⟨eA K "need_tree", o, rfl, .inl ⟨rfl, po, fun z => absurd z go, fun _ => ?_⟩⟩
  exact okE (F := fun d => retK P (.rt d) _) hP
end
end KX

namespace KX
open PySem PySem.Spec PyProof.Rows L2 DL
section
variable [NX.TabsC]
variable {P : Program} {w : World} {K : PySem.W.Frag} {mg : Str → Option Value} {base : Heap}
end
end KX
namespace KX
open PySem PySem.Spec PyProof.Rows L2 DL
local instance : NX.TabsC := ⟨[], id⟩
def dd (x : Str) (i : Nat) : He.DefD := ⟨(x, none), x, x, defArgs (top i), defBody (top i), defScope (top i), [], []⟩
def fn : List He.DefD := [dd "is_whole" 11, dd "is_among" 12, dd "number_of" 13, dd "is_node" 19, dd "next_nodes" 20, dd "time_of" 21, dd "is_fair" 22, dd "need_tree" 23, dd "ends" 24, dd "row_to" 25, dd "tree_text" 26, dd "node_of" 27, dd "read_tree" 28, dd "_law_cell_at" 30, dd "_law_cell" 31, dd "_law_price" 32, dd "_law_tree" 33, dd "_law_fair" 34, dd "_law_good" 35, dd "_law_bent" 36, dd "_law_refused" 37, dd "_law_asked" 38, dd "_law_lines" 39, dd "_law_read" 40, dd "_law_text" 41, dd "law" 42]
def fa : List He.Fa := [.glo "is_whole", .glo "is_among", .glo "number_of", .glo "is_node", .glo "next_nodes", .glo "time_of", .glo "is_fair", .glo "need_tree", .glo "ends", .glo "row_to", .glo "tree_text", .glo "node_of", .glo "read_tree", .glo "_law_cell_at", .glo "_law_cell", .glo "_law_price", .glo "_law_tree", .glo "_law_fair", .glo "_law_good", .glo "_law_bent", .glo "_law_refused", .glo "_law_asked", .glo "_law_lines", .glo "_law_read", .glo "_law_text", .glo "law", .free "isinstance", .free "int", .free "bool", .free "len", .free "tuple", .free "enumerate", .free "min", .free "max", .free "range", .free "list", .free "str", .free "ValueError", .int "MOST_FIGURES" 400, .str "FIGURES" "0123456789", .int "MOST_PRICE" 1000000000, .int "MOST_NEXT" 4, .int "MOST_NODES" 40, .int "MOST_TIME" 7, .glo "BadTree", .glo "HedgeError", .glo "BadDeal", .glo "TooMany", .glo "NoTurn", .glo "BadChoice", .glo "BadText"]
def ex (K : PySem.W.Frag) : Bool := excB K "BadTree" && relB K "BadTree" "HedgeError" true && relB K "BadTree" "BadTree" true && relB K "BadTree" "BadDeal" false && relB K "BadTree" "TooMany" false && relB K "BadTree" "NoTurn" false && relB K "BadTree" "BadChoice" false && relB K "BadTree" "BadText" false && isVB K "BadTree"
abbrev R : PySem.W.OpenRow := PySem.W.OpenLaw.row PySem.Challenge.rw_hedgewright_k02_unfoldings
abbrev hk : PySem.W.Hook := hookM 4 fa fn ex
def ob (s : PySem.W.SharedT) : AlM := obsMG 4 fa fn ex (HandSHeadRun.getT s)
theorem ob_eq (s : PySem.W.SharedT) : ob s = hk.obs s.abs := obsMG_eq (HandSHeadRun.getT_eq s)
theorem run (w : World) : HandSHeadRun.RunEq R (PySem.W.view R.prog [42]) hk ob 5000 ((["MOST_FIGURES", "FIGURES", "MOST_NODES", "MOST_NEXT", "MOST_TIME", "MOST_PRICE", "is_whole", "is_among", "number_of", "is_node", "next_nodes", "time_of", "is_fair", "need_tree", "ends", "row_to", "tree_text", "node_of", "read_tree", "_law_cell_at"] : List PySem.Str) ++ (["_law_cell", "_law_price", "_law_tree", "_law_fair", "_law_good", "_law_bent", "_law_refused", "_law_asked", "_law_lines", "_law_read", "_law_text", "HedgeError", "BadTree", "BadDeal", "TooMany", "NoTurn", "BadChoice", "BadText"] : List PySem.Str)) w := by
  intro os
  kernel_rfl
theorem facts {P : Program} {w : World} {K : PySem.W.Frag} {h : Heap} {mg : Str → Option Value} {f : Addr} (X : K.In h) (G : h.Ns mainGlobals mg) (hfa : mg ("law" : Str) = some (.ref f)) (c : SaysM fa fn ex K) :
    ∃ fd : FuncData, (∀ (s : Shared) (v : Value), BindsTo s fd ⟨[v], []⟩ [("_law_script", v)]) ∧ ∀ base : Heap, K.In base → base.Ns mainGlobals mg → FnOk P w K mg base CX0 7 f fd ["_law_script"] (spD K (lawS 63)) := by
  obtain ⟨fd_is_whole, F_is_whole⟩ := c.d.def_ 0 (d := dd "is_whole" 11) rfl
  have A_is_whole : DefAt K mg "is_whole" st_is_whole ["thing"] := defAt F_is_whole (He.glo_ok X G (c.d.fact 0 (f := .glo "is_whole") rfl)) (fun _ _ _ _ _ _ us hl => match us, hl with | [_], _ => rfl)
  obtain ⟨fd_is_among, F_is_among⟩ := c.d.def_ 1 (d := dd "is_among" 12) rfl
  have A_is_among : DefAt K mg "is_among" st_is_among ["thing", "least", "most"] := defAt F_is_among (He.glo_ok X G (c.d.fact 1 (f := .glo "is_among") rfl)) (fun _ _ _ _ _ _ us hl => match us, hl with | [_, _, _], _ => rfl)
  obtain ⟨fd_number_of, F_number_of⟩ := c.d.def_ 2 (d := dd "number_of" 13) rfl
  have A_number_of : DefAt K mg "number_of" st_number_of ["text"] := defAt F_number_of (He.glo_ok X G (c.d.fact 2 (f := .glo "number_of") rfl)) (fun _ _ _ _ _ _ us hl => match us, hl with | [_], _ => rfl)
  obtain ⟨fd_is_node, F_is_node⟩ := c.d.def_ 3 (d := dd "is_node" 19) rfl
  have A_is_node : DefAt K mg "is_node" st_is_node ["row", "number"] := defAt F_is_node (He.glo_ok X G (c.d.fact 3 (f := .glo "is_node") rfl)) (fun _ _ _ _ _ _ us hl => match us, hl with | [_, _], _ => rfl)
  obtain ⟨fd_next_nodes, F_next_nodes⟩ := c.d.def_ 4 (d := dd "next_nodes" 20) rfl
  have A_next_nodes : DefAt K mg "next_nodes" st_next_nodes ["tree", "node"] := defAt F_next_nodes (He.glo_ok X G (c.d.fact 4 (f := .glo "next_nodes") rfl)) (fun _ _ _ _ _ _ us hl => match us, hl with | [_, _], _ => rfl)
  obtain ⟨fd_time_of, F_time_of⟩ := c.d.def_ 5 (d := dd "time_of" 21) rfl
  have A_time_of : DefAt K mg "time_of" st_time_of ["tree", "node"] := defAt F_time_of (He.glo_ok X G (c.d.fact 5 (f := .glo "time_of") rfl)) (fun _ _ _ _ _ _ us hl => match us, hl with | [_, _], _ => rfl)
  obtain ⟨fd_is_fair, F_is_fair⟩ := c.d.def_ 6 (d := dd "is_fair" 22) rfl
  have A_is_fair : DefAt K mg "is_fair" st_is_fair ["tree", "node"] := defAt F_is_fair (He.glo_ok X G (c.d.fact 6 (f := .glo "is_fair") rfl)) (fun _ _ _ _ _ _ us hl => match us, hl with | [_, _], _ => rfl)
  obtain ⟨fd_need_tree, F_need_tree⟩ := c.d.def_ 7 (d := dd "need_tree" 23) rfl
  have A_need_tree : DefAt K mg "need_tree" st_need_tree ["tree"] := defAt F_need_tree (He.glo_ok X G (c.d.fact 7 (f := .glo "need_tree") rfl)) (fun _ _ _ _ _ _ us hl => match us, hl with | [_], _ => rfl)
  obtain ⟨fd_ends, F_ends⟩ := c.d.def_ 8 (d := dd "ends" 24) rfl
  have A_ends : DefAt K mg "ends" st_ends ["tree"] := defAt F_ends (He.glo_ok X G (c.d.fact 8 (f := .glo "ends") rfl)) (fun _ _ _ _ _ _ us hl => match us, hl with | [_], _ => rfl)
  obtain ⟨fd_row_to, F_row_to⟩ := c.d.def_ 9 (d := dd "row_to" 25) rfl
  have A_row_to : DefAt K mg "row_to" st_row_to ["tree", "end"] := defAt F_row_to (He.glo_ok X G (c.d.fact 9 (f := .glo "row_to") rfl)) (fun _ _ _ _ _ _ us hl => match us, hl with | [_, _], _ => rfl)
  obtain ⟨fd_tree_text, F_tree_text⟩ := c.d.def_ 10 (d := dd "tree_text" 26) rfl
  have A_tree_text : DefAt K mg "tree_text" st_tree_text ["tree"] := defAt F_tree_text (He.glo_ok X G (c.d.fact 10 (f := .glo "tree_text") rfl)) (fun _ _ _ _ _ _ us hl => match us, hl with | [_], _ => rfl)
  obtain ⟨fd_node_of, F_node_of⟩ := c.d.def_ 11 (d := dd "node_of" 27) rfl
  have A_node_of : DefAt K mg "node_of" st_node_of ["line"] := defAt F_node_of (He.glo_ok X G (c.d.fact 11 (f := .glo "node_of") rfl)) (fun _ _ _ _ _ _ us hl => match us, hl with | [_], _ => rfl)
  obtain ⟨fd_read_tree, F_read_tree⟩ := c.d.def_ 12 (d := dd "read_tree" 28) rfl
  have A_read_tree : DefAt K mg "read_tree" st_read_tree ["text"] := defAt F_read_tree (He.glo_ok X G (c.d.fact 12 (f := .glo "read_tree") rfl)) (fun _ _ _ _ _ _ us hl => match us, hl with | [_], _ => rfl)
  obtain ⟨fd__law_cell, F__law_cell⟩ := c.d.def_ 14 (d := dd "_law_cell" 31) rfl
  have A__law_cell : DefAt K mg "_law_cell" st__law_cell ["_law_cells", "_law_spot"] := defAt F__law_cell (He.glo_ok X G (c.d.fact 14 (f := .glo "_law_cell") rfl)) (fun _ _ _ _ _ _ us hl => match us, hl with | [_, _], _ => rfl)
  obtain ⟨fd__law_price, F__law_price⟩ := c.d.def_ 15 (d := dd "_law_price" 32) rfl
  have A__law_price : DefAt K mg "_law_price" st__law_price ["_law_n", "_law_low", "_law_high"] := defAt F__law_price (He.glo_ok X G (c.d.fact 15 (f := .glo "_law_price") rfl)) (fun _ _ _ _ _ _ us hl => match us, hl with | [_, _, _], _ => rfl)
  obtain ⟨fd__law_tree, F__law_tree⟩ := c.d.def_ 16 (d := dd "_law_tree" 33) rfl
  have A__law_tree : DefAt K mg "_law_tree" st__law_tree ["_law_cells", "_law_spot", "_law_most"] := defAt F__law_tree (He.glo_ok X G (c.d.fact 16 (f := .glo "_law_tree") rfl)) (fun _ _ _ _ _ _ us hl => match us, hl with | [_, _, _], _ => rfl)
  obtain ⟨fd__law_fair, F__law_fair⟩ := c.d.def_ 17 (d := dd "_law_fair" 34) rfl
  have A__law_fair : DefAt K mg "_law_fair" st__law_fair ["_law_tree_here", "_law_great"] := defAt F__law_fair (He.glo_ok X G (c.d.fact 17 (f := .glo "_law_fair") rfl)) (fun _ _ _ _ _ _ us hl => match us, hl with | [_, _], _ => rfl)
  obtain ⟨fd__law_good, F__law_good⟩ := c.d.def_ 18 (d := dd "_law_good" 35) rfl
  have A__law_good : DefAt K mg "_law_good" st__law_good ["_law_tree_here"] := defAt F__law_good (He.glo_ok X G (c.d.fact 18 (f := .glo "_law_good") rfl)) (fun _ _ _ _ _ _ us hl => match us, hl with | [_], _ => rfl)
  obtain ⟨fd__law_bent, F__law_bent⟩ := c.d.def_ 19 (d := dd "_law_bent" 36) rfl
  have A__law_bent : DefAt K mg "_law_bent" st__law_bent ["_law_tree_here", "_law_n"] := defAt F__law_bent (He.glo_ok X G (c.d.fact 19 (f := .glo "_law_bent") rfl)) (fun _ _ _ _ _ _ us hl => match us, hl with | [_, _], _ => rfl)
  obtain ⟨fd__law_refused, F__law_refused⟩ := c.d.def_ 20 (d := dd "_law_refused" 37) rfl
  have A__law_refused : DefAt K mg "_law_refused" st__law_refused ["_law_call", "_law_thing"] := defAt F__law_refused (He.glo_ok X G (c.d.fact 20 (f := .glo "_law_refused") rfl)) (fun _ _ _ _ _ _ us hl => match us, hl with | [_, _], _ => rfl)
  obtain ⟨fd__law_asked, F__law_asked⟩ := c.d.def_ 21 (d := dd "_law_asked" 38) rfl
  have A__law_asked : DefAt K mg "_law_asked" st__law_asked ["_law_tree_here"] := defAt F__law_asked (He.glo_ok X G (c.d.fact 21 (f := .glo "_law_asked") rfl)) (fun _ _ _ _ _ _ us hl => match us, hl with | [_], _ => rfl)
  obtain ⟨fd__law_lines, F__law_lines⟩ := c.d.def_ 22 (d := dd "_law_lines" 39) rfl
  have A__law_lines : DefAt K mg "_law_lines" st__law_lines ["_law_tree_here"] := defAt F__law_lines (He.glo_ok X G (c.d.fact 22 (f := .glo "_law_lines") rfl)) (fun _ _ _ _ _ _ us hl => match us, hl with | [_], _ => rfl)
  obtain ⟨fd__law_read, F__law_read⟩ := c.d.def_ 23 (d := dd "_law_read" 40) rfl
  have A__law_read : DefAt K mg "_law_read" st__law_read ["_law_text_here"] := defAt F__law_read (He.glo_ok X G (c.d.fact 23 (f := .glo "_law_read") rfl)) (fun _ _ _ _ _ _ us hl => match us, hl with | [_], _ => rfl)
  obtain ⟨fd__law_text, F__law_text⟩ := c.d.def_ 24 (d := dd "_law_text" 41) rfl
  have A__law_text : DefAt K mg "_law_text" st__law_text ["_law_text_here", "_law_n"] := defAt F__law_text (He.glo_ok X G (c.d.fact 24 (f := .glo "_law_text") rfl)) (fun _ _ _ _ _ _ us hl => match us, hl with | [_, _], _ => rfl)
  obtain ⟨fd_law, F_law⟩ := c.d.def_ 25 (d := dd "law" 42) rfl
  have A_law : DefAt K mg "law" st_law ["_law_script"] := defAt F_law (He.glo_ok X G (c.d.fact 25 (f := .glo "law") rfl)) (fun _ _ _ _ _ _ us hl => match us, hl with | [_], _ => rfl)
  have T : Top K mg := { b_isinstance := He.free_ok X G (c.d.fact 26 (f := .free "isinstance") rfl), b_int := He.free_ok X G (c.d.fact 27 (f := .free "int") rfl), b_bool := He.free_ok X G (c.d.fact 28 (f := .free "bool") rfl), b_len := He.free_ok X G (c.d.fact 29 (f := .free "len") rfl), b_tuple := He.free_ok X G (c.d.fact 30 (f := .free "tuple") rfl), b_enumerate := He.free_ok X G (c.d.fact 31 (f := .free "enumerate") rfl), b_min := He.free_ok X G (c.d.fact 32 (f := .free "min") rfl), b_max := He.free_ok X G (c.d.fact 33 (f := .free "max") rfl), b_range := He.free_ok X G (c.d.fact 34 (f := .free "range") rfl), b_list := He.free_ok X G (c.d.fact 35 (f := .free "list") rfl), b_str := He.free_ok X G (c.d.fact 36 (f := .free "str") rfl), b_ValueError := He.free_ok X G (c.d.fact 37 (f := .free "ValueError") rfl), c_MOST_FIGURES := gloI X G (c.d.fact 38 (f := .int "MOST_FIGURES" 400) rfl), c_FIGURES := gloS X G (c.d.fact 39 (f := .str "FIGURES" "0123456789") rfl), c_MOST_PRICE := gloI X G (c.d.fact 40 (f := .int "MOST_PRICE" 1000000000) rfl), c_MOST_NEXT := gloI X G (c.d.fact 41 (f := .int "MOST_NEXT" 4) rfl), c_MOST_NODES := gloI X G (c.d.fact 42 (f := .int "MOST_NODES" 40) rfl), c_MOST_TIME := gloI X G (c.d.fact 43 (f := .int "MOST_TIME" 7) rfl), x_BadTree := ExcF.of (He.glo_ok X G (c.d.fact 44 (f := .glo "BadTree") rfl)) (by have := c.x; simp only [ex, Bool.and_eq_true] at this; exact this.1.1.1.1.1.1.1.1), xg_BadTree := ⟨He.glo_ok X G (c.d.fact 44 (f := .glo "BadTree") rfl)⟩, xg_HedgeError := ⟨He.glo_ok X G (c.d.fact 45 (f := .glo "HedgeError") rfl)⟩, xg_BadDeal := ⟨He.glo_ok X G (c.d.fact 46 (f := .glo "BadDeal") rfl)⟩, xg_TooMany := ⟨He.glo_ok X G (c.d.fact 47 (f := .glo "TooMany") rfl)⟩, xg_NoTurn := ⟨He.glo_ok X G (c.d.fact 48 (f := .glo "NoTurn") rfl)⟩, xg_BadChoice := ⟨He.glo_ok X G (c.d.fact 49 (f := .glo "BadChoice") rfl)⟩, xg_BadText := ⟨He.glo_ok X G (c.d.fact 50 (f := .glo "BadText") rfl)⟩, g_need_tree := He.glo_ok X G (c.d.fact 7 (f := .glo "need_tree") rfl), g_read_tree := He.glo_ok X G (c.d.fact 12 (f := .glo "read_tree") rfl), r_BadTree_HedgeError := (by have := c.x; simp only [ex, Bool.and_eq_true] at this; exact this.1.1.1.1.1.1.1.2), r_BadTree_BadTree := (by have := c.x; simp only [ex, Bool.and_eq_true] at this; exact this.1.1.1.1.1.1.2), r_BadTree_BadDeal := (by have := c.x; simp only [ex, Bool.and_eq_true] at this; exact this.1.1.1.1.1.2), r_BadTree_TooMany := (by have := c.x; simp only [ex, Bool.and_eq_true] at this; exact this.1.1.1.1.2), r_BadTree_NoTurn := (by have := c.x; simp only [ex, Bool.and_eq_true] at this; exact this.1.1.1.2), r_BadTree_BadChoice := (by have := c.x; simp only [ex, Bool.and_eq_true] at this; exact this.1.1.2), r_BadTree_BadText := (by have := c.x; simp only [ex, Bool.and_eq_true] at this; exact this.1.2), v_BadTree := (by have := c.x; simp only [ex, Bool.and_eq_true] at this; exact this.2) }
  have e := hfa.symm.trans (He.glo_ok X G (c.d.fact 25 (f := .glo "law") rfl))
  cases e
  have b := FunD.bindsA (ps := ["_law_script"]) F_law fun _ _ _ _ _ _ us hl => match us, hl with | [_], _ => rfl
  refine ⟨fd_law, fun s v => b s [v] rfl, fun base _ _ => ?_⟩
  have C_is_whole : CalD P w K mg base CX0 1 "is_whole" ["thing"] S_is_whole := ok_is_whole T A_is_whole 
  have C_is_among : CalD P w K mg base CX0 2 "is_among" ["thing", "least", "most"] S_is_among := ok_is_among T A_is_among C_is_whole
  have C_number_of : CalD P w K mg base CX0 1 "number_of" ["text"] S_number_of := ok_number_of T A_number_of 
  have C_is_node : CalD P w K mg base CX0 3 "is_node" ["row", "number"] S_is_node := ok_is_node T A_is_node C_is_among
  have C_next_nodes : CalN P w K mg base CX0 1 "next_nodes" ["tree", "node"] S_next_nodes := ok_next_nodes T A_next_nodes 
  have C_time_of : CalD P w K mg base CX0 1 "time_of" ["tree", "node"] S_time_of := ok_time_of T A_time_of 
  have C_is_fair : CalD P w K mg base CX0 2 "is_fair" ["tree", "node"] S_is_fair := ok_is_fair T A_is_fair C_next_nodes
  have C_need_tree : CalD P w K mg base (L2.CX P w) 4 "need_tree" ["tree"] (S_need_tree K) := ok_need_tree T A_need_tree C_is_node C_time_of C_is_fair
  have C_ends : CalD P w K mg base CX0 2 "ends" ["tree"] S_ends := ok_ends T A_ends C_next_nodes
  have C_row_to : CalD P w K mg base CX0 1 "row_to" ["tree", "end"] S_row_to := ok_row_to T A_row_to 
  have C_tree_text : CalD P w K mg base CX0 1 "tree_text" ["tree"] S_tree_text := ok_tree_text T A_tree_text 
  have C_node_of : CalD P w K mg base CX0 2 "node_of" ["line"] S_node_of := ok_node_of T A_node_of C_number_of
  have C_read_tree : CalD P w K mg base (L2.CX P w) 5 "read_tree" ["text"] (S_read_tree K) := ok_read_tree T A_read_tree C_need_tree C_node_of
  have C__law_cell : CalI P w K mg base CX0 1 "_law_cell" ["_law_cells", "_law_spot"] [1] S__law_cell := ok__law_cell T A__law_cell 
  have C__law_price : CalD P w K mg base CX0 1 "_law_price" ["_law_n", "_law_low", "_law_high"] S__law_price := ok__law_price T A__law_price 
  have C__law_fair : CalD P w K mg base CX0 1 "_law_fair" ["_law_tree_here", "_law_great"] S__law_fair := ok__law_fair T A__law_fair 
  have C__law_tree : CalI P w K mg base CX0 2 "_law_tree" ["_law_cells", "_law_spot", "_law_most"] [1] S__law_tree := ok__law_tree T A__law_tree C__law_cell C__law_fair C__law_price
  have C__law_good : CalD P w K mg base CX0 1 "_law_good" ["_law_tree_here"] S__law_good := ok__law_good T A__law_good 
  have C__law_bent : CalD P w K mg base CX0 1 "_law_bent" ["_law_tree_here", "_law_n"] S__law_bent := ok__law_bent T A__law_bent 
  have C__law_refused : CalD P w K mg base CX0 6 "_law_refused" ["_law_call", "_law_thing"] (S__law_refused K) := ok__law_refused T A__law_refused C_need_tree C_read_tree
  have C__law_asked : CalD P w K mg base CX0 3 "_law_asked" ["_law_tree_here"] S__law_asked := ok__law_asked T A__law_asked C_time_of C_next_nodes C_ends C_row_to
  have C__law_lines : CalD P w K mg base CX0 1 "_law_lines" ["_law_tree_here"] S__law_lines := ok__law_lines T A__law_lines 
  have C__law_read : CalD P w K mg base CX0 1 "_law_read" ["_law_text_here"] S__law_read := ok__law_read T A__law_read 
  have C__law_text : CalD P w K mg base CX0 1 "_law_text" ["_law_text_here", "_law_n"] S__law_text := ok__law_text T A__law_text 
  exact law_fn (st := st_law) F_law (ok_law T A_law C__law_tree C__law_bent C_tree_text C__law_text C__law_read C__law_cell C__law_refused C_need_tree C__law_good C__law_asked C__law_lines C_read_tree) (He.glo_ok X G (c.d.fact 25 (f := .glo "law") rfl))
end KX
open PySem PySem.W PySem.Calls PyProof.Rows
theorem PySem.Challenge.cw_hedgewright_k02_unfoldings_holds : PySem.Challenge.rw_hedgewright_k02_unfoldings.Holds := by
  w_on; o_law
  refine HandSHeadRun.head_any (r := OpenLaw.row PySem.Challenge.rw_hedgewright_k02_unfoldings) (q := view (OpenLaw.row PySem.Challenge.rw_hedgewright_k02_unfoldings).prog [42]) (H := KX.hk) (ob := KX.ob) (M := 5000) (loose := ((["MOST_FIGURES", "FIGURES", "MOST_NODES", "MOST_NEXT", "MOST_TIME", "MOST_PRICE", "is_whole", "is_among", "number_of", "is_node", "next_nodes", "time_of", "is_fair", "need_tree", "ends", "row_to", "tree_text", "node_of", "read_tree", "_law_cell_at"] : List PySem.Str) ++ (["_law_cell", "_law_price", "_law_tree", "_law_fair", "_law_good", "_law_bent", "_law_refused", "_law_asked", "_law_lines", "_law_read", "_law_text", "HedgeError", "BadTree", "BadDeal", "TooMany", "NoTurn", "BadChoice", "BadText"] : List PySem.Str))) (d := HandSHeadRun.topDef (OpenLaw.row PySem.Challenge.rw_hedgewright_k02_unfoldings).prog 42) (kwd := []) KX.ob_eq
    (by kernel_rfl) (fun s => by kernel_rfl) KX.run (by kernel_rfl) (by kernel_rfl) (by kernel_rfl) (by rfl) (by first | assumption | decide +kernel) (by decide +kernel) ⟨rfl, rfl, rfl, rfl, rfl, by decide +kernel⟩ ?hw ?hc
  case hw => w_witness2
  case hc =>
    refine DL.walk_D (l := PySem.Challenge.rw_hedgewright_k02_unfoldings) (n := 63) (k := 7) (x := "_law_script") (CX := L2.CX0) rfl (by decide) (by kernel_rfl) ⟨rfl, by decide, by decide⟩ ?F (fun _ _ _ _ z => z)
    intro w mg fa h Y G hmg0
    obtain ⟨K, KI, c⟩ := Y
    have hmg : mg ("law" : PySem.Str) = some (.ref fa) := by
      have e : (HandSHeadRun.topDef (OpenLaw.row PySem.Challenge.rw_hedgewright_k02_unfoldings).prog 42).name = ("law" : PySem.Str) := by kernel_rfl
      rw [← e]
      exact hmg0
    obtain ⟨fd, hb, hF⟩ := KX.facts (P := (PySem.Challenge.rw_hedgewright_k02_unfoldings).prog) (w := w) KI G hmg c
    exact ⟨K, fd, KI, c.no, hb, hF⟩
namespace KX
open PySem PySem.Spec PyProof.Rows L2 DL
section
variable [NX.TabsC]
variable {P : Program} {w : World} {K : PySem.W.Frag} {mg : Str → Option Value} {base : Heap}
end
end KX
