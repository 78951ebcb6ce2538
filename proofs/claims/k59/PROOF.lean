import PyProof.Rows.All
import Wide.All
import OpenK.AllK
import Wide.FinOn
import HandS.ForMost
import HandS.Exc
import HandS.IsInst
import HandS.Wide
import HandS.Defaults
import HandS.HeadHook1
import HandS.Lambda
import HandS.HeadHook4
import HandS.Flow
import HandS.Conv
import HandS.SetFor
import HandS.Strs
import HandS.SortInts
import HandS.Style
import HandS.More
import HandS.Rev
import HandS.Codes
import HandS.TupAny
import PyProof.StrOps2
import HandS.SortKw
import PyProof.MinMaxWalk
import KE.DataMinMax
import KE.SortData
import HandS.HeadHook2
import HandS.Deep
import HandS.NoneIn
import PyProof.ListStr
import PyProof.TupleOfStr
import HandS.ExcValue
import HandS.HeadEnd
import HandS.RaiseMore
import PyProof.ReprRoads
import PyProof.StrLawsRepr
import PyProof.FitsInt
import PyProof.CallFns
import PyProof.RowDictHeap
import HandS.ExcOwn
import HandS.ExcInit
import HandS.ExcField
import HandS.ExcIs
import HandS.TryOnly
import HandS.WordsExc
import KE.KExcIs
import HandS.Sort
import KE.SortKeyHeap
import HandS.Nested
import HandS.HeadWalk
import HandS.FStr
import HandS.Text
import HandS.StrMore
import HandS.Flt
import PyProof.StrLawsTight
import PyProof.StrLawsReplace
import KE.IntTextLaws
import HandS.RaiseFrom
import HandS.SuiteRaise
import HandS.ExcInitHot
import KE.KStateDown
import Lean
import HandS.Head0
import HandS.Head1
import HandS.Head2
import PySem.Challenge.RW_benchworth_k59_whole_no_choice_beats_a_t
set_option Elab.async false
set_option linter.all false
set_option maxRecDepth 100000
set_option maxHeartbeats 4000000
namespace DL
open PySem L2
/-- data by value; .ref: an owned object of the ghost heap -/
inductive D where
  | non | bl (b : Bool) | int (i : Int) | str (x : Str) | ty (n : String) | ref (a : Addr) | cl (a : Addr)
  | lst (ds : List D) | tup (ds : List D) | dct (ks : List Key) (ds : List D) | scr (ns : List Int) | exc (a dd : Addr) (f : Str) (e : D)
inductive GO where
  | lst (ds : List D) | dct (ks : List Key) (ds : List D) | ins (C : Str) (dx : Addr) (ks : List Str) (ds : List D) | own (x : Addr) | set (S : Int → Bool) (n : Nat) | tbl (f q : Str) (a : Addr) | gen (r : List V → HO → Prop) (ds : List D)
abbrev Gp := Addr → Option GO
def gput (G : Gp) (a : Addr) (o : GO) : Gp := fun b => if b = a then some o else G b
theorem gput_same {G : Gp} {a : Addr} {o : GO} : gput G a o a = some o := by unfold gput; rw [if_pos rfl]
theorem gput_ne {G : Gp} {a b : Addr} {o : GO} (h : b ≠ a) : gput G a o b = G b := by unfold gput; rw [if_neg h]
theorem gput_gput {G : Gp} {a : Addr} {o u : GO} : gput (gput G a o) a u = gput G a u := by
  funext b; unfold gput; split <;> rfl
/-- the script: locked, or written -/
def SqS (K : PySem.W.Frag) (H : Hp) (G : Gp) (P : Addr → Prop) (a : Addr) (xs : List V) : Prop :=
  ((∃ o, H a = some (.frz o (.lst xs))) ∧ G a = none) ∨ (H a = some (.lst xs) ∧ G a = none ∧ ¬ P a) ∨
    ∃ (o : Obj) (its : Array Value) (n : Nat), K.lookup a = some o ∧ o.cls = .type "list" ∧ o.dict = none ∧ o.data = .seq its n ∧ its.size ≤ sizeLine ∧ Vals xs its.toList
theorem SqS.sq {K : PySem.W.Frag} {H : Hp} {G : Gp} {P : Addr → Prop} {a : Addr} {xs : List V} (h : SqS K H G P a xs) : SqL K H a xs := by
  rcases h with ⟨⟨o, h⟩, _⟩ | ⟨h, _, _⟩ | h
  · exact .inl (.inr ⟨o, h⟩)
  · exact .inl (.inl h)
  · exact .inr h
mutual
def Rep (K : PySem.W.Frag) (H : Hp) (G : Gp) (P : Addr → Prop) : D → V → Prop
  | .non, v => v = .non
  | .bl b, v => v = .bl b
  | .int i, v => v = .int i
  | .str x, v => v = .str x
  | .ty n, v => v = .ty n
  | .cl a, v => v = .ref a
  | .ref a, v => v = .ref a ∧ ∃ o, G a = some o
  | .exc a dd f e, v => v = .ref a ∧ G dd = none ∧ ¬ P dd ∧ ∃ u, H dd = some (.xd [(f, u)]) ∧ Rep K H G P e u
  | .scr ns, v => ∃ a, v = .ref a ∧ ns.length ≤ sizeLine ∧ SqS K H G P a (ns.map V.int)
  | .lst ds, v => ∃ a xs, v = .ref a ∧ G a = none ∧ ¬ P a ∧ H a = some (.lst xs) ∧ ds.length ≤ sizeLine ∧ Reps K H G P ds xs
  | .tup ds, v => ∃ a xs, v = .ref a ∧ G a = none ∧ ¬ P a ∧ H a = some (.tup xs) ∧ ds.length ≤ sizeLine ∧ Reps K H G P ds xs
  | .dct ks ds, v => ∃ a xs, v = .ref a ∧ G a = none ∧ ¬ P a ∧ H a = some (.dK (ks.zip xs)) ∧ ks.length = ds.length ∧ Reps K H G P ds xs
def Reps (K : PySem.W.Frag) (H : Hp) (G : Gp) (P : Addr → Prop) : List D → List V → Prop
  | [], xs => xs = []
  | d :: ds, xs => ∃ x r, xs = x :: r ∧ Rep K H G P d x ∧ Reps K H G P ds r
end
def RelO (K : PySem.W.Frag) (H : Hp) (G : Gp) (P : Addr → Prop) : GO → HO → Prop
  | .lst ds, ho => ∃ xs, ho = .lst xs ∧ ds.length ≤ sizeLine ∧ Reps K H G P ds xs
  | .dct ks ds, ho => ∃ xs, ho = .dK (ks.zip xs) ∧ ks.length = ds.length ∧ Reps K H G P ds xs
  | .ins C dx ks ds, ho => ∃ xs, ho = .ins (He.ga K C) dx (ks.zip xs) ∧ ks.length = ds.length ∧ Reps K H G P ds xs
  | .own x, ho => ho = .own x
  | .set S n, ho => ho = .set S n
  | .gen r ds, ho => ∃ xs, r xs ho ∧ (∀ ys, ho ≠ .tup ys) ∧ Reps K H G P ds xs
  | .tbl f q a, ho => a = (He.cT K (f, none)).2 ∧ ∃ ps, ho = .tbl ps ∧ TriplesOk ps.toList ∧ ∀ (pos : Pos) (cv : Value), codeAmong pos ps.toList = some cv → ∃ c, cv = .ref c ∧ H c = some (LamX.CodeO c q) ∧ G c = none ∧ ¬ P c
/-- the world is held: owned objects as told, private ones apart -/
structure Wo (K : PySem.W.Frag) (P : Addr → Prop) (G : Gp) (H : Hp) : Prop where
  own : ∀ a o, G a = some o → ∃ ho, H a = some ho ∧ RelO K H G P o ho
  prv : ∀ a, P a → G a = none ∧ ∃ ho, H a = some ho ∧ ∀ ys, ho ≠ .tup ys
/-- what a step keeps: what is not owned stands; what is owned stays owned -/
structure Step (G : Gp) (H : Hp) (G' : Gp) (H' : Hp) : Prop where
  keep : ∀ a o, H a = some o → G a = none → H' a = some o ∧ G' a = none
  own : ∀ a o, G a = some o → ∃ o', G' a = some o'
theorem Step.refl (G : Gp) (H : Hp) : Step G H G H := ⟨fun _ _ h g => ⟨h, g⟩, fun _ o h => ⟨o, h⟩⟩
theorem Step.trans {G G1 G2 : Gp} {H H1 H2 : Hp} (a : Step G H G1 H1) (b : Step G1 H1 G2 H2) : Step G H G2 H2 :=
  ⟨fun c o h g => let ⟨h1, g1⟩ := a.keep c o h g; b.keep c o h1 g1, fun c o h => let ⟨o1, h1⟩ := a.own c o h; b.own c o1 h1⟩
mutual
theorem Rep.mono {K : PySem.W.Frag} {P P' : Addr → Prop} {G G' : Gp} {H H' : Hp} (s : Step G H G' H') (hP : ∀ a, (∃ ho, H a = some ho) → P' a → P a) : ∀ {d : D} {v : V}, Rep K H G P d v → Rep K H' G' P' d v
  | .non, _, h => by unfold Rep at h ⊢; exact h
  | .bl _, _, h => by unfold Rep at h ⊢; exact h
  | .int _, _, h => by unfold Rep at h ⊢; exact h
  | .str _, _, h => by unfold Rep at h ⊢; exact h
  | .ty _, _, h => by unfold Rep at h ⊢; exact h
  | .cl _, _, h => by unfold Rep at h ⊢; exact h
  | .ref a, _, h => by
    unfold Rep at h ⊢
    obtain ⟨rfl, o, ho⟩ := h
    exact ⟨rfl, s.own _ _ ho⟩
  | .exc a dd f e, _, h => by
    unfold Rep at h ⊢
    obtain ⟨rfl, g, p, u, r, q⟩ := h
    exact ⟨rfl, (s.keep _ _ r g).2, fun x => p (hP dd ⟨_, r⟩ x), u, (s.keep _ _ r g).1, Rep.mono s hP q⟩
  | .scr ns, _, h => by
    unfold Rep at h ⊢
    obtain ⟨a, rfl, z, ⟨⟨o, h⟩, g⟩ | ⟨h, g, pp⟩ | h⟩ := h
    · exact ⟨a, rfl, z, .inl ⟨⟨o, (s.keep _ _ h g).1⟩, (s.keep _ _ h g).2⟩⟩
    · exact ⟨a, rfl, z, .inr (.inl ⟨(s.keep _ _ h g).1, (s.keep _ _ h g).2, fun x => pp (hP a ⟨_, h⟩ x)⟩)⟩
    · exact ⟨a, rfl, z, .inr (.inr h)⟩
  | .lst ds, _, h => by
    unfold Rep at h ⊢
    obtain ⟨a, xs, rfl, g, p, r, z, q⟩ := h
    exact ⟨a, xs, rfl, (s.keep _ _ r g).2, fun x => p (hP a ⟨_, r⟩ x), (s.keep _ _ r g).1, z, Reps.mono s hP q⟩
  | .tup ds, _, h => by
    unfold Rep at h ⊢
    obtain ⟨a, xs, rfl, g, p, r, z, q⟩ := h
    exact ⟨a, xs, rfl, (s.keep _ _ r g).2, fun x => p (hP a ⟨_, r⟩ x), (s.keep _ _ r g).1, z, Reps.mono s hP q⟩
  | .dct ks ds, _, h => by
    unfold Rep at h ⊢
    obtain ⟨a, xs, rfl, g, p, r, z, q⟩ := h
    exact ⟨a, xs, rfl, (s.keep _ _ r g).2, fun x => p (hP a ⟨_, r⟩ x), (s.keep _ _ r g).1, z, Reps.mono s hP q⟩
theorem Reps.mono {K : PySem.W.Frag} {P P' : Addr → Prop} {G G' : Gp} {H H' : Hp} (s : Step G H G' H') (hP : ∀ a, (∃ ho, H a = some ho) → P' a → P a) : ∀ {ds : List D} {vs : List V}, Reps K H G P ds vs → Reps K H' G' P' ds vs
  | [], _, h => by unfold Reps at h ⊢; exact h
  | d :: ds, _, h => by
    unfold Reps at h ⊢
    obtain ⟨x, r, rfl, h1, h2⟩ := h
    exact ⟨x, r, rfl, Rep.mono s hP h1, Reps.mono s hP h2⟩
end
section
variable {K : PySem.W.Frag} {P : Addr → Prop} {G G' : Gp} {H H' : Hp}
theorem Rep.step {d : D} {v : V} (s : Step G H G' H') (h : Rep K H G P d v) : Rep K H' G' P d v := Rep.mono s (fun _ _ x => x) h
theorem Reps.step {ds : List D} {vs : List V} (s : Step G H G' H') (h : Reps K H G P ds vs) : Reps K H' G' P ds vs := Reps.mono s (fun _ _ x => x) h
theorem reps_nil : Reps K H G P [] [] := by unfold Reps; rfl
theorem reps_cons {d : D} {ds : List D} {v : V} {vs : List V} (h : Rep K H G P d v) (t : Reps K H G P ds vs) : Reps K H G P (d :: ds) (v :: vs) := by
  rw [Reps]; exact ⟨v, vs, rfl, h, t⟩
theorem Reps.length : ∀ {ds : List D} {vs : List V}, Reps K H G P ds vs → ds.length = vs.length
  | [], _, h => by unfold Reps at h; subst h; rfl
  | d :: ds, _, h => by
    unfold Reps at h
    obtain ⟨x, r, rfl, _, h2⟩ := h
    simp [Reps.length h2]
theorem Reps.get : ∀ {ds : List D} {vs : List V} {i : Nat} {d : D}, Reps K H G P ds vs → ds[i]? = some d → ∃ v, vs[i]? = some v ∧ Rep K H G P d v
  | [], _, _, _, _, e => by simp at e
  | d :: ds, _, i, d', h, e => by
    unfold Reps at h
    obtain ⟨x, r, rfl, h1, h2⟩ := h
    cases i with
    | zero => simp at e; subst e; exact ⟨x, by simp, h1⟩
    | succ i =>
      obtain ⟨v, e1, e2⟩ := Reps.get (i := i) (d := d') h2 (by simpa using e)
      exact ⟨v, by simpa using e1, e2⟩
theorem Reps.append : ∀ {ds es : List D} {vs ws : List V}, Reps K H G P ds vs → Reps K H G P es ws → Reps K H G P (ds ++ es) (vs ++ ws)
  | [], es, _, ws, h, k => by unfold Reps at h; subst h; exact k
  | d :: ds, es, _, ws, h, k => by
    unfold Reps at h
    obtain ⟨x, r, rfl, h1, h2⟩ := h
    exact reps_cons h1 (Reps.append h2 k)
theorem Reps.set {d : D} {v : V} (hd : Rep K H G P d v) : ∀ {ds : List D} {vs : List V} (i : Nat), Reps K H G P ds vs → Reps K H G P (ds.set i d) (vs.set i v)
  | [], _, _, h => by unfold Reps at h; subst h; exact reps_nil
  | e :: ds, _, i, h => by
    unfold Reps at h
    obtain ⟨x, r, rfl, h1, h2⟩ := h
    cases i with
    | zero => exact reps_cons hd h2
    | succ i => exact reps_cons h1 (Reps.set hd i h2)
theorem Reps.drop : ∀ {ds : List D} {vs : List V} (n : Nat), Reps K H G P ds vs → Reps K H G P (ds.drop n) (vs.drop n)
  | _, _, 0, h => h
  | [], _, n + 1, h => by unfold Reps at h; subst h; exact reps_nil
  | e :: ds, _, n + 1, h => by
    unfold Reps at h
    obtain ⟨x, r, rfl, h1, h2⟩ := h
    exact Reps.drop n h2
theorem Reps.take : ∀ {ds : List D} {vs : List V} (n : Nat), Reps K H G P ds vs → Reps K H G P (ds.take n) (vs.take n)
  | _, _, 0, h => reps_nil
  | [], _, n + 1, h => by unfold Reps at h; subst h; exact reps_nil
  | e :: ds, _, n + 1, h => by
    unfold Reps at h
    obtain ⟨x, r, rfl, h1, h2⟩ := h
    exact reps_cons h1 (Reps.take n h2)
theorem reps_ints : ∀ {ns : List Int} {vs : List V}, Reps K H G P (ns.map D.int) vs → vs = ns.map V.int
  | [], _, h => by simp only [List.map_nil] at h; unfold Reps at h; exact h
  | n :: ns, _, h => by
    simp only [List.map_cons] at h
    unfold Reps at h
    obtain ⟨x, r, rfl, h1, h2⟩ := h
    unfold Rep at h1
    rw [h1, reps_ints h2]; rfl
theorem reps_of_ints : ∀ {ns : List Int}, Reps K H G P (ns.map D.int) (ns.map V.int)
  | [] => reps_nil
  | n :: ns => reps_cons (by unfold Rep; rfl) reps_of_ints
theorem rep_int {i : Int} : Rep K H G P (.int i) (.int i) := by unfold Rep; rfl
theorem rep_bl {i : Bool} : Rep K H G P (.bl i) (.bl i) := by unfold Rep; rfl
theorem rep_str {i : Str} : Rep K H G P (.str i) (.str i) := by unfold Rep; rfl
theorem rep_non : Rep K H G P .non .non := by unfold Rep; rfl
theorem rep_lst {a : Addr} {xs : List V} {ds : List D} (g : G a = none) (p : ¬ P a) (r : H a = some (.lst xs)) (z : ds.length ≤ sizeLine) (q : Reps K H G P ds xs) : Rep K H G P (.lst ds) (.ref a) := by
  unfold Rep; exact ⟨a, xs, rfl, g, p, r, z, q⟩
theorem rep_tup {a : Addr} {xs : List V} {ds : List D} (g : G a = none) (p : ¬ P a) (r : H a = some (.tup xs)) (z : ds.length ≤ sizeLine) (q : Reps K H G P ds xs) : Rep K H G P (.tup ds) (.ref a) := by
  unfold Rep; exact ⟨a, xs, rfl, g, p, r, z, q⟩
theorem RelO.step {P' : Addr → Prop} {o : GO} {ho : HO} (s : Step G H G' H') (hP : ∀ a, (∃ ho, H a = some ho) → P' a → P a) (h : RelO K H G P o ho) : RelO K H' G' P' o ho := by
  cases o with
  | lst ds => obtain ⟨xs, e, z, q⟩ := h; exact ⟨xs, e, z, q.mono s hP⟩
  | dct ks ds => obtain ⟨xs, e, z, q⟩ := h; exact ⟨xs, e, z, q.mono s hP⟩
  | ins C dx ks ds => obtain ⟨xs, e, z, q⟩ := h; exact ⟨xs, e, z, q.mono s hP⟩
  | own x => exact h
  | set S n => exact h
  | gen r ds => obtain ⟨xs, e, z, q⟩ := h; exact ⟨xs, e, z, q.mono s hP⟩
  | tbl f q a =>
    obtain ⟨ea, ps, e, z, q⟩ := h
    refine ⟨ea, ps, e, z, fun pos cv hc => ?_⟩
    obtain ⟨c, e1, e2, e3, e4⟩ := q pos cv hc
    exact ⟨c, e1, (s.keep c _ e2 e3).1, (s.keep c _ e2 e3).2, fun x => e4 (hP c ⟨_, e2⟩ x)⟩
theorem Wo.fresh (w : Wo K P G H) {p : Addr} (h : H p = none) : G p = none ∧ ¬ P p := by
  refine ⟨?_, fun q => ?_⟩
  · cases e : G p with
    | none => rfl
    | some o => obtain ⟨ho, q, _⟩ := w.own p o e; rw [h] at q; cases q
  · obtain ⟨_, ho, e, _⟩ := w.prv p q; rw [h] at e; cases e
/-- a new object, not owned -/
theorem Step.new {p : Addr} {o : HO} (h : H p = none) : Step G H G (upd H p o) :=
  ⟨fun a u e g => ⟨by rw [upd_ne (ne_of_none e h)]; exact e, g⟩, fun _ u e => ⟨u, e⟩⟩
theorem Wo.new (w : Wo K P G H) {p : Addr} {o : HO} (h : H p = none) : Wo K P G (upd H p o) := by
  refine ⟨fun a u e => ?_, fun a q => ?_⟩
  · obtain ⟨ho, e1, r⟩ := w.own a u e
    exact ⟨ho, by rw [upd_ne (ne_of_none e1 h)]; exact e1, r.step (Step.new h) fun _ _ x => x⟩
  · obtain ⟨g, ho, e, nt⟩ := w.prv a q
    exact ⟨g, ho, by rw [upd_ne (ne_of_none e h)]; exact e, nt⟩
/-- a new object, owned -/
theorem Step.newOwn {p : Addr} {o : HO} {g : GO} (w : Wo K P G H) (h : H p = none) : Step G H (gput G p g) (upd H p o) := by
  refine ⟨fun a u e q => ?_, fun a u e => ?_⟩
  · have ne : a ≠ p := ne_of_none e h
    exact ⟨by rw [upd_ne ne]; exact e, by rw [gput_ne ne]; exact q⟩
  · by_cases ne : a = p
    · subst ne; exact ⟨g, gput_same⟩
    · exact ⟨u, by rw [gput_ne ne]; exact e⟩
theorem Wo.newOwn (w : Wo K P G H) {p : Addr} {o : HO} {g : GO} (h : H p = none) (r : RelO K (upd H p o) (gput G p g) P g o) : Wo K P (gput G p g) (upd H p o) := by
  refine ⟨fun a u e => ?_, fun a q => ?_⟩
  · by_cases ne : a = p
    · subst ne; rw [gput_same] at e; cases e; exact ⟨o, upd_same, r⟩
    · rw [gput_ne ne] at e
      obtain ⟨ho, e1, r1⟩ := w.own a u e
      exact ⟨ho, by rw [upd_ne ne]; exact e1, r1.step (Step.newOwn w h) fun _ _ x => x⟩
  · obtain ⟨g1, ho, e, nt⟩ := w.prv a q
    have ne : a ≠ p := ne_of_none e h
    exact ⟨by rw [gput_ne ne]; exact g1, ho, by rw [upd_ne ne]; exact e, nt⟩
/-- an owned object changed -/
theorem Step.chg {p : Addr} {o : HO} {g g0 : GO} (h : G p = some g0) : Step G H (gput G p g) (upd H p o) := by
  refine ⟨fun a u e q => ?_, fun a u e => ?_⟩
  · have ne : a ≠ p := fun z => by subst z; rw [h] at q; cases q
    exact ⟨by rw [upd_ne ne]; exact e, by rw [gput_ne ne]; exact q⟩
  · by_cases ne : a = p
    · subst ne; exact ⟨g, gput_same⟩
    · exact ⟨u, by rw [gput_ne ne]; exact e⟩
theorem Wo.chg (w : Wo K P G H) {p : Addr} {o : HO} {g g0 : GO} (h : G p = some g0) (r : RelO K (upd H p o) (gput G p g) P g o) : Wo K P (gput G p g) (upd H p o) := by
  refine ⟨fun a u e => ?_, fun a q => ?_⟩
  · by_cases ne : a = p
    · subst ne; rw [gput_same] at e; cases e; exact ⟨o, upd_same, r⟩
    · rw [gput_ne ne] at e
      obtain ⟨ho, e1, r1⟩ := w.own a u e
      exact ⟨ho, by rw [upd_ne ne]; exact e1, r1.step (Step.chg h) fun _ _ x => x⟩
  · obtain ⟨g1, ho, e, nt⟩ := w.prv a q
    have ne : a ≠ p := fun z => by subst z; rw [h] at g1; cases g1
    exact ⟨by rw [gput_ne ne]; exact g1, ho, by rw [upd_ne ne]; exact e, nt⟩
end
end DL
set_option Elab.async false
set_option linter.all false
set_option maxRecDepth 100000
set_option maxHeartbeats 4000000
namespace DL
open PySem L2
abbrev DK := D → Gp → Prop
abbrev Sd := List (Option D)
abbrev EE := Sd → Gp → DK → Prop
abbrev ET := Sd → Gp → (Bool → Gp → Prop) → Prop
abbrev EA := Sd → Gp → (List D → Gp → Prop) → Prop
/-- an exception: its class by name, its field -/
structure Xd where
  c : Str
  f : Option (Str × D)
structure En where
  nx : Sd → Gp → Prop
  rt : DK
  bk : Sd → Gp → Prop := fun _ _ => False
  ct : Sd → Gp → Prop := fun _ _ => False
  xr : Xd → Sd → Gp → Prop := fun _ _ _ => False
abbrev ES := En → Sd → Gp → Prop
/-- the slots and the world told -/
structure Rl (K : PySem.W.Frag) (P : Addr → Prop) (s : Sd) (G : Gp) (σ : St) (H : Hp) : Prop where
  wo : Wo K P G H
  len : s.length = σ.length
  at_ : ∀ (i : Nat) (d : D), s[i]? = some (some d) → ∃ v, σ[i]? = some (some v) ∧ Rep K H G P d v
section
variable {K : PySem.W.Frag} {P : Addr → Prop} {s : Sd} {G G' : Gp} {σ : St} {H H' : Hp}
theorem Rl.step (r : Rl K P s G σ H) (st : Step G H G' H') (w : Wo K P G' H') : Rl K P s G' σ H' :=
  ⟨w, r.len, fun i d e => let ⟨v, e1, e2⟩ := r.at_ i d e; ⟨v, e1, e2.step st⟩⟩
theorem Rl.set (r : Rl K P s G σ H) {i : Nat} {d : D} {v : V} (h : Rep K H G P d v) : Rl K P (s.set i (some d)) G (σ.set i (some v)) H := by
  refine ⟨r.wo, by rw [List.length_set, List.length_set]; exact r.len, fun j e q => ?_⟩
  by_cases hj : i = j
  · subst hj
    by_cases hi : i < s.length
    · rw [List.getElem?_set_self hi] at q
      cases q
      exact ⟨v, List.getElem?_set_self (by rw [← r.len]; exact hi), h⟩
    · rw [List.getElem?_eq_none (by rw [List.length_set]; omega)] at q; cases q
  · rw [List.getElem?_set_ne hj] at q
    obtain ⟨w, e1, e2⟩ := r.at_ j e q
    exact ⟨w, by rw [List.getElem?_set_ne hj]; exact e1, e2⟩
end
/-- a reading over the heap keeps one over data -/
def LE (K : PySem.W.Frag) (te : TE) (t : EE) : Prop := ∀ (P : Addr → Prop) (s : Sd) (G : Gp) (Q : DK) (σ : St) (H : Hp) (R : VK), t s G Q → Rl K P s G σ H →
  (∀ d G' v H', Step G H G' H' → Wo K P G' H' → Rep K H' G' P d v → Q d G' → R v H') → te σ H R
def LT (K : PySem.W.Frag) (te : TT) (t : ET) : Prop := ∀ (P : Addr → Prop) (s : Sd) (G : Gp) (Q : Bool → Gp → Prop) (σ : St) (H : Hp) (R : Bool → Hp → Prop), t s G Q → Rl K P s G σ H →
  (∀ b G' H', Step G H G' H' → Wo K P G' H' → Q b G' → R b H') → te σ H R
def LA (K : PySem.W.Frag) (n : Nat) (te : TA) (t : EA) : Prop := ∀ (P : Addr → Prop) (s : Sd) (G : Gp) (Q : List D → Gp → Prop) (σ : St) (H : Hp) (R : List V → Hp → Prop), t s G Q → Rl K P s G σ H →
  (∀ ds G' vs H', Step G H G' H' → Wo K P G' H' → Reps K H' G' P ds vs → ds.length = n → Q ds G' → R vs H') → te σ H R
/-- what is raised, over the heap; the classes' addresses -/
structure Wx where
  w : WX
def RepX (K : PySem.W.Frag) (H : Hp) (G : Gp) (P : Addr → Prop) (x : Xd) (cls : Value) (d : Option Addr) : Prop := cls = .ref (He.ga K x.c) ∧ match x.f with
  | none => d = none
  | some (n, e) => ∃ a v, d = some a ∧ G a = none ∧ ¬ P a ∧ H a = some (.xd [(n, v)]) ∧ Rep K H G P e v
theorem RepX.step {K : PySem.W.Frag} {P : Addr → Prop} {G G' : Gp} {H H' : Hp} {x : Xd} {cls : Value} {d : Option Addr} (s : Step G H G' H') (h : RepX K H G P x cls d) : RepX K H' G' P x cls d := by
  obtain ⟨e, h⟩ := h
  refine ⟨e, ?_⟩
  split
  · rename_i q; rw [q] at h; exact h
  · rename_i n e q
    rw [q] at h
    obtain ⟨a, v, e1, g, p, e2, r⟩ := h
    exact ⟨a, v, e1, (s.keep a _ e2 g).2, p, (s.keep a _ e2 g).1, r.step s⟩
/-- what follows a statement, over the heap and over data -/
structure Co (K : PySem.W.Frag) (Y : Wx) (P : Addr → Prop) (G : Gp) (H : Hp) (N : En) (M : Ends) : Prop where
  nx : ∀ s' G' σ' H', Step G H G' H' → Rl K P s' G' σ' H' → N.nx s' G' → M.nx σ' H'
  rt : ∀ d G' v H', Step G H G' H' → Wo K P G' H' → Rep K H' G' P d v → N.rt d G' → M.rt v H'
  bk : ∀ s' G' σ' H', Step G H G' H' → Rl K P s' G' σ' H' → N.bk s' G' → M.bk σ' H'
  ct : ∀ s' G' σ' H', Step G H G' H' → Rl K P s' G' σ' H' → N.ct s' G' → M.ct σ' H'
  xr : ∀ x s' G' cls d σ' H', Step G H G' H' → Rl K P s' G' σ' H' → RepX K H' G' P x cls d → N.xr x s' G' → Y.w cls d σ' H'
theorem Co.step {K : PySem.W.Frag} {Y : Wx} {P : Addr → Prop} {G G' : Gp} {H H' : Hp} {N : En} {M : Ends} (c : Co K Y P G H N M) (st : Step G H G' H') : Co K Y P G' H' N M :=
  ⟨fun a b e d x y z => c.nx a b e d (st.trans x) y z, fun a b e d x y z w => c.rt a b e d (st.trans x) y z w, fun a b e d x y z => c.bk a b e d (st.trans x) y z, fun a b e d x y z => c.ct a b e d (st.trans x) y z, fun a b e d f g h x y z w => c.xr a b e d f g h (st.trans x) y z w⟩
def LS (K : PySem.W.Frag) (Y : Wx) (ts : TS) (t : ES) : Prop := ∀ (P : Addr → Prop) (s : Sd) (G : Gp) (N : En) (σ : St) (H : Hp) (M : Ends), t N s G → Rl K P s G σ H → Co K Y P G H N M → ts M σ H
def upE (K : PySem.W.Frag) (t : EE) : TE := fun σ H R => ∃ (P : Addr → Prop) (s : Sd) (G : Gp) (Q : DK), t s G Q ∧ Rl K P s G σ H ∧ ∀ d G' v H', Step G H G' H' → Wo K P G' H' → Rep K H' G' P d v → Q d G' → R v H'
def upT (K : PySem.W.Frag) (t : ET) : TT := fun σ H R => ∃ (P : Addr → Prop) (s : Sd) (G : Gp) (Q : Bool → Gp → Prop), t s G Q ∧ Rl K P s G σ H ∧ ∀ b G' H', Step G H G' H' → Wo K P G' H' → Q b G' → R b H'
def upA (K : PySem.W.Frag) (n : Nat) (t : EA) : TA := fun σ H R => ∃ (P : Addr → Prop) (s : Sd) (G : Gp) (Q : List D → Gp → Prop), t s G Q ∧ Rl K P s G σ H ∧ ∀ ds G' vs H', Step G H G' H' → Wo K P G' H' → Reps K H' G' P ds vs → ds.length = n → Q ds G' → R vs H'
def upS (K : PySem.W.Frag) (Y : Wx) (t : ES) : TS := fun M σ H => ∃ (P : Addr → Prop) (s : Sd) (G : Gp) (N : En), t N s G ∧ Rl K P s G σ H ∧ Co K Y P G H N M
inductive JE (X : Cx) (e : Expr) (t : EE) : Prop where
  | mk {te : TE} (a : PE X e te) (b : LE X.K te t) : JE X e t
inductive JT (X : Cx) (e : Expr) (t : ET) : Prop where
  | mk {te : TT} (a : PT X e te) (b : LT X.K te t) : JT X e t
inductive JW (X : Cx) (e : Expr) (t : ET) : Prop where
  | mk {te : TT} (a : PW X e te) (b : LT X.K te t) : JW X e t
inductive JA (X : Cx) (es : List Expr) (t : EA) : Prop where
  | mk {te : TA} (a : PA X es te) (b : LA X.K es.length te t) : JA X es t
inductive JS (X : Cx) (Y : Wx) (st : Stmt) (t : ES) : Prop where
  | mk {ts : TS} (a : PS X st ts) (b : LS X.K Y ts t) : JS X Y st t
inductive JSs (X : Cx) (Y : Wx) (st : List Stmt) (t : ES) : Prop where
  | mk {ts : TS} (a : PSs X st ts) (b : LS X.K Y ts t) : JSs X Y st t
section
variable {X : Cx} {e : Expr} {es : List Expr} {st : Stmt} {sts : List Stmt} {t : EE} {tt : ET} {ta : EA} {ts : ES}
theorem JE.pe (h : JE X e t) : PE X e (upE X.K t) := by
  obtain ⟨a, b⟩ := h
  exact ⟨fun pins s σ H Q I ⟨P, s', G, Q', h1, h2, h3⟩ => a.run pins s σ H Q I (b P s' G Q' σ H Q h1 h2 h3)⟩
theorem JE.le (h : JE X e t) : LE X.K (upE X.K t) t := fun P s G Q σ H R h1 h2 h3 => ⟨P, s, G, Q, h1, h2, h3⟩
theorem JT.pt (h : JT X e tt) : PT X e (upT X.K tt) := by
  obtain ⟨a, b⟩ := h
  exact ⟨fun pins s σ H Q I ⟨P, s', G, Q', h1, h2, h3⟩ => a.run pins s σ H Q I (b P s' G Q' σ H Q h1 h2 h3)⟩
theorem JT.lt (h : JT X e tt) : LT X.K (upT X.K tt) tt := fun P s G Q σ H R h1 h2 h3 => ⟨P, s, G, Q, h1, h2, h3⟩
theorem JW.pw (h : JW X e tt) : PW X e (upT X.K tt) := by
  obtain ⟨a, b⟩ := h
  exact ⟨fun wh pins s σ H Q I ⟨P, s', G, Q', h1, h2, h3⟩ => a.run wh pins s σ H Q I (b P s' G Q' σ H Q h1 h2 h3)⟩
theorem JW.lt (h : JW X e tt) : LT X.K (upT X.K tt) tt := fun P s G Q σ H R h1 h2 h3 => ⟨P, s, G, Q, h1, h2, h3⟩
theorem JA.pa (h : JA X es ta) : PA X es (upA X.K es.length ta) := by
  obtain ⟨a, b⟩ := h
  exact ⟨fun pos pins s σ H Q I ⟨P, s', G, Q', h1, h2, h3⟩ => a.run pos pins s σ H Q I (b P s' G Q' σ H Q h1 h2 h3)⟩
theorem JA.la (h : JA X es ta) : LA X.K es.length (upA X.K es.length ta) ta := fun P s G Q σ H R h1 h2 h3 => ⟨P, s, G, Q, h1, h2, h3⟩
theorem JS.ps {Y : Wx} (h : JS X Y st ts) : PS X st (upS X.K Y ts) := by
  obtain ⟨a, b⟩ := h
  exact ⟨fun pins s σ H M I ⟨P, s', G, N, h1, h2, h3⟩ => a.run pins s σ H M I (b P s' G N σ H M h1 h2 h3)⟩
theorem JS.ls {Y : Wx} (h : JS X Y st ts) : LS X.K Y (upS X.K Y ts) ts := fun P s G N σ H M h1 h2 h3 => ⟨P, s, G, N, h1, h2, h3⟩
theorem JSs.ps {Y : Wx} (h : JSs X Y sts ts) : PSs X sts (upS X.K Y ts) := by
  obtain ⟨a, b⟩ := h
  exact ⟨fun pins s σ H M I ⟨P, s', G, N, h1, h2, h3⟩ => a.run pins s σ H M I (b P s' G N σ H M h1 h2 h3)⟩
theorem JSs.ls {Y : Wx} (h : JSs X Y sts ts) : LS X.K Y (upS X.K Y ts) ts := fun P s G N σ H M h1 h2 h3 => ⟨P, s, G, N, h1, h2, h3⟩
end
@[simp] def eVar (i : Nat) : EE := fun s G Q => match s[i]? with
  | some (some d) => Q d G
  | _ => False
@[simp] def eC (d : D) : EE := fun _ G Q => Q d G
section
variable {X : Cx} {K : PySem.W.Frag}
theorem le_var {i : Nat} : LE K (tVar i) (eVar i) := fun P s G Q σ H R h r k => by
  unfold eVar at h
  split at h
  · rename_i d e
    obtain ⟨v, e1, e2⟩ := r.at_ i d e
    exact ⟨v, e1, k d G v H (Step.refl _ _) r.wo e2 h⟩
  · exact h.elim
theorem jv (i : Nat) {x : Str} {pos : Pos} (hN : X.N[i]? = some x := by rfl) (hv : Vis X.env.scope x := by first | exact Or.inl rfl | exact Or.inr (Or.inl rfl) | exact Or.inr (Or.inr rfl)) (hd : (x == ("__debug__" : Str)) = false := by decide)
    (hcd : (x == ("__classdict__" : Str)) = false := by decide) : JE X (.Name x pos) (eVar i) := ⟨pv i hN hv hd hcd, le_var⟩
theorem le_c {v : V} {d : D} (h : ∀ H G P, Rep K H G P d v) : LE K (tC v) (eC d) := fun P s G Q σ H R q r k => k d G v H (Step.refl _ _) r.wo (h _ _ _) q
theorem j_int {i j pos} : JE X (.Constant (.int i) j pos) (eC (.int i)) := ⟨pe_int, le_c fun _ _ _ => rep_int⟩
theorem j_bl {i j pos} : JE X (.Constant (.bool i) j pos) (eC (.bl i)) := ⟨pe_bl, le_c fun _ _ _ => rep_bl⟩
theorem j_non {j pos} : JE X (.Constant .none j pos) (eC .non) := ⟨pe_non, le_c fun _ _ _ => rep_non⟩
theorem j_str {i j pos} : JE X (.Constant (.str i) j pos) (eC (.str i)) := ⟨pe_str, le_c fun _ _ _ => rep_str⟩
/-- a module's int, text -/
theorem j_gint {x : Str} {i : Int} {pos : Pos} (hg : Gl X x) (hm : ∃ t, X.mg x = some (.int i t)) (hd : (x == ("__debug__" : Str)) = false := by decide) : JE X (.Name x pos) (eC (.int i)) :=
  let ⟨t, e⟩ := hm; ⟨pe_glob (v := .int i) hg e ⟨t, rfl⟩ hd, le_c fun _ _ _ => rep_int⟩
theorem j_ty {x : Str} {n : String} {pos : Pos} (hg : Gl X x) (hm : X.mg x = none) (hv : bootBuiltins x = some (.type n)) (hn : x ≠ "__name__" := by decide) (hd : (x == ("__debug__" : Str)) = false := by decide) : JE X (.Name x pos) (eC (.ty n)) :=
  ⟨pe_bltn (v := .ty n) hg hm hv rfl hn hd, le_c fun _ _ _ => by unfold Rep; rfl⟩
end
abbrev OD := D → D → Gp → DK → Prop
abbrev UD := D → Gp → DK → Prop
/-- an operator over the heap keeps one over data -/
def LO (K : PySem.W.Frag) (r : R2) (o : OD) : Prop := ∀ (P : Addr → Prop) (G : Gp) (H : Hp) (x y : D) (u v : V) (Q : DK) (R : VK), o x y G Q → Wo K P G H → Rep K H G P x u → Rep K H G P y v →
  (∀ d G' w H', Step G H G' H' → Wo K P G' H' → Rep K H' G' P d w → Q d G' → R w H') → r u v H R
def LU (K : PySem.W.Frag) (r : V → Hp → VK → Prop) (o : UD) : Prop := ∀ (P : Addr → Prop) (G : Gp) (H : Hp) (x : D) (u : V) (Q : DK) (R : VK), o x G Q → Wo K P G H → Rep K H G P x u →
  (∀ d G' w H', Step G H G' H' → Wo K P G' H' → Rep K H' G' P d w → Q d G' → R w H') → r u H R
@[simp] def eOp (r : OD) (ta tb : EE) : EE := fun s G Q => ta s G fun x G1 => tb s G1 fun y G2 => r x y G2 Q
@[simp] def eUn (r : UD) (ta : EE) : EE := fun s G Q => ta s G fun x G1 => r x G1 Q
section
variable {X : Cx} {K : PySem.W.Frag} {ta tb : TE} {a b : EE} {r : R2} {o : OD}
theorem le_op (lo : LO K r o) (la : LE K ta a) (lb : LE K tb b) : LE K (tOp r ta tb) (eOp o a b) := fun P s G Q σ H R h rl k => by
  refine la P s G _ σ H _ h rl fun x G1 u H1 s1 w1 r1 h1 => ?_
  refine lb P s G1 _ σ H1 _ h1 (rl.step s1 w1) fun y G2 v H2 s2 w2 r2 h2 => ?_
  exact lo P G2 H2 x y u v Q R h2 w2 (r1.step s2) r2 fun d G3 w H3 s3 w3 r3 q3 => k d G3 w H3 ((s1.trans s2).trans s3) w3 r3 q3
theorem le_un {r : V → Hp → VK → Prop} {o : UD} (lo : LU K r o) (la : LE K ta a) : LE K (tUn r ta) (eUn o a) := fun P s G Q σ H R h rl k => by
  refine la P s G _ σ H _ h rl fun x G1 u H1 s1 w1 r1 h1 => ?_
  exact lo P G1 H1 x u Q R h1 w1 r1 fun d G3 w H3 s3 w3 r3 q3 => k d G3 w H3 (s1.trans s3) w3 r3 q3
theorem LO.or {r r' : R2} {o : OD} (h : ∀ P G H x y u v Q R, o x y G Q → Wo K P G H → Rep K H G P x u → Rep K H G P y v → (∀ d G' w H', Step G H G' H' → Wo K P G' H' → Rep K H' G' P d w → Q d G' → R w H') → r u v H R ∨ r' u v H R) : LO K (fun x y H Q => r x y H Q ∨ r' x y H Q) o :=
  fun P G H x y u v Q R a b c d e => h P G H x y u v Q R a b c d e
end
/-- an index's ways: lists, tuples, the script -/
def lkL (G : Gp) : D → Option (List D)
  | .lst ds => some ds
  | .ref a => match G a with
    | some (.lst ds) => some ds
    | _ => none
  | .scr ns => some (ns.map D.int)
  | _ => none
@[simp] theorem lkL_lst {G : Gp} {ds : List D} : lkL G (.lst ds) = some ds := rfl
@[simp] theorem lkL_ref {G : Gp} {a : Addr} : lkL G (.ref a) = match G a with
    | some (.lst ds) => some ds
    | _ => none := rfl
@[simp] theorem lkL_scr {G : Gp} {ns : List Int} : lkL G (.scr ns) = some (ns.map D.int) := rfl
@[simp] theorem lkL_tup {G : Gp} {ds : List D} : lkL G (.tup ds) = none := rfl
@[simp] theorem lkL_int {G : Gp} {i : Int} : lkL G (.int i) = none := rfl
@[simp] theorem lkL_str {G : Gp} {i : Str} : lkL G (.str i) = none := rfl
@[simp] theorem lkL_non {G : Gp} : lkL G .non = none := rfl
@[simp] theorem lkL_bl {G : Gp} {b : Bool} : lkL G (.bl b) = none := rfl
@[simp] theorem lkL_dct {G : Gp} {k : List Key} {ds : List D} : lkL G (.dct k ds) = none := rfl
section
variable {K : PySem.W.Frag} {P : Addr → Prop} {G : Gp} {H : Hp}
theorem rep_i {i : Int} {v : V} (h : Rep K H G P (.int i) v) : v = .int i := by unfold Rep at h; exact h
theorem rep_b {i : Bool} {v : V} (h : Rep K H G P (.bl i) v) : v = .bl i := by unfold Rep at h; exact h
theorem rep_s {i : Str} {v : V} (h : Rep K H G P (.str i) v) : v = .str i := by unfold Rep at h; exact h
theorem rep_n {v : V} (h : Rep K H G P .non v) : v = .non := by unfold Rep at h; exact h
theorem rep_t {ds : List D} {v : V} (h : Rep K H G P (.tup ds) v) : ∃ a xs, v = .ref a ∧ G a = none ∧ ¬ P a ∧ H a = some (.tup xs) ∧ ds.length ≤ sizeLine ∧ Reps K H G P ds xs := by unfold Rep at h; exact h
theorem rep_l {ds : List D} {v : V} (h : Rep K H G P (.lst ds) v) : ∃ a xs, v = .ref a ∧ G a = none ∧ ¬ P a ∧ H a = some (.lst xs) ∧ ds.length ≤ sizeLine ∧ Reps K H G P ds xs := by unfold Rep at h; exact h
/-- what may be read as a list -/
theorem lk_sq (w : Wo K P G H) {d : D} {v : V} {ds : List D} (h : Rep K H G P d v) (e : lkL G d = some ds) : ∃ a xs, v = .ref a ∧ SqL K H a xs ∧ Reps K H G P ds xs ∧ ds.length ≤ sizeLine := by
  cases d with
  | lst es =>
    cases e
    obtain ⟨a, xs, rfl, g, p, r, z, q⟩ := rep_l h
    exact ⟨a, xs, rfl, SqL.of r, q, z⟩
  | ref a =>
    unfold Rep at h
    obtain ⟨rfl, o, ho⟩ := h
    simp only [lkL, ho] at e
    cases o with
    | lst es =>
      cases e
      obtain ⟨ho', e1, xs, rfl, z, q⟩ := w.own a _ ho
      exact ⟨a, xs, rfl, SqL.of e1, q, z⟩
    | _ => cases e
  | scr ns =>
    cases e
    unfold Rep at h
    obtain ⟨a, rfl, z, q⟩ := h
    exact ⟨a, _, rfl, q.sq, reps_of_ints, by simpa using z⟩
  | _ => cases e
/-- .. that is tracked plainly -/
theorem lk_hp (w : Wo K P G H) {d : D} {v : V} {ds : List D} (h : Rep K H G P d v) (e : lkL G d = some ds) (hs : ∀ ns, d ≠ .scr ns) : ∃ a xs, v = .ref a ∧ H a = some (.lst xs) ∧ Reps K H G P ds xs ∧ ds.length ≤ sizeLine := by
  cases d with
  | lst es =>
    cases e
    obtain ⟨a, xs, rfl, g, p, r, z, q⟩ := rep_l h
    exact ⟨a, xs, rfl, r, q, z⟩
  | ref a =>
    unfold Rep at h
    obtain ⟨rfl, o, ho⟩ := h
    simp only [lkL, ho] at e
    cases o with
    | lst es =>
      cases e
      obtain ⟨ho', e1, xs, rfl, z, q⟩ := w.own a _ ho
      exact ⟨a, xs, rfl, e1, q, z⟩
    | _ => cases e
  | scr ns => exact absurd rfl (hs ns)
  | _ => cases e
end
@[simp] def oI (C : Int → Int → Prop) (g : Int → Int → D) : OD := fun x y G Q => match x, y with
  | .int i, .int j => C i j ∧ Q (g i j) G
  | _, _ => False
@[simp] def oI0 (g : Int → Int → D) : OD := fun x y G Q => match x, y with
  | .int i, .int j => Q (g i j) G
  | _, _ => False
section
variable {K : PySem.W.Frag}
theorem lo_I {C : Int → Int → Prop} {g : Int → Int → V} {g' : Int → Int → D} (hg : ∀ i j H G P, Rep K H G P (g' i j) (g i j)) : LO K (rI C g) (oI C g') := fun P G H x y u v Q R h w rx ry k => by
  unfold oI at h
  split at h
  · rename_i i j
    rw [rep_i rx, rep_i ry]
    exact ⟨i, j, rfl, rfl, h.1, k _ G _ H (Step.refl _ _) w (hg i j H G P) h.2⟩
  · exact h.elim
theorem lo_I0 {g : Int → Int → V} {g' : Int → Int → D} (hg : ∀ i j H G P, Rep K H G P (g' i j) (g i j)) : LO K (rI0 g) (oI0 g') := fun P G H x y u v Q R h w rx ry k => by
  unfold oI0 at h
  split at h
  · rename_i i j
    rw [rep_i rx, rep_i ry]
    exact ⟨i, j, rfl, rfl, k _ G _ H (Step.refl _ _) w (hg i j H G P) h⟩
  · exact h.elim
end
/-- + : ints, texts, lists (a new one, frozen) -/
@[simp] def oAdd : OD := fun x y G Q => match x, y with
  | .int i, .int j => Q (.int (i + j)) G
  | .str i, .str j => i.length + j.length ≤ sizeLine ∧ Q (.str (i ++ j)) G
  | .scr _, _ => False
  | _, .scr _ => False
  | x, y => match lkL G x, lkL G y with
    | some ds, some es => ds.length + es.length ≤ sizeLine ∧ Q (.lst (ds ++ es)) G
    | _, _ => False
def rAddS' : R2 := fun x y H Q => ∃ i j, x = .str i ∧ y = .str j ∧ i.length + j.length ≤ sizeLine ∧ Q (.str (i ++ j)) H
def rAdd3 : R2 := fun x y H Q => (rI0 fun i j => .int (i + j)) x y H Q ∨ rAddS' x y H Q ∨ rCat x y H Q
theorem op_add3 {X : Cx} : OpR X (binaryOp .Add) rAdd3 := op_add.or (op_add_str.or op_cat)
theorem lo_add {K : PySem.W.Frag} : LO K rAdd3 oAdd := fun P G H x y u v Q R h w rx ry k => by
  have lists : ∀ ds es, lkL G x = some ds → lkL G y = some es → (∀ ns, x ≠ .scr ns) → (∀ ns, y ≠ .scr ns) → ds.length + es.length ≤ sizeLine ∧ Q (.lst (ds ++ es)) G → rAdd3 u v H R := fun ds es e1 e2 n1 n2 q => by
    obtain ⟨a, xs, rfl, r1, q1, z1⟩ := lk_hp w rx e1 n1
    obtain ⟨b, ys, rfl, r2, q2, z2⟩ := lk_hp w ry e2 n2
    refine .inr (.inr ⟨a, b, xs, ys, rfl, rfl, r1, r2, by rw [← q1.length, ← q2.length]; exact q.1, fun p hp => ?_⟩)
    have st : Step G H G (upd H p (.lst (xs ++ ys))) := Step.new hp
    obtain ⟨f1, f2⟩ := w.fresh hp
    exact k _ G _ _ st (w.new hp) (rep_lst f1 f2 upd_same (by rw [List.length_append]; exact q.1) ((q1.append q2).step st)) q.2
  unfold oAdd at h
  split at h
  · rw [rep_i rx, rep_i ry]
    exact .inl ⟨_, _, rfl, rfl, k _ G _ H (Step.refl _ _) w rep_int h⟩
  · rw [rep_s rx, rep_s ry]
    exact .inr (.inl ⟨_, _, rfl, rfl, h.1, k _ G _ H (Step.refl _ _) w rep_str h.2⟩)
  · exact h.elim
  · exact h.elim
  · have n3 : ∀ ns, x ≠ .scr ns := by assumption
    have n4 : ∀ ns, y ≠ .scr ns := by assumption
    split at h
    · rename_i ds es e1 e2
      exact lists ds es e1 e2 n3 n4 h
    · exact h.elim
@[simp] def oSub : OD := oI0 fun i j => .int (i - j)
@[simp] def oMul : OD := oI (fun i j => CMul i j) fun i j => .int (i * j)
@[simp] def oMod : OD := oI (fun _ j => 0 < j) fun i j => .int (i % j)
@[simp] def oDivW : OD := oI CDivW fun i j => .int (i / j)
@[simp] def oPow : OD := oI CPow fun i j => .int (i ^ j.toNat)
@[simp] def oLt : OD := oI0 fun i j => .bl (decide (i < j))
@[simp] def oLe : OD := oI0 fun i j => .bl (decide (i ≤ j))
@[simp] def oGt : OD := oI0 fun i j => .bl (decide (j < i))
@[simp] def oGe : OD := oI0 fun i j => .bl (decide (j ≤ i))
@[simp] def oNeg : UD := fun x G Q => match x with
  | .int i => Q (.int (-i)) G
  | _ => False
section
variable {X : Cx} {a b : Expr} {ta tb : TE} {ea eb : EE} {pos : Pos}
theorem j_bin {op : Operator} {r : R2} {o : OD} (ho : OpR X (binaryOp op) r) (lo : LO X.K r o) (ha : JE X a ea) (hb : JE X b eb) : JE X (.BinOp a op b pos) (eOp o ea eb) := ⟨pe_op ho ha.pe hb.pe, le_op lo ha.le hb.le⟩
theorem j_add (ha : JE X a ea) (hb : JE X b eb) : JE X (.BinOp a .Add b pos) (eOp oAdd ea eb) := j_bin op_add3 lo_add ha hb
theorem j_sub (ha : JE X a ea) (hb : JE X b eb) : JE X (.BinOp a .Sub b pos) (eOp oSub ea eb) := j_bin op_sub (lo_I0 fun _ _ _ _ _ => rep_int) ha hb
theorem j_mul (ha : JE X a ea) (hb : JE X b eb) : JE X (.BinOp a .Mult b pos) (eOp oMul ea eb) := j_bin op_mul (lo_I fun _ _ _ _ _ => rep_int) ha hb
theorem j_mod (ha : JE X a ea) (hb : JE X b eb) : JE X (.BinOp a .Mod b pos) (eOp oMod ea eb) := j_bin op_mod (lo_I fun _ _ _ _ _ => rep_int) ha hb
theorem j_div (ha : JE X a ea) (hb : JE X b eb) : JE X (.BinOp a .FloorDiv b pos) (eOp oDivW ea eb) := j_bin op_fdivW (lo_I fun _ _ _ _ _ => rep_int) ha hb
theorem j_pow (ha : JE X a ea) (hb : JE X b eb) : JE X (.BinOp a .Pow b pos) (eOp oPow ea eb) := j_bin op_pow (lo_I fun _ _ _ _ _ => rep_int) ha hb
theorem j_neg (ha : JE X a ea) : JE X (.UnaryOp .USub a pos) (eUn oNeg ea) := ⟨pe_un un_neg ha.pe, le_un (fun P G H x u Q R h w rx k => by
  unfold oNeg at h
  split at h
  · rw [rep_i rx]; exact ⟨_, rfl, k _ G _ H (Step.refl _ _) w rep_int h⟩
  · exact h.elim) ha.le⟩
end
end DL
set_option Elab.async false
set_option linter.all false
set_option maxRecDepth 100000
set_option maxHeartbeats 4000000
namespace DL
open PySem L2
mutual
@[simp] def toPy0 : D → Option PyData
  | .non => some .none
  | .bl b => some (.bool b)
  | .int i => some (.int i)
  | .str x => some (.str x)
  | .lst ds => (toPys0 ds).map .list
  | .tup ds => (toPys0 ds).map .tuple
  | .scr ns => some (.list (ns.map .int))
  | _ => none
@[simp] def toPys0 : List D → Option (List PyData)
  | [] => some []
  | d :: ds => match toPy0 d, toPys0 ds with
    | some a, some r => some (a :: r)
    | _, _ => none
end
mutual
@[simp] def toPy (G : Gp) : D → Option PyData
  | .non => some .none
  | .bl b => some (.bool b)
  | .int i => some (.int i)
  | .str x => some (.str x)
  | .lst ds => (toPys G ds).map .list
  | .tup ds => (toPys G ds).map .tuple
  | .scr ns => some (.list (ns.map .int))
  | .ref a => match G a with
    | some (.lst ds) => (toPys0 ds).map .list
    | _ => none
  | _ => none
@[simp] def toPys (G : Gp) : List D → Option (List PyData)
  | [] => some []
  | d :: ds => match toPy G d, toPys G ds with
    | some a, some r => some (a :: r)
    | _, _ => none
end
section
variable {K : PySem.W.Frag} {P : Addr → Prop} {G : Gp} {H : Hp}
theorem dpAll_ints : ∀ ns : List Int, DpAll K H (ns.map V.int) (ns.map PyData.int)
  | [] => .nil
  | n :: ns => .cons (.int n) (dpAll_ints ns)
theorem opt_map {α β : Type} {f : α → β} {o : Option α} {b : β} (h : o.map f = some b) : ∃ a, o = some a ∧ f a = b := by
  cases o with
  | none => cases h
  | some a => exact ⟨a, rfl, Option.some.inj h⟩
mutual
theorem dp_of0 : ∀ (d : D) {v : V} {p : PyData}, Rep K H G P d v → toPy0 d = some p → Dp K H v p
  | .non, v, p, h, e => by rw [toPy0] at e; cases e; rw [rep_n h]; exact .non
  | .bl b, v, p, h, e => by rw [toPy0] at e; cases e; rw [rep_b h]; exact .bl b
  | .int b, v, p, h, e => by rw [toPy0] at e; cases e; rw [rep_i h]; exact .int b
  | .str b, v, p, h, e => by rw [toPy0] at e; cases e; rw [rep_s h]; exact .str b
  | .lst ds, v, p, h, e => by
    rw [toPy0] at e
    obtain ⟨r, e1, rfl⟩ := opt_map e
    obtain ⟨a, xs, rfl, g, q, r1, z, q1⟩ := rep_l h
    exact .lst (SqL.of r1) (dps_of0 ds q1 e1)
  | .tup ds, v, p, h, e => by
    rw [toPy0] at e
    obtain ⟨r, e1, rfl⟩ := opt_map e
    obtain ⟨a, xs, rfl, g, q, r1, z, q1⟩ := rep_t h
    exact .tup (SqT.of r1) (dps_of0 ds q1 e1)
  | .exc a dd f x, v, p, h, e => by simp [toPy0] at e
  | .scr ns, v, p, h, e => by
    rw [toPy0] at e; cases e
    unfold Rep at h
    obtain ⟨a, rfl, z, q⟩ := h
    exact .lst q.sq (dpAll_ints ns)
  | .ty _, _, _, _, e => by rw [toPy0] at e <;> first | cases e | simp
  | .ref _, _, _, _, e => by rw [toPy0] at e <;> first | cases e | simp
  | .cl _, _, _, _, e => by rw [toPy0] at e <;> first | cases e | simp
  | .dct _ _, _, _, _, e => by rw [toPy0] at e <;> first | cases e | simp
theorem dps_of0 : ∀ (ds : List D) {vs : List V} {ps : List PyData}, Reps K H G P ds vs → toPys0 ds = some ps → DpAll K H vs ps
  | [], vs, ps, h, e => by rw [toPys0] at e; cases e; unfold Reps at h; subst h; exact .nil
  | d :: ds, vs, ps, h, e => by
    rw [toPys0] at e
    unfold Reps at h
    obtain ⟨x, r, rfl, h1, h2⟩ := h
    cases e1 : toPy0 d with
    | none => rw [e1] at e; simp at e
    | some a =>
      cases e2 : toPys0 ds with
      | none => rw [e1, e2] at e; simp at e
      | some q =>
        rw [e1, e2] at e
        cases e
        exact .cons (dp_of0 d h1 e1) (dps_of0 ds h2 e2)
end
mutual
theorem dp_of (w : Wo K P G H) : ∀ (d : D) {v : V} {p : PyData}, Rep K H G P d v → toPy G d = some p → Dp K H v p
  | .non, v, p, h, e => by rw [toPy] at e; cases e; rw [rep_n h]; exact .non
  | .bl b, v, p, h, e => by rw [toPy] at e; cases e; rw [rep_b h]; exact .bl b
  | .int b, v, p, h, e => by rw [toPy] at e; cases e; rw [rep_i h]; exact .int b
  | .str b, v, p, h, e => by rw [toPy] at e; cases e; rw [rep_s h]; exact .str b
  | .lst ds, v, p, h, e => by
    rw [toPy] at e
    obtain ⟨r, e1, rfl⟩ := opt_map e
    obtain ⟨a, xs, rfl, g, q, r1, z, q1⟩ := rep_l h
    exact .lst (SqL.of r1) (dps_of w ds q1 e1)
  | .tup ds, v, p, h, e => by
    rw [toPy] at e
    obtain ⟨r, e1, rfl⟩ := opt_map e
    obtain ⟨a, xs, rfl, g, q, r1, z, q1⟩ := rep_t h
    exact .tup (SqT.of r1) (dps_of w ds q1 e1)
  | .exc a dd f x, v, p, h, e => by simp [toPy] at e
  | .scr ns, v, p, h, e => by
    rw [toPy] at e; cases e
    unfold Rep at h
    obtain ⟨a, rfl, z, q⟩ := h
    exact .lst q.sq (dpAll_ints ns)
  | .ref a, v, p, h, e => by
    rw [toPy] at e
    unfold Rep at h
    obtain ⟨rfl, o, ho⟩ := h
    rw [ho] at e
    cases o with
    | lst ds =>
      obtain ⟨r, e1, rfl⟩ := opt_map e
      obtain ⟨ho', e2, xs, rfl, z, q⟩ := w.own a _ ho
      exact .lst (SqL.of e2) (dps_of0 ds q e1)
    | _ => cases e
  | .ty _, _, _, _, e => by rw [toPy] at e <;> first | cases e | simp
  | .cl _, _, _, _, e => by rw [toPy] at e <;> first | cases e | simp
  | .dct _ _, _, _, _, e => by rw [toPy] at e <;> first | cases e | simp
theorem dps_of (w : Wo K P G H) : ∀ (ds : List D) {vs : List V} {ps : List PyData}, Reps K H G P ds vs → toPys G ds = some ps → DpAll K H vs ps
  | [], vs, ps, h, e => by rw [toPys] at e; cases e; unfold Reps at h; subst h; exact .nil
  | d :: ds, vs, ps, h, e => by
    rw [toPys] at e
    unfold Reps at h
    obtain ⟨x, r, rfl, h1, h2⟩ := h
    cases e1 : toPy G d with
    | none => rw [e1] at e; simp at e
    | some a =>
      cases e2 : toPys G ds with
      | none => rw [e1, e2] at e; simp at e
      | some q =>
        rw [e1, e2] at e
        cases e
        exact .cons (dp_of w d h1 e1) (dps_of w ds h2 e2)
end
end
@[simp] def oEq : OD := fun x y G Q => match toPy G x, toPy G y with
  | some a, some b => SeqAt.shaped a = true ∧ SeqAt.shaped b = true ∧ Q (.bl (PyData.eqv a b)) G
  | _, _ => False
@[simp] def oNe : OD := fun x y G Q => match toPy G x, toPy G y with
  | some a, some b => SeqAt.shaped a = true ∧ SeqAt.shaped b = true ∧ Q (.bl (!PyData.eqv a b)) G
  | _, _ => False
@[simp] def oIsN : OD := fun x y G Q => match y with
  | .non => match x with
    | .non => Q (.bl true) G
    | _ => Q (.bl false) G
  | _ => False
@[simp] def oNotN : OD := fun x y G Q => match y with
  | .non => match x with
    | .non => Q (.bl false) G
    | _ => Q (.bl true) G
  | _ => False
/-- flat data -/
@[simp] def flD : D → Option V
  | .non => some .non
  | .bl b => some (.bl b)
  | .int i => some (.int i)
  | .str x => some (.str x)
  | _ => none
@[simp] def flDs : List D → Option (List V)
  | [] => some []
  | d :: ds => match flD d, flDs ds with
    | some a, some r => some (a :: r)
    | _, _ => none
/-- a list's or a tuple's items -/
def lkQ (G : Gp) : D → Option (List D)
  | .tup ds => some ds
  | d => lkL G d
@[simp] theorem lkQ_lst {G : Gp} {ds : List D} : lkQ G (.lst ds) = some ds := rfl
@[simp] theorem lkQ_tup {G : Gp} {ds : List D} : lkQ G (.tup ds) = some ds := rfl
@[simp] theorem lkQ_ref {G : Gp} {a : Addr} : lkQ G (.ref a) = lkL G (.ref a) := rfl
@[simp] theorem lkQ_scr {G : Gp} {ns : List Int} : lkQ G (.scr ns) = some (ns.map D.int) := rfl
@[simp] theorem lkQ_int {G : Gp} {i : Int} : lkQ G (.int i) = none := rfl
@[simp] theorem lkQ_str {G : Gp} {i : Str} : lkQ G (.str i) = none := rfl
@[simp] theorem lkQ_non {G : Gp} : lkQ G .non = none := rfl
@[simp] theorem lkQ_bl {G : Gp} {b : Bool} : lkQ G (.bl b) = none := rfl
@[simp] theorem lkQ_dct {G : Gp} {k : List Key} {ds : List D} : lkQ G (.dct k ds) = none := rfl
@[simp] def oIn (neg : Bool) : OD := fun x y G Q => match flD x, (lkQ G y).bind flDs with
  | some a, some r => Q (.bl (if neg then !inV a r else inV a r)) G
  | _, _ => False
/-- one sign in a text -/
@[simp] def oInS : OD := fun x y G Q => match x, y with
  | .str a, .str z => (match a.cps.toList with
    | [c] => Q (.bl (decide (c ∈ z.cps.toList))) G
    | _ => False)
  | _, _ => False
@[simp] def oNotInS : OD := fun x y G Q => match x, y with
  | .str a, .str z => (match a.cps.toList with
    | [c] => Q (.bl (!decide (c ∈ z.cps.toList))) G
    | _ => False)
  | _, _ => False
section
variable {K : PySem.W.Frag}
theorem lo_eq : LO K (rEqD K) oEq := fun P G H x y u v Q R h w rx ry k => by
  unfold oEq at h
  split at h
  · rename_i a b e1 e2
    exact ⟨a, b, dp_of w x rx e1, dp_of w y ry e2, h.1, h.2.1, k _ G _ H (Step.refl _ _) w rep_bl h.2.2⟩
  · exact h.elim
theorem lo_ne : LO K (rNeD K) oNe := fun P G H x y u v Q R h w rx ry k => by
  unfold oNe at h
  split at h
  · rename_i a b e1 e2
    exact ⟨a, b, dp_of w x rx e1, dp_of w y ry e2, h.1, h.2.1, k _ G _ H (Step.refl _ _) w rep_bl h.2.2⟩
  · exact h.elim
def rIsN' : R2 := fun x y H Q => y = .non ∧ Q (.bl (decide (x = .non))) H
def rNotN' : R2 := fun x y H Q => y = .non ∧ Q (.bl (!decide (x = .non))) H
theorem rep_nn {P : Addr → Prop} {G : Gp} {H : Hp} {d : D} {v : V} (h : Rep K H G P d v) (n : d ≠ .non) : v ≠ .non := by
  intro e; subst e
  cases d with
  | non => exact n rfl
  | bl b => cases rep_b h
  | int b => cases rep_i h
  | str b => cases rep_s h
  | ty _ => unfold Rep at h; cases h
  | cl _ => unfold Rep at h; cases h
  | exc _ _ _ _ => unfold Rep at h; cases h.1
  | ref _ => unfold Rep at h; cases h.1
  | lst _ => obtain ⟨_, _, e, _⟩ := rep_l h; cases e
  | tup _ => obtain ⟨_, _, e, _⟩ := rep_t h; cases e
  | dct _ _ => unfold Rep at h; obtain ⟨_, _, e, _⟩ := h; cases e
  | scr _ => unfold Rep at h; obtain ⟨_, e, _⟩ := h; cases e
theorem lo_isN : LO K rIsN' oIsN := fun P G H x y u v Q R h w rx ry k => by
  unfold oIsN at h
  split at h
  · refine ⟨rep_n ry, ?_⟩
    split at h
    · rw [rep_n rx]; exact k _ G _ H (Step.refl _ _) w rep_bl h
    · rename_i n
      have e : decide (u = .non) = false := decide_eq_false (rep_nn rx n)
      rw [e]; exact k _ G _ H (Step.refl _ _) w rep_bl h
  · exact h.elim
theorem lo_notN : LO K rNotN' oNotN := fun P G H x y u v Q R h w rx ry k => by
  unfold oNotN at h
  split at h
  · refine ⟨rep_n ry, ?_⟩
    split at h
    · rw [rep_n rx]; exact k _ G _ H (Step.refl _ _) w rep_bl h
    · rename_i n
      have e : decide (u = .non) = false := decide_eq_false (rep_nn rx n)
      rw [e]; exact k _ G _ H (Step.refl _ _) w rep_bl h
  · exact h.elim
theorem rep_fl {P : Addr → Prop} {G : Gp} {H : Hp} {d : D} {v a : V} (h : Rep K H G P d v) (e : flD d = some a) : v = a ∧ flatV a = true := by
  cases d with
  | non => cases e; exact ⟨rep_n h, rfl⟩
  | bl b => cases e; exact ⟨rep_b h, rfl⟩
  | int b => cases e; exact ⟨rep_i h, rfl⟩
  | str b => cases e; exact ⟨rep_s h, rfl⟩
  | _ => cases e
theorem reps_fl {P : Addr → Prop} {G : Gp} {H : Hp} : ∀ {ds : List D} {vs r : List V}, Reps K H G P ds vs → flDs ds = some r → vs = r ∧ r.all flatV = true
  | [], vs, r, h, e => by cases e; unfold Reps at h; exact ⟨h, rfl⟩
  | d :: ds, vs, r, h, e => by
    unfold Reps at h
    obtain ⟨x, xs, rfl, h1, h2⟩ := h
    rw [flDs] at e
    cases e1 : flD d with
    | none => rw [e1] at e; simp at e
    | some a =>
      cases e2 : flDs ds with
      | none => rw [e1, e2] at e; simp at e
      | some q =>
        rw [e1, e2] at e
        cases e
        obtain ⟨rfl, f1⟩ := rep_fl h1 e1
        obtain ⟨rfl, f2⟩ := reps_fl h2 e2
        exact ⟨rfl, by rw [List.all_cons, f1, f2]; rfl⟩
/-- what may be read as a list or a tuple -/
theorem lkQ_sq {P : Addr → Prop} {G : Gp} {H : Hp} (w : Wo K P G H) {d : D} {v : V} {ds : List D} (h : Rep K H G P d v) (e : lkQ G d = some ds) : ∃ a xs, v = .ref a ∧ (SqL K H a xs ∨ SqT K H a xs) ∧ Reps K H G P ds xs ∧ ds.length ≤ sizeLine := by
  by_cases t : ∃ es, d = .tup es
  · obtain ⟨es, rfl⟩ := t
    cases e
    obtain ⟨a, xs, rfl, g, q, r1, z, q1⟩ := rep_t h
    exact ⟨a, xs, rfl, .inr (SqT.of r1), q1, z⟩
  · have e' : lkL G d = some ds := by
      cases d with
      | tup es => exact absurd ⟨es, rfl⟩ t
      | _ => exact e
    obtain ⟨a, xs, rfl, r, q, z⟩ := lk_sq w h e'
    exact ⟨a, xs, rfl, .inl r, q, z⟩
theorem lo_in {neg : Bool} : LO K (rIn K neg) (oIn neg) := fun P G H x y u v Q R h w rx ry k => by
  unfold oIn at h
  split at h
  · rename_i a r e1 e2
    obtain ⟨rfl, f1⟩ := rep_fl rx e1
    cases e3 : lkQ G y with
    | none => rw [e3] at e2; cases e2
    | some ds =>
      rw [e3] at e2
      obtain ⟨b, xs, rfl, s, q, z⟩ := lkQ_sq w ry e3
      obtain ⟨rfl, f2⟩ := reps_fl q e2
      exact ⟨b, _, rfl, s, f1, f2, k _ G _ H (Step.refl _ _) w rep_bl h⟩
  · exact h.elim
end
@[simp] def eT (t : EE) : ET := fun s G Q => t s G fun x G1 => match x with
  | .bl b => Q b G1
  | _ => False
theorem lt_test {K : PySem.W.Frag} {te : TE} {t : EE} (h : LE K te t) : LT K (tTest te) (eT t) := fun P s G Q σ H R q r k => by
  refine h P s G _ σ H _ q r fun d G' v H' st w rp q' => ?_
  cases d with
  | bl b => rw [rep_b rp]; exact ⟨b, rfl, k b G' H' st w q'⟩
  | _ => exact q'.elim
/-- a op b op' c -/
@[simp] def eChain (r r' : OD) (ta tb tc : EE) : EE := fun s G Q => ta s G fun x G1 => tb s G1 fun y G2 => r x y G2 fun z G3 => match z with
  | .bl k => if k = true then tc s G3 fun w G4 => r' y w G4 Q else Q (.bl false) G3
  | _ => False
theorem le_chain {K : PySem.W.Frag} {r r' : R2} {o o' : OD} {ta tb tc : TE} {a b c : EE} (lo : LO K r o) (lo' : LO K r' o') (la : LE K ta a) (lb : LE K tb b) (lc : LE K tc c) : LE K (tChain r r' ta tb tc) (eChain o o' a b c) := fun P s G Q σ H R h rl k => by
  refine la P s G _ σ H _ h rl fun x G1 u H1 s1 w1 r1 h1 => ?_
  refine lb P s G1 _ σ H1 _ h1 (rl.step s1 w1) fun y G2 v H2 s2 w2 r2 h2 => ?_
  refine lo P G2 H2 x y u v _ _ h2 w2 (r1.step s2) r2 fun z G3 vz H3 s3 w3 r3 h3 => ?_
  cases z with
  | bl bz =>
    rw [rep_b r3]
    refine ⟨bz, rfl, ?_⟩
    cases bz with
    | true =>
      refine lc P s G3 _ σ H3 _ h3 (rl.step ((s1.trans s2).trans s3) w3) fun z G4 vz H4 s4 w4 r4 h4 => ?_
      exact lo' P G4 H4 y z v vz Q R h4 w4 ((r2.step s3).step s4) r4 fun d G5 w H5 s5 w5 r5 q5 => k d G5 w H5 ((((s1.trans s2).trans s3).trans s4).trans s5) w5 r5 q5
    | false =>
      exact k _ G3 _ H3 ((s1.trans s2).trans s3) w3 rep_bl h3
  | _ => exact h3.elim
section
variable {X : Cx} {a b c : Expr} {ta tb tc : TE} {ea eb ec : EE} {pos : Pos}
theorem j_cmp {op : CmpOp} {r : R2} {o : OD} (ho : OpR X (compareOp op) r) (lo : LO X.K r o) (ha : JE X a ea) (hb : JE X b eb) (hm : behindInMarks op b = false) : JE X (.Compare a [op] [b] pos) (eOp o ea eb) := ⟨pe_cmpR ho ha.pe hb.pe hm, le_op lo ha.le hb.le⟩
theorem jt_cmp {op : CmpOp} {r : R2} {o : OD} (ho : OpR X (compareOp op) r) (lo : LO X.K r o) (ha : JE X a ea) (hb : JE X b eb) (hm : behindInMarks op b = false) : JT X (.Compare a [op] [b] pos) (eT (eOp o ea eb)) := ⟨pt_cmpR ho ha.pe hb.pe hm, lt_test (le_op lo ha.le hb.le)⟩
theorem j_chain {op op' : CmpOp} {r r' : R2} {o o' : OD} (ho : OpR X (compareOp op) r) (lo : LO X.K r o) (ho' : OpR X (compareOp op') r') (lo' : LO X.K r' o') (ha : JE X a ea) (hb : JE X b eb) (hc : JE X c ec)
    (hm : lastMarks [op, op'] [b, c] = false := by with_unfolding_all rfl) : JE X (.Compare a [op, op'] [b, c] pos) (eChain o o' ea eb ec) := ⟨pe_chain ho ho' ha.pe hb.pe hc.pe hm, le_chain lo lo' ha.le hb.le hc.le⟩
theorem jt_chain {op op' : CmpOp} {r r' : R2} {o o' : OD} (ho : OpR X (compareOp op) r) (lo : LO X.K r o) (ho' : OpR X (compareOp op') r') (lo' : LO X.K r' o') (ha : JE X a ea) (hb : JE X b eb) (hc : JE X c ec)
    (hm : lastMarks [op, op'] [b, c] = false := by with_unfolding_all rfl) : JT X (.Compare a [op, op'] [b, c] pos) (eT (eChain o o' ea eb ec)) := ⟨pt_chain ho ho' ha.pe hb.pe hc.pe hm, lt_test (le_chain lo lo' ha.le hb.le hc.le)⟩
theorem lo_lt {K : PySem.W.Frag} : LO K (rI0 fun i j => .bl (decide (i < j))) oLt := lo_I0 fun _ _ _ _ _ => rep_bl
theorem lo_le {K : PySem.W.Frag} : LO K (rI0 fun i j => .bl (decide (i ≤ j))) oLe := lo_I0 fun _ _ _ _ _ => rep_bl
theorem lo_gt {K : PySem.W.Frag} : LO K (rI0 fun i j => .bl (decide (j < i))) oGt := lo_I0 fun _ _ _ _ _ => rep_bl
end
def truD (G : Gp) : D → Option Bool
  | .non => some false
  | .bl b => some b
  | .int i => some (i != 0)
  | .str y => if y.length ≤ sizeLine then some ((y.length : Int) != 0) else none
  | .tup ds => some (!ds.isEmpty)
  | .lst ds => some (!ds.isEmpty)
  | .ref a => match G a with
    | some (.lst ds) => some (!ds.isEmpty)
    | some (.dct ks _) => some (!ks.isEmpty)
    | _ => none
  | .dct ks _ => some (!ks.isEmpty)
  | _ => none
@[simp] theorem truD_non {G : Gp} : truD G .non = some false := rfl
@[simp] theorem truD_bl {G : Gp} {b : Bool} : truD G (.bl b) = some b := rfl
@[simp] theorem truD_int {G : Gp} {i : Int} : truD G (.int i) = some (i != 0) := rfl
@[simp] theorem truD_str {G : Gp} {y : Str} : truD G (.str y) = if y.length ≤ sizeLine then some ((y.length : Int) != 0) else none := rfl
@[simp] theorem truD_tup {G : Gp} {ds : List D} : truD G (.tup ds) = some (!ds.isEmpty) := rfl
@[simp] theorem truD_lst {G : Gp} {ds : List D} : truD G (.lst ds) = some (!ds.isEmpty) := rfl
@[simp] theorem truD_dct {G : Gp} {ks : List Key} {ds : List D} : truD G (.dct ks ds) = some (!ks.isEmpty) := rfl
@[simp] theorem truD_ref {G : Gp} {a : Addr} : truD G (.ref a) = match G a with
    | some (.lst ds) => some (!ds.isEmpty)
    | some (.dct ks _) => some (!ks.isEmpty)
    | _ => none := rfl
theorem reps_empty {K : PySem.W.Frag} {P : Addr → Prop} {G : Gp} {H : Hp} {ds : List D} {xs : List V} (h : Reps K H G P ds xs) : (!ds.isEmpty) = !xs.isEmpty := by
  have l := h.length
  cases ds <;> cases xs <;> first | rfl | simp at l
theorem zip_empty {ks : List Key} {xs : List V} {n : Nat} (h : ks.length = n) (h2 : n = xs.length) : (!ks.isEmpty) = !(ks.zip xs).isEmpty := by
  cases ks <;> cases xs <;> first | rfl | (simp at h h2; omega)
theorem tru_of {K : PySem.W.Frag} {P : Addr → Prop} {G : Gp} {H : Hp} (w : Wo K P G H) {d : D} {v : V} {b : Bool} (h : Rep K H G P d v) (e : truD G d = some b) : TruV K v H b := by
  cases d with
  | non => cases e; rw [rep_n h]; rfl
  | bl c => cases e; rw [rep_b h]; rfl
  | int c => cases e; rw [rep_i h]; rfl
  | str c =>
    rw [rep_s h]
    simp only [truD] at e
    split at e
    · cases e; rename_i z; exact ⟨z, rfl⟩
    · cases e
  | tup ds =>
    cases e
    obtain ⟨a, xs, rfl, g, q, r1, z, q1⟩ := rep_t h
    exact .inr (.inl ⟨xs, SqT.of r1, reps_empty q1⟩)
  | lst ds =>
    cases e
    obtain ⟨a, xs, rfl, g, q, r1, z, q1⟩ := rep_l h
    exact .inl ⟨xs, SqL.of r1, reps_empty q1⟩
  | ref a =>
    unfold Rep at h
    obtain ⟨rfl, o, ho⟩ := h
    simp only [truD, ho] at e
    obtain ⟨u, e1, r⟩ := w.own a o ho
    cases o with
    | lst ds => cases e; obtain ⟨xs, rfl, z, q⟩ := r; exact .inl ⟨xs, SqL.of e1, reps_empty q⟩
    | dct ks ds => cases e; obtain ⟨xs, rfl, z, q⟩ := r; exact .inr (.inr ⟨_, e1, zip_empty z q.length⟩)
    | _ => cases e
  | dct ks ds =>
    cases e
    unfold Rep at h
    obtain ⟨a, xs, rfl, g, p, r, z, q⟩ := h
    exact .inr (.inr ⟨_, r, zip_empty z q.length⟩)
  | _ => cases e
@[simp] def eTru (t : EE) : ET := fun s G Q => t s G fun x G1 => match truD G1 x with
  | some b => Q b G1
  | none => False
@[simp] def eAndT (ta tb : EE) : EE := fun s G Q => ta s G fun x G1 => match truD G1 x with
  | some k => if k = true then tb s G1 Q else Q x G1
  | none => False
@[simp] def eOrT (ta tb : EE) : EE := fun s G Q => ta s G fun x G1 => match truD G1 x with
  | some k => if k = true then Q x G1 else tb s G1 Q
  | none => False
@[simp] def eNotT (ta : EE) : EE := fun s G Q => ta s G fun x G1 => match truD G1 x with
  | some k => Q (.bl (!k)) G1
  | none => False
@[simp] def eAnd (t u : ET) : ET := fun s G Q => t s G fun c G1 => if c = true then u s G1 Q else Q false G1
@[simp] def eOr (t u : ET) : ET := fun s G Q => t s G fun c G1 => if c = true then Q true G1 else u s G1 Q
@[simp] def eNot (t : ET) : ET := fun s G Q => t s G fun c G1 => Q (!c) G1
@[simp] def eIf (t : ET) (ta tb : EE) : EE := fun s G Q => t s G fun c G1 => if c = true then ta s G1 Q else tb s G1 Q
section
variable {K : PySem.W.Frag} {te tu : TE} {a b : EE} {tt tv : TT} {t u : ET}
theorem lt_tru (h : LE K te a) : LT K (fun σ H Q => te σ H fun x H' => ∃ k, TruV K x H' k ∧ Q k H') (eTru a) := fun P s G Q σ H R q r k => by
  refine h P s G _ σ H _ q r fun d G' v H' st w rp q' => ?_
  cases e : truD G' d with
  | none => rw [e] at q'; exact q'.elim
  | some b => rw [e] at q'; exact ⟨b, tru_of w rp e, k b G' H' st w q'⟩
theorem le_andT (ha : LE K te a) (hb : LE K tu b) : LE K (tAndT K te tu) (eAndT a b) := fun P s G Q σ H R q r k => by
  refine ha P s G _ σ H _ q r fun d G' v H' st w rp q' => ?_
  cases e : truD G' d with
  | none => rw [e] at q'; exact q'.elim
  | some c =>
    rw [e] at q'
    refine ⟨c, tru_of w rp e, ?_⟩
    cases c with
    | true => exact hb P s G' Q σ H' R q' (r.step st w) fun d G2 v H2 s2 w2 r2 q2 => k d G2 v H2 (st.trans s2) w2 r2 q2
    | false => exact k d G' v H' st w rp q'
theorem le_notT (ha : LE K te a) : LE K (tNotT K te) (eNotT a) := fun P s G Q σ H R q r k => by
  refine ha P s G _ σ H _ q r fun d G' v H' st w rp q' => ?_
  cases e : truD G' d with
  | none => rw [e] at q'; exact q'.elim
  | some c => rw [e] at q'; exact ⟨c, tru_of w rp e, k _ G' _ H' st w rep_bl q'⟩
theorem lt_and (ha : LT K tt t) (hb : LT K tv u) : LT K (tAnd tt tv) (eAnd t u) := fun P s G Q σ H R q r k => by
  refine ha P s G _ σ H _ q r fun c G' H' st w q' => ?_
  cases c with
  | true => exact hb P s G' Q σ H' R q' (r.step st w) fun b G2 H2 s2 w2 q2 => k b G2 H2 (st.trans s2) w2 q2
  | false => exact k false G' H' st w q'
theorem lt_or (ha : LT K tt t) (hb : LT K tv u) : LT K (tOr tt tv) (eOr t u) := fun P s G Q σ H R q r k => by
  refine ha P s G _ σ H _ q r fun c G' H' st w q' => ?_
  cases c with
  | false => exact hb P s G' Q σ H' R q' (r.step st w) fun b G2 H2 s2 w2 q2 => k b G2 H2 (st.trans s2) w2 q2
  | true => exact k true G' H' st w q'
theorem lt_not (ha : LT K tt t) : LT K (tNot tt) (eNot t) := fun P s G Q σ H R q r k => ha P s G _ σ H _ q r fun c G' H' st w q' => k _ G' H' st w q'
end
section
variable {X : Cx} {a b c : Expr} {rest : List Expr} {ta tb : TE} {ea eb : EE} {tt tv : TT} {et eu : ET} {pos : Pos}
theorem jt_tru (ha : JE X a ea) (he : ∀ whole, isTrue a X.env whole = (do let v ← whole; standAt a.pos; holding [v] (truthy v)) := by intro _; rfl) : JT X a (eTru ea) := ⟨pt_truth ha.pe he, lt_tru ha.le⟩
theorem JW.jt (h : JW X a et) : JT X a et := ⟨h.pw.pt, h.lt⟩
theorem jw_and1 (ha : JT X a et) : JW X (.BoolOp .And [a] pos) et := ⟨pw_and1 ha.pt, ha.lt⟩
theorem jw_or1 (ha : JT X a et) : JW X (.BoolOp .Or [a] pos) et := ⟨pw_or1 ha.pt, ha.lt⟩
theorem jw_and (ha : JT X a et) (hb : JW X (.BoolOp .And (b :: rest) pos) eu) : JW X (.BoolOp .And (a :: b :: rest) pos) (eAnd et eu) := ⟨pw_and ha.pt hb.pw, lt_and ha.lt hb.lt⟩
theorem jw_or (ha : JT X a et) (hb : JW X (.BoolOp .Or (b :: rest) pos) eu) : JW X (.BoolOp .Or (a :: b :: rest) pos) (eOr et eu) := ⟨pw_or ha.pt hb.pw, lt_or ha.lt hb.lt⟩
theorem jt_not (ha : JT X a et) : JT X (.UnaryOp .Not a pos) (eNot et) := ⟨pt_not ha.pt, lt_not ha.lt⟩
theorem j_one {op} (h : JE X a ea) : JE X (.BoolOp op [a] pos) ea := ⟨pe_one h.pe, h.le⟩
theorem j_and (ha : JE X a ea) (hb : JE X (.BoolOp .And (b :: rest) pos) eb) : JE X (.BoolOp .And (a :: b :: rest) pos) (eAndT ea eb) := ⟨pe_andT ha.pe hb.pe, le_andT ha.le hb.le⟩
theorem j_not (ha : JE X a ea) : JE X (.UnaryOp .Not a pos) (eNotT ea) := ⟨pe_notT ha.pe, le_notT ha.le⟩
end
end DL
set_option Elab.async false
set_option linter.all false
set_option maxRecDepth 100000
set_option maxHeartbeats 4000000
namespace DL
open PySem L2
@[simp] def oIx : OD := fun x y G Q => match y with
  | .int i => (match x with
    | .str z => z.length ≤ sizeLine ∧ (match atI z.cps.toList i with
      | some c => Q (.str ⟨#[c]⟩) G
      | none => False)
    | x => (match lkQ G x with
      | some ds => (match atI ds i with
        | some d => Q d G
        | none => False)
      | none => False))
  | _ => False
section
variable {K : PySem.W.Frag} {P : Addr → Prop} {G : Gp} {H : Hp}
theorem reps_at {ds : List D} {xs : List V} {i : Int} {d : D} (q : Reps K H G P ds xs) (h : atI ds i = some d) : ∃ v, atI xs i = some v ∧ Rep K H G P d v := by
  unfold atI at h ⊢
  rw [← q.length]
  cases e : ixN ds.length i with
  | none => rw [e] at h; cases h
  | some j =>
    rw [e] at h
    obtain ⟨v, e1, e2⟩ := q.get (show ds[j]? = some d from h)
    exact ⟨v, e1, e2⟩
theorem lo_ix : LO K (rIx K) oIx := fun P G H x y u v Q R h w rx ry k => by
  unfold oIx at h
  split at h
  · rename_i i
    rw [rep_i ry]
    split at h
    · rename_i z
      rw [rep_s rx]
      obtain ⟨hz, h⟩ := h
      split at h
      · rename_i c e
        exact .inr (.inr ⟨z, i, c, rfl, rfl, hz, e, k _ G _ H (Step.refl _ _) w rep_str h⟩)
      · exact h.elim
    · split at h
      · rename_i ds e
        split at h
        · rename_i d e2
          obtain ⟨a, xs, rfl, s, q, z⟩ := lkQ_sq w rx e
          obtain ⟨v', e3, r3⟩ := reps_at q e2
          have q' := k _ G _ H (Step.refl _ _) w r3 h
          rcases s with s | s
          · exact .inl ⟨a, xs, i, v', rfl, rfl, s, e3, q'⟩
          · exact .inr (.inl ⟨a, xs, i, v', rfl, rfl, s, e3, q'⟩)
        · exact h.elim
      · exact h.elim
  · exact h.elim
end
abbrev EO := Sd → Gp → (Option Int → Gp → Prop) → Prop
def LPo (K : PySem.W.Frag) (te : TO) (t : EO) : Prop := ∀ (P : Addr → Prop) (s : Sd) (G : Gp) (Q : Option Int → Gp → Prop) (σ : St) (H : Hp) (R : Option Int → Hp → Prop), t s G Q → Rl K P s G σ H →
  (∀ b G' H', Step G H G' H' → Wo K P G' H' → Q b G' → R b H') → te σ H R
def upO (K : PySem.W.Frag) (t : EO) : TO := fun σ H R => ∃ (P : Addr → Prop) (s : Sd) (G : Gp) (Q : Option Int → Gp → Prop), t s G Q ∧ Rl K P s G σ H ∧ ∀ b G' H', Step G H G' H' → Wo K P G' H' → Q b G' → R b H'
inductive JO (X : Cx) (e : Option Expr) (t : EO) : Prop where
  | mk {te : TO} (a : PO X e te) (b : LPo X.K te t) : JO X e t
theorem JO.po {X : Cx} {e : Option Expr} {t : EO} (h : JO X e t) : PO X e (upO X.K t) := by
  obtain ⟨a, b⟩ := h
  exact ⟨fun pins s σ H Q I ⟨P, s', G, Q', h1, h2, h3⟩ => a.run pins s σ H Q I (b P s' G Q' σ H Q h1 h2 h3)⟩
theorem JO.lp {X : Cx} {e : Option Expr} {t : EO} (h : JO X e t) : LPo X.K (upO X.K t) t := fun P s G Q σ H R h1 h2 h3 => ⟨P, s, G, Q, h1, h2, h3⟩
@[simp] def eNoPart : EO := fun _ G Q => Q none G
@[simp] def ePart (t : EE) : EO := fun s G Q => t s G fun x G1 => match x with
  | .int i => Q (some i) G1
  | _ => False
def cutD (xs : List D) (lo hi : Option Int) : List D := (xs.drop (HT.sIx xs.length 0 lo)).take (HT.sIx xs.length xs.length hi - HT.sIx xs.length 0 lo)
theorem cut_reps {K : PySem.W.Frag} {P : Addr → Prop} {G : Gp} {H : Hp} {ds : List D} {xs : List V} {lo hi : Option Int} (q : Reps K H G P ds xs) : Reps K H G P (cutD ds lo hi) (cutV xs lo hi) := by
  unfold cutD cutV
  rw [q.length]
  exact (q.drop _).take _
theorem cutD_length (xs : List D) (lo hi : Option Int) : (cutD xs lo hi).length ≤ xs.length := by
  unfold cutD; rw [List.length_take, List.length_drop]; omega
section
variable {X : Cx} {K : PySem.W.Frag}
theorem jo_none : JO X none eNoPart := ⟨po_none, fun P s G Q σ H R h r k => k _ G H (Step.refl _ _) r.wo h⟩
theorem jo_some {e : Expr} {t : EE} (h : JE X e t) : JO X (some e) (ePart t) := ⟨po_some h.pe, fun P s G Q σ H R q r k => by
  refine h.le P s G _ σ H _ q r fun d G' v H' st w rp q' => ?_
  cases d with
  | int i => rw [rep_i rp]; exact ⟨i, rfl, k _ G' H' st w q'⟩
  | _ => exact q'.elim⟩
/-- a list's slice -/
@[simp] def eSlL (te : EE) (tl th : EO) : EE := fun s G Q => te s G fun x G1 => tl s G1 fun l G2 => th s G2 fun u G3 => match lkL G3 x with
  | some ds => Q (.lst (cutD ds l u)) G3
  | none => False
/-- a tuple's slice that is not the whole -/
@[simp] def eSlT (te : EE) (tl th : EO) : EE := fun s G Q => te s G fun x G1 => tl s G1 fun l G2 => th s G2 fun u G3 => match x with
  | .tup ds => ¬ (HT.sIx ds.length 0 l = 0 ∧ HT.sIx ds.length ds.length u = ds.length) ∧ Q (.tup (cutD ds l u)) G3
  | _ => False
theorem j_slL {e : Expr} {lo hi : Option Expr} {t : EE} {el eh : EO} {pos p2 : Pos} (he : JE X e t) (hl : JO X lo el) (hu : JO X hi eh) : JE X (.Subscript e (.Slice lo hi none p2) pos) (eSlL t el eh) :=
  ⟨pe_slice sl_list he.pe hl.po hu.po, fun P s G Q σ H R h r k => by
    refine he.le P s G _ σ H _ h r fun x G1 u H1 s1 w1 r1 h1 => ?_
    refine hl.lp P s G1 _ σ H1 _ h1 (r.step s1 w1) fun l G2 H2 s2 w2 h2 => ?_
    refine hu.lp P s G2 _ σ H2 _ h2 (r.step (s1.trans s2) w2) fun m G3 H3 s3 w3 h3 => ?_
    have r3 := (r1.step s2).step s3
    cases e : lkL G3 x with
    | none => rw [e] at h3; exact h3.elim
    | some ds =>
      rw [e] at h3
      obtain ⟨a, xs, rfl, s, q, z⟩ := lk_sq w3 r3 e
      refine ⟨a, xs, rfl, s, fun p hp => ?_⟩
      obtain ⟨f1, f2⟩ := w3.fresh hp
      have st : Step G3 H3 G3 (upd H3 p (.lst (cutV xs l m))) := Step.new hp
      exact k _ G3 _ _ (((s1.trans s2).trans s3).trans st) (w3.new hp) (rep_lst f1 f2 upd_same (Nat.le_trans (cutD_length _ _ _) z) ((cut_reps q).step st)) h3⟩
theorem j_slT {e : Expr} {lo hi : Option Expr} {t : EE} {el eh : EO} {pos p2 : Pos} (he : JE X e t) (hl : JO X lo el) (hu : JO X hi eh) : JE X (.Subscript e (.Slice lo hi none p2) pos) (eSlT t el eh) :=
  ⟨pe_slice sl_tup he.pe hl.po hu.po, fun P s G Q σ H R h r k => by
    refine he.le P s G _ σ H _ h r fun x G1 u H1 s1 w1 r1 h1 => ?_
    refine hl.lp P s G1 _ σ H1 _ h1 (r.step s1 w1) fun l G2 H2 s2 w2 h2 => ?_
    refine hu.lp P s G2 _ σ H2 _ h2 (r.step (s1.trans s2) w2) fun m G3 H3 s3 w3 h3 => ?_
    have r3 := (r1.step s2).step s3
    cases x with
    | tup ds =>
      obtain ⟨a, xs, rfl, g, p, rr, z, q⟩ := rep_t r3
      refine ⟨a, xs, rfl, SqT.of rr, by rw [← q.length]; exact h3.1, fun p hp => ?_⟩
      obtain ⟨f1, f2⟩ := w3.fresh hp
      have st : Step G3 H3 G3 (upd H3 p (.tup (cutV xs l m))) := Step.new hp
      exact k _ G3 _ _ (((s1.trans s2).trans s3).trans st) (w3.new hp) (rep_tup f1 f2 upd_same (Nat.le_trans (cutD_length _ _ _) z) ((cut_reps q).step st)) h3.2
    | _ => exact h3.elim⟩
theorem j_ix {a b : Expr} {ea eb : EE} {pos : Pos} (ha : JE X a ea) (hb : JE X b eb) (hs : PlainIx b := by intro _ _; rfl) : JE X (.Subscript a b pos) (eOp oIx ea eb) := ⟨pe_ix ix_seq ha.pe hb.pe hs, le_op lo_ix ha.le hb.le⟩
@[simp] def eNil : EA := fun _ G Q => Q [] G
@[simp] def eCons (ta : EE) (tr : EA) : EA := fun s G Q => ta s G fun x G1 => tr s G1 fun xs G2 => Q (x :: xs) G2
theorem la_nil : LA K 0 tNil eNil := fun P s G Q σ H R h r k => k [] G [] H (Step.refl _ _) r.wo reps_nil rfl h
theorem la_cons {n : Nat} {ta : TE} {tr : TA} {ea : EE} {er : EA} (ha : LE K ta ea) (hr : LA K n tr er) : LA K (n + 1) (tCons ta tr) (eCons ea er) := fun P s G Q σ H R h r k => by
  refine ha P s G _ σ H _ h r fun x G1 u H1 s1 w1 r1 h1 => ?_
  exact hr P s G1 _ σ H1 _ h1 (r.step s1 w1) fun xs G2 us H2 s2 w2 r2 l2 h2 => k _ G2 _ H2 (s1.trans s2) w2 (reps_cons (r1.step s2) r2) (by rw [List.length_cons, l2]) h2
theorem ja_nil : JA X [] eNil := ⟨pa_nil, la_nil⟩
theorem ja_cons {e : Expr} {es : List Expr} {ee : EE} {ea : EA} (ha : JE X e ee) (hr : JA X es ea) (hs : starEach (e :: es) X.env = (false, eval e X.env) :: starEach es X.env := by rfl) : JA X (e :: es) (eCons ee ea) := ⟨pa_cons ha.pe hr.pa hs, la_cons ha.le hr.la⟩
/-- a tuple; a list, frozen; a list, owned -/
@[simp] def eTup (t : EA) : EE := fun s G Q => t s G fun xs G1 => xs.length ≤ sizeLine ∧ Q (.tup xs) G1
@[simp] def eLst (t : EA) : EE := fun s G Q => t s G fun xs G1 => xs.length ≤ sizeLine ∧ Q (.lst xs) G1
@[simp] def eLstO (t : EA) : EE := fun s G Q => t s G fun xs G1 => xs.length ≤ sizeLine ∧ ∀ p, G1 p = none → Q (.ref p) (gput G1 p (.lst xs))
theorem j_tup {es : List Expr} {ea : EA} {x1 : Nat} {pos : Pos} (h : JA X es ea) : JE X (.Tuple es x1 pos) (eTup ea) := ⟨pe_tup h.pa, fun P s G Q σ H R q r k => by
  refine h.la P s G _ σ H _ q r fun xs G1 us H1 s1 w1 r1 _ h1 => ?_
  refine ⟨by rw [← r1.length]; exact h1.1, fun p hp => ?_⟩
  obtain ⟨f1, f2⟩ := w1.fresh hp
  have st : Step G1 H1 G1 (upd H1 p (.tup us)) := Step.new hp
  exact k _ G1 _ _ (s1.trans st) (w1.new hp) (rep_tup f1 f2 upd_same h1.1 (r1.step st)) h1.2⟩
theorem j_lst {es : List Expr} {ea : EA} {pos : Pos} (h : JA X es ea) : JE X (.List es pos) (eLst ea) := ⟨pe_lst h.pa, fun P s G Q σ H R q r k => by
  refine h.la P s G _ σ H _ q r fun xs G1 us H1 s1 w1 r1 _ h1 => ?_
  refine ⟨by rw [← r1.length]; exact h1.1, fun p hp => ?_⟩
  obtain ⟨f1, f2⟩ := w1.fresh hp
  have st : Step G1 H1 G1 (upd H1 p (.lst us)) := Step.new hp
  exact k _ G1 _ _ (s1.trans st) (w1.new hp) (rep_lst f1 f2 upd_same h1.1 (r1.step st)) h1.2⟩
/-- a new owned list -/
theorem own_lst {P : Addr → Prop} {G : Gp} {H : Hp} {ds : List D} {xs : List V} {p : Addr} (w : Wo K P G H) (hp : H p = none) (q : Reps K H G P ds xs) (z : ds.length ≤ sizeLine) : Step G H (gput G p (.lst ds)) (upd H p (.lst xs)) ∧ Wo K P (gput G p (.lst ds)) (upd H p (.lst xs)) ∧ Rep K (upd H p (.lst xs)) (gput G p (.lst ds)) P (.ref p) (.ref p) := by
  have st : Step G H (gput G p (.lst ds)) (upd H p (.lst xs)) := Step.newOwn w hp
  refine ⟨st, w.newOwn hp ⟨xs, rfl, z, q.step st⟩, ?_⟩
  unfold Rep
  exact ⟨rfl, _, gput_same⟩
theorem j_lstO {es : List Expr} {ea : EA} {pos : Pos} (h : JA X es ea) : JE X (.List es pos) (eLstO ea) := ⟨pe_lst h.pa, fun P s G Q σ H R q r k => by
  refine h.la P s G _ σ H _ q r fun xs G1 us H1 s1 w1 r1 _ h1 => ?_
  refine ⟨by rw [← r1.length]; exact h1.1, fun p hp => ?_⟩
  obtain ⟨a, b, c⟩ := own_lst w1 hp r1 h1.1
  exact k _ _ _ _ (s1.trans a) b c (h1.2 p (w1.fresh hp).1)⟩
abbrev CD := List D → Gp → DK → Prop
def LC (K : PySem.W.Frag) (r : List V → Hp → VK → Prop) (c : CD) : Prop := ∀ (P : Addr → Prop) (G : Gp) (H : Hp) (xs : List D) (us : List V) (Q : DK) (R : VK), c xs G Q → Wo K P G H → Reps K H G P xs us →
  (∀ d G' w H', Step G H G' H' → Wo K P G' H' → Rep K H' G' P d w → Q d G' → R w H') → r us H R
@[simp] def eCB (c : CD) (t : EA) : EE := fun s G Q => t s G fun xs G1 => c xs G1 Q
theorem le_cb {n : Nat} {r : List V → Hp → VK → Prop} {c : CD} {t : TA} {ea : EA} (hc : LC K r c) (ha : LA K n t ea) : LE K (tCB r t) (eCB c ea) := fun P s G Q σ H R h rl k => by
  refine ha P s G _ σ H _ h rl fun xs G1 us H1 s1 w1 r1 _ h1 => ?_
  exact hc P G1 H1 xs us Q R h1 w1 r1 fun d G' w H' st w' r' q' => k d G' w H' (s1.trans st) w' r' q'
theorem j_cb {x : Str} {p pos : Pos} {e : Expr} {es : List Expr} {ea : EA} {id : String} {r : List V → Hp → VK → Prop} {c : CD} (hc : CallR X (.builtin id) r) (lc : LC X.K r c) (hg : Gl X x) (hm : X.mg x = none) (hv : bootBuiltins x = some (.builtin id)) (ha : JA X (e :: es) ea)
    (hn : x ≠ "__name__" := by decide) (hdb : (x == ("__debug__" : Str)) = false := by decide) (he : starEach (e :: es) X.env = (false, eval e X.env) :: starEach es X.env := by rfl) (hpl : (backTo pos (starEach es X.env)).any (·.1) = false := by rfl) : JE X (.Call (.Name x p) (e :: es) [] pos) (eCB c ea) :=
  ⟨pe_callB hc hg hm hv ha.pa hn hdb he hpl, le_cb lc ha.la⟩
theorem j_ct {x : Str} {p pos : Pos} {e : Expr} {es : List Expr} {ea : EA} {T : String} {r : List V → Hp → VK → Prop} {c : CD} (hc : CallR X (.type T) r) (lc : LC X.K r c) (hg : Gl X x) (hm : X.mg x = none) (hv : bootBuiltins x = some (.type T)) (ha : JA X (e :: es) ea)
    (hn : x ≠ "__name__" := by decide) (hdb : (x == ("__debug__" : Str)) = false := by decide) (he : starEach (e :: es) X.env = (false, eval e X.env) :: starEach es X.env := by rfl) (hpl : (backTo pos (starEach es X.env)).any (·.1) = false := by rfl) : JE X (.Call (.Name x p) (e :: es) [] pos) (eCB c ea) :=
  ⟨pe_callTy hc hg hm hv ha.pa hn hdb he hpl, le_cb lc ha.la⟩
theorem reps1 {P : Addr → Prop} {G : Gp} {H : Hp} {d : D} {us : List V} (h : Reps K H G P [d] us) : ∃ u, us = [u] ∧ Rep K H G P d u := by
  unfold Reps at h
  obtain ⟨x, r, rfl, h1, h2⟩ := h
  unfold Reps at h2
  subst h2
  exact ⟨x, rfl, h1⟩
theorem reps2 {P : Addr → Prop} {G : Gp} {H : Hp} {d e : D} {us : List V} (h : Reps K H G P [d, e] us) : ∃ u v, us = [u, v] ∧ Rep K H G P d u ∧ Rep K H G P e v := by
  unfold Reps at h
  obtain ⟨x, r, rfl, h1, h2⟩ := h
  obtain ⟨v, rfl, h3⟩ := reps1 h2
  exact ⟨x, v, rfl, h1, h3⟩
/-- len -/
@[simp] def cLen : CD := fun xs G Q => match xs with
  | [.str z] => z.length ≤ sizeLine ∧ Q (.int z.length) G
  | [x] => (match lkQ G x with
    | some ds => Q (.int ds.length) G
    | none => False)
  | _ => False
theorem lc_len : LC K (fun xs H Q => ∃ x n, xs = [x] ∧ LenV K x H n ∧ Q (.int n) H) cLen := fun P G H xs us Q R h w r k => by
  unfold cLen at h
  split at h
  · rename_i z
    obtain ⟨u, rfl, r1⟩ := reps1 r
    rw [rep_s r1]
    exact ⟨_, _, rfl, ⟨h.1, rfl⟩, k _ G _ H (Step.refl _ _) w rep_int h.2⟩
  · rename_i x _
    obtain ⟨u, rfl, r1⟩ := reps1 r
    split at h
    · rename_i ds e
      obtain ⟨a, ys, rfl, s, q, z⟩ := lkQ_sq w r1 e
      refine ⟨_, ys.length, rfl, ?_, k _ G _ H (Step.refl _ _) w rep_int (by rw [← q.length]; exact h)⟩
      rcases s with s | s
      · exact .inl ⟨ys, s, rfl⟩
      · exact .inr ⟨ys, s, rfl⟩
    · exact h.elim
  · exact h.elim
@[simp] def cMax2 : CD := fun xs G Q => match xs with
  | [.int i, .int j] => Q (.int (if j > i then j else i)) G
  | _ => False
@[simp] def cMin2 : CD := fun xs G Q => match xs with
  | [.int i, .int j] => Q (.int (if j < i then j else i)) G
  | _ => False
theorem lc_max2 : LC K (fun xs H Q => ∃ i j, xs = [.int i, .int j] ∧ Q (.int (if j > i then j else i)) H) cMax2 := fun P G H xs us Q R h w r k => by
  unfold cMax2 at h
  split at h
  · obtain ⟨u, v, rfl, r1, r2⟩ := reps2 r
    rw [rep_i r1, rep_i r2]
    exact ⟨_, _, rfl, k _ G _ H (Step.refl _ _) w rep_int h⟩
  · exact h.elim
theorem lc_min2 : LC K (fun xs H Q => ∃ i j, xs = [.int i, .int j] ∧ Q (.int (if j < i then j else i)) H) cMin2 := fun P G H xs us Q R h w r k => by
  unfold cMin2 at h
  split at h
  · obtain ⟨u, v, rfl, r1, r2⟩ := reps2 r
    rw [rep_i r1, rep_i r2]
    exact ⟨_, _, rfl, k _ G _ H (Step.refl _ _) w rep_int h⟩
  · exact h.elim
@[simp] def cInt1 : CD := fun xs G Q => match xs with
  | [.int i] => Q (.int i) G
  | [.bl b] => Q (.int (if b then 1 else 0)) G
  | _ => False
theorem lc_int1 : LC K (fun xs H Q => (∃ i, xs = [.int i] ∧ Q (.int i) H) ∨ ∃ k, xs = [.bl k] ∧ Q (.int (if k then 1 else 0)) H) cInt1 := fun P G H xs us Q R h w r k => by
  unfold cInt1 at h
  split at h
  · obtain ⟨u, rfl, r1⟩ := reps1 r
    rw [rep_i r1]
    exact .inl ⟨_, rfl, k _ G _ H (Step.refl _ _) w rep_int h⟩
  · obtain ⟨u, rfl, r1⟩ := reps1 r
    rw [rep_b r1]
    exact .inr ⟨_, rfl, k _ G _ H (Step.refl _ _) w rep_int h⟩
  · exact h.elim
/-- list(x) of a list or tuple: new, frozen; owned -/
@[simp] def cList : CD := fun xs G Q => match xs with
  | [x] => (match lkQ G x with
    | some ds => Q (.lst ds) G
    | none => False)
  | _ => False
@[simp] def cListO : CD := fun xs G Q => match xs with
  | [x] => (match lkQ G x with
    | some ds => ∀ p, G p = none → Q (.ref p) (gput G p (.lst ds))
    | none => False)
  | _ => False
theorem lc_list : LC K (fun xs H Q => ∃ p ys, xs = [.ref p] ∧ (SqL K H p ys ∨ SqT K H p ys) ∧ ∀ l, H l = none → Q (.ref l) (upd H l (.lst ys))) cList := fun P G H xs us Q R h w r k => by
  unfold cList at h
  split at h
  · obtain ⟨u, rfl, r1⟩ := reps1 r
    split at h
    · rename_i ds e
      obtain ⟨a, ys, rfl, s, q, z⟩ := lkQ_sq w r1 e
      refine ⟨a, ys, rfl, s, fun p hp => ?_⟩
      obtain ⟨f1, f2⟩ := w.fresh hp
      have st : Step G H G (upd H p (.lst ys)) := Step.new hp
      exact k _ G _ _ st (w.new hp) (rep_lst f1 f2 upd_same z (q.step st)) h
    · exact h.elim
  · exact h.elim
/-- ints of a list of data -/
def intsD : List D → Option (List Int)
  | [] => some []
  | .int i :: ds => (intsD ds).map (i :: ·)
  | _ :: _ => none
theorem intsD_map : ∀ ns : List Int, intsD (ns.map D.int) = some ns
  | [] => rfl
  | n :: ns => by rw [List.map_cons, intsD, intsD_map ns]; rfl
theorem intsD_eq : ∀ {ds : List D} {ns : List Int}, intsD ds = some ns → ds = ns.map D.int
  | [], ns, e => by cases e; rfl
  | .int i :: ds, ns, e => by
    rw [intsD] at e
    obtain ⟨r, e1, rfl⟩ := opt_map e
    rw [intsD_eq e1]; rfl
  | .non :: _, _, e => by cases e
  | .bl _ :: _, _, e => by cases e
  | .str _ :: _, _, e => by cases e
  | .ty _ :: _, _, e => by cases e
  | .ref _ :: _, _, e => by cases e
  | .cl _ :: _, _, e => by cases e
  | .lst _ :: _, _, e => by cases e
  | .tup _ :: _, _, e => by cases e
  | .dct _ _ :: _, _, e => by cases e
  | .exc _ _ _ _ :: _, _, e => by cases e
  | .scr _ :: _, _, e => by cases e
@[simp] def cSum : CD := fun xs G Q => match xs with
  | [x] => (match (lkL G x).bind intsD with
    | some ns => Q (.int ns.sum) G
    | none => False)
  | _ => False
theorem lk_ints {P : Addr → Prop} {G : Gp} {H : Hp} (w : Wo K P G H) {x : D} {u : V} {ns : List Int} (r : Rep K H G P x u) (e : (lkL G x).bind intsD = some ns) : ∃ a, u = .ref a ∧ SqL K H a (ns.map V.int) ∧ ns.length ≤ sizeLine := by
  cases e1 : lkL G x with
  | none => rw [e1] at e; cases e
  | some ds =>
    rw [e1] at e
    have e2 := intsD_eq e
    obtain ⟨a, ys, rfl, s, q, z⟩ := lk_sq w r e1
    rw [e2] at q z
    rw [reps_ints q] at s
    exact ⟨a, rfl, s, by simpa using z⟩
theorem lc_sum : LC K (rSum K) cSum := fun P G H xs us Q R h w r k => by
  unfold cSum at h
  split at h
  · obtain ⟨u, rfl, r1⟩ := reps1 r
    split at h
    · rename_i ns e
      obtain ⟨a, rfl, s, z⟩ := lk_ints w r1 e
      exact ⟨a, ns, rfl, s, k _ G _ H (Step.refl _ _) w rep_int h⟩
    · exact h.elim
  · exact h.elim
/-- max, min of a list of ints -/
@[simp] def cMax : CD := fun xs G Q => match xs with
  | [x] => (match (lkL G x).bind intsD with
    | some ns => 0 < ns.length ∧ ∀ m, m ∈ ns → (∀ y, y ∈ ns → y ≤ m) → Q (.int m) G
    | none => False)
  | _ => False
@[simp] def cMin : CD := fun xs G Q => match xs with
  | [x] => (match (lkL G x).bind intsD with
    | some ns => 0 < ns.length ∧ ∀ m, m ∈ ns → (∀ y, y ∈ ns → m ≤ y) → Q (.int m) G
    | none => False)
  | _ => False
theorem lc_max : LC K (rMax K) cMax := fun P G H xs us Q R h w r k => by
  unfold cMax at h
  split at h
  · obtain ⟨u, rfl, r1⟩ := reps1 r
    split at h
    · rename_i ns e
      obtain ⟨a, rfl, s, z⟩ := lk_ints w r1 e
      exact ⟨a, ns, rfl, s, h.1, fun m hm hy => k _ G _ H (Step.refl _ _) w rep_int (h.2 m hm hy)⟩
    · exact h.elim
  · exact h.elim
/-- all, any of a list of truths -/
def blsD : List D → Option (List Bool)
  | [] => some []
  | .bl i :: ds => (blsD ds).map (i :: ·)
  | _ :: _ => none
theorem reps_bls {P : Addr → Prop} {G : Gp} {H : Hp} : ∀ {ds : List D} {bs : List Bool} {us : List V}, Reps K H G P ds us → blsD ds = some bs → us = bs.map V.bl
  | [], bs, us, h, e => by cases e; unfold Reps at h; exact h
  | .bl i :: ds, bs, us, h, e => by
    rw [blsD] at e
    obtain ⟨r, e1, rfl⟩ := opt_map e
    unfold Reps at h
    obtain ⟨x, xs, rfl, h1, h2⟩ := h
    rw [rep_b h1, reps_bls h2 e1]; rfl
  | .non :: _, _, _, _, e => by cases e
  | .int _ :: _, _, _, _, e => by cases e
  | .str _ :: _, _, _, _, e => by cases e
  | .ty _ :: _, _, _, _, e => by cases e
  | .ref _ :: _, _, _, _, e => by cases e
  | .cl _ :: _, _, _, _, e => by cases e
  | .lst _ :: _, _, _, _, e => by cases e
  | .tup _ :: _, _, _, _, e => by cases e
  | .dct _ _ :: _, _, _, _, e => by cases e
  | .exc _ _ _ _ :: _, _, _, _, e => by cases e
  | .scr _ :: _, _, _, _, e => by cases e
@[simp] def cAll : CD := fun xs G Q => match xs with
  | [x] => (match (lkL G x).bind blsD with
    | some ns => Q (.bl (ns.all id)) G
    | none => False)
  | _ => False
@[simp] def cAny : CD := fun xs G Q => match xs with
  | [x] => (match (lkL G x).bind blsD with
    | some ns => Q (.bl (ns.any id)) G
    | none => False)
  | _ => False
theorem lk_bls {P : Addr → Prop} {G : Gp} {H : Hp} (w : Wo K P G H) {x : D} {u : V} {ns : List Bool} (r : Rep K H G P x u) (e : (lkL G x).bind blsD = some ns) : ∃ a, u = .ref a ∧ SqL K H a (ns.map V.bl) := by
  cases e1 : lkL G x with
  | none => rw [e1] at e; cases e
  | some ds =>
    rw [e1] at e
    obtain ⟨a, ys, rfl, s, q, z⟩ := lk_sq w r e1
    rw [reps_bls q e] at s
    exact ⟨a, rfl, s⟩
theorem lc_all : LC K (rAll K) cAll := fun P G H xs us Q R h w r k => by
  unfold cAll at h
  split at h
  · obtain ⟨u, rfl, r1⟩ := reps1 r
    split at h
    · rename_i ns e
      obtain ⟨a, rfl, s⟩ := lk_bls w r1 e
      exact ⟨a, ns, rfl, s, k _ G _ H (Step.refl _ _) w rep_bl h⟩
    · exact h.elim
  · exact h.elim
/-- isinstance(x, T), T a built-in type -/
def tyD (G : Gp) : D → Option String
  | .non => some "NoneType"
  | .bl _ => some "bool"
  | .int _ => some "int"
  | .str _ => some "str"
  | .lst _ => some "list"
  | .tup _ => some "tuple"
  | .dct _ _ => some "dict"
  | .ref a => match G a with
    | some (.lst _) => some "list"
    | some (.dct _ _) => some "dict"
    | _ => none
  | _ => none
@[simp] theorem tyD_non {G : Gp} : tyD G .non = some "NoneType" := rfl
@[simp] theorem tyD_bl {G : Gp} {b : Bool} : tyD G (.bl b) = some "bool" := rfl
@[simp] theorem tyD_int {G : Gp} {i : Int} : tyD G (.int i) = some "int" := rfl
@[simp] theorem tyD_str {G : Gp} {y : Str} : tyD G (.str y) = some "str" := rfl
@[simp] theorem tyD_lst {G : Gp} {ds : List D} : tyD G (.lst ds) = some "list" := rfl
@[simp] theorem tyD_tup {G : Gp} {ds : List D} : tyD G (.tup ds) = some "tuple" := rfl
@[simp] theorem tyD_dct {G : Gp} {ks : List Key} {ds : List D} : tyD G (.dct ks ds) = some "dict" := rfl
@[simp] theorem tyD_ref {G : Gp} {a : Addr} : tyD G (.ref a) = match G a with
    | some (.lst _) => some "list"
    | some (.dct _ _) => some "dict"
    | _ => none := rfl
theorem ty_of {P : Addr → Prop} {G : Gp} {H : Hp} (w : Wo K P G H) {d : D} {v : V} {n : String} (h : Rep K H G P d v) (e : tyD G d = some n) : TyX K H v (.type n) := by
  refine .base ?_
  cases d with
  | non => cases e; rw [rep_n h]; exact .non
  | bl b => cases e; rw [rep_b h]; exact .bl b
  | int b => cases e; rw [rep_i h]; exact .int b
  | str b => cases e; rw [rep_s h]; exact .str b
  | lst ds => cases e; obtain ⟨a, xs, rfl, g, p, r, z, q⟩ := rep_l h; exact .lst r
  | tup ds => cases e; obtain ⟨a, xs, rfl, g, p, r, z, q⟩ := rep_t h; exact .tup r
  | dct ks ds => cases e; unfold Rep at h; obtain ⟨a, xs, rfl, g, p, r, z, q⟩ := h; exact .dK r
  | ref a =>
    unfold Rep at h
    obtain ⟨rfl, o, ho⟩ := h
    simp only [tyD, ho] at e
    obtain ⟨u, e1, r⟩ := w.own a o ho
    cases o with
    | lst ds => cases e; obtain ⟨xs, rfl, z, q⟩ := r; exact .lst e1
    | dct ks ds => cases e; obtain ⟨xs, rfl, z, q⟩ := r; exact .dK e1
    | _ => cases e
  | _ => cases e
@[simp] def cIsi : CD := fun xs G Q => match xs with
  | [x, .ty n] => (match (tyD G x).bind fun m => kitB m n with
    | some b => Q (.bl b) G
    | none => False)
  | _ => False
theorem lc_isi : LC K (rIsi K) cIsi := fun P G H xs us Q R h w r k => by
  unfold cIsi at h
  split at h
  · rename_i x n
    obtain ⟨u, v, rfl, r1, r2⟩ := reps2 r
    have e2 : v = .ty n := by unfold Rep at r2; exact r2
    split at h
    · rename_i b e
      cases e1 : tyD G x with
      | none => rw [e1] at e; cases e
      | some m =>
        rw [e1] at e
        exact ⟨u, v, .type m, .type n, b, rfl, by rw [e2]; exact .ty n, ty_of w r1 e1, kit_ty e, k _ G _ H (Step.refl _ _) w rep_bl h⟩
    · exact h.elim
  · exact h.elim
end
end DL
set_option Elab.async false
set_option linter.all false
set_option maxRecDepth 100000
set_option maxHeartbeats 4000000
namespace DL
open PySem L2
mutual
theorem Rep.prv {K : PySem.W.Frag} {P : Addr → Prop} {G : Gp} {H : Hp} {p : Addr} {o : HO} (hp : P p) (hf : ∀ o' xs, H p ≠ some (.frz o' xs)) : ∀ {d : D} {v : V}, Rep K H G P d v → Rep K (upd H p o) G P d v
  | .non, _, h => by unfold Rep at h ⊢; exact h
  | .bl _, _, h => by unfold Rep at h ⊢; exact h
  | .int _, _, h => by unfold Rep at h ⊢; exact h
  | .str _, _, h => by unfold Rep at h ⊢; exact h
  | .ty _, _, h => by unfold Rep at h ⊢; exact h
  | .cl _, _, h => by unfold Rep at h ⊢; exact h
  | .ref a, _, h => by unfold Rep at h ⊢; exact h
  | .exc a dd f e, _, h => by
    unfold Rep at h ⊢
    obtain ⟨rfl, g, pp, u, r, t⟩ := h
    exact ⟨rfl, g, pp, u, by rw [upd_ne (fun e => by subst e; exact pp hp)]; exact r, Rep.prv hp hf t⟩
  | .scr ns, _, h => by
    unfold Rep at h ⊢
    obtain ⟨a, rfl, z, ⟨⟨o, h⟩, g⟩ | ⟨h, g, pp⟩ | h⟩ := h
    · exact ⟨a, rfl, z, .inl ⟨⟨o, by rw [upd_ne (fun e => by subst e; exact hf _ _ h)]; exact h⟩, g⟩⟩
    · exact ⟨a, rfl, z, .inr (.inl ⟨by rw [upd_ne (fun e => by subst e; exact pp hp)]; exact h, g, pp⟩)⟩
    · exact ⟨a, rfl, z, .inr (.inr h)⟩
  | .lst ds, _, h => by
    unfold Rep at h ⊢
    obtain ⟨a, xs, rfl, g, q, r, z, t⟩ := h
    exact ⟨a, xs, rfl, g, q, by rw [upd_ne (fun e => by subst e; exact q hp)]; exact r, z, Reps.prv hp hf t⟩
  | .tup ds, _, h => by
    unfold Rep at h ⊢
    obtain ⟨a, xs, rfl, g, q, r, z, t⟩ := h
    exact ⟨a, xs, rfl, g, q, by rw [upd_ne (fun e => by subst e; exact q hp)]; exact r, z, Reps.prv hp hf t⟩
  | .dct ks ds, _, h => by
    unfold Rep at h ⊢
    obtain ⟨a, xs, rfl, g, q, r, z, t⟩ := h
    exact ⟨a, xs, rfl, g, q, by rw [upd_ne (fun e => by subst e; exact q hp)]; exact r, z, Reps.prv hp hf t⟩
theorem Reps.prv {K : PySem.W.Frag} {P : Addr → Prop} {G : Gp} {H : Hp} {p : Addr} {o : HO} (hp : P p) (hf : ∀ o' xs, H p ≠ some (.frz o' xs)) : ∀ {ds : List D} {vs : List V}, Reps K H G P ds vs → Reps K (upd H p o) G P ds vs
  | [], _, h => by unfold Reps at h ⊢; exact h
  | d :: ds, _, h => by
    unfold Reps at h ⊢
    obtain ⟨x, r, rfl, h1, h2⟩ := h
    exact ⟨x, r, rfl, Rep.prv hp hf h1, Reps.prv hp hf h2⟩
end
section
variable {K : PySem.W.Frag} {P : Addr → Prop} {G G' : Gp} {H H' : Hp} {p : Addr}
theorem RelO.prv {o : GO} {ho u : HO} (hp : P p) (hf : ∀ o' xs, H p ≠ some (.frz o' xs)) (h : RelO K H G P o ho) : RelO K (upd H p u) G P o ho := by
  cases o with
  | lst ds => obtain ⟨xs, e, z, q⟩ := h; exact ⟨xs, e, z, q.prv hp hf⟩
  | dct ks ds => obtain ⟨xs, e, z, q⟩ := h; exact ⟨xs, e, z, q.prv hp hf⟩
  | ins C dx ks ds => obtain ⟨xs, e, z, q⟩ := h; exact ⟨xs, e, z, q.prv hp hf⟩
  | own x => exact h
  | set S n => exact h
  | gen r ds => obtain ⟨xs, e, z, q⟩ := h; exact ⟨xs, e, z, q.prv hp hf⟩
  | tbl f q a =>
    obtain ⟨ea, ps, e, z, q⟩ := h
    refine ⟨ea, ps, e, z, fun pos cv hc => ?_⟩
    obtain ⟨c, e1, e2, e3, e4⟩ := q pos cv hc
    exact ⟨c, e1, by rw [upd_ne (fun z => e4 (by rw [z]; exact hp))]; exact e2, e3, e4⟩
theorem Wo.prvUpd (w : Wo K P G H) {u : HO} (hp : P p) (hf : ∀ o' xs, H p ≠ some (.frz o' xs)) (nt : ∀ ys, u ≠ .tup ys := by intro _ h; cases h) : Wo K P G (upd H p u) := by
  refine ⟨fun a o e => ?_, fun a q => ?_⟩
  · obtain ⟨ho, e1, r⟩ := w.own a o e
    have ne : a ≠ p := fun z => by subst z; rw [(w.prv a hp).1] at e; cases e
    exact ⟨ho, by rw [upd_ne ne]; exact e1, r.prv hp hf⟩
  · obtain ⟨g, ho, e, n2⟩ := w.prv a q
    by_cases ne : a = p
    · subst ne; exact ⟨g, u, upd_same, nt⟩
    · exact ⟨g, ho, by rw [upd_ne ne]; exact e, n2⟩
/-- what was not there may change -/
theorem Step.out (s : Step G H G' H') {o : HO} (h : H p = none) : Step G H G' (upd H' p o) :=
  ⟨fun a u e g => ⟨by rw [upd_ne (ne_of_none e h)]; exact (s.keep a u e g).1, (s.keep a u e g).2⟩, s.own⟩
/-- one more private address -/
def prvAdd (P : Addr → Prop) (p : Addr) : Addr → Prop := fun a => P a ∨ a = p
theorem Wo.add (w : Wo K P G H) {o : HO} (h : H p = none) (nt : ∀ ys, o ≠ .tup ys := by intro _ h; cases h) : Wo K (prvAdd P p) G (upd H p o) := by
  have w1 := w.new (o := o) h
  obtain ⟨f1, f2⟩ := w.fresh h
  refine ⟨fun a u e => ?_, fun a q => ?_⟩
  · obtain ⟨ho, e1, r⟩ := w.own a u e
    refine ⟨ho, by rw [upd_ne (ne_of_none e1 h)]; exact e1, r.step (Step.new h) fun b hb q => ?_⟩
    rcases q with q | q
    · exact q
    · subst q; obtain ⟨x, e⟩ := hb; rw [h] at e; cases e
  · rcases q with q | q
    · exact w1.prv a q
    · subst q; exact ⟨f1, o, upd_same, nt⟩
theorem Wo.sub (w : Wo K (prvAdd P p) G H) : Wo K P G H :=
  ⟨fun a o e => let ⟨ho, e1, r⟩ := w.own a o e; ⟨ho, e1, r.step (Step.refl _ _) fun _ _ q => .inl q⟩, fun a q => w.prv a (.inl q)⟩
theorem Rep.sub {d : D} {v : V} (h : Rep K H G (prvAdd P p) d v) : Rep K H G P d v := h.mono (Step.refl _ _) fun _ _ q => .inl q
theorem Reps.sub {d : List D} {v : List V} (h : Reps K H G (prvAdd P p) d v) : Reps K H G P d v := h.mono (Step.refl _ _) fun _ _ q => .inl q
end
def Wk (K : PySem.W.Frag) (P : Addr → Prop) (G0 : Gp) (H0 : Hp) (Kp : Gp → Prop) (J : It) (ds : List D) : Prop := ds.length ≤ sizeLine ∧ ∀ (P' : Addr → Prop) (G : Gp) (H : Hp) (i : Nat), (∀ a, (∃ ho, H0 a = some ho) → P' a → P a) → Step G0 H0 G H → Wo K P' G H → Kp G →
  (∀ d, ds[i]? = some d → J.go i H ∧ ∀ x H', J.yld i H x H' → Step G H G H' ∧ Wo K P' G H' ∧ Rep K H' G P' d x) ∧ (ds.length ≤ i → J.stop i H)
abbrev EI := Sd → Gp → (List D → (Gp → Prop) → Gp → Prop) → Prop
def LI (K : PySem.W.Frag) (wi : TI) (t : EI) : Prop := ∀ (P : Addr → Prop) (s : Sd) (G : Gp) (Q : List D → (Gp → Prop) → Gp → Prop) (σ : St) (H : Hp) (R : It → Hp → Prop), t s G Q → Rl K P s G σ H →
  (∀ ds Kp G' J H', Step G H G' H' → Wo K P G' H' → Wk K P G' H' Kp J ds → Q ds Kp G' → R J H') → wi σ H R
def upI (K : PySem.W.Frag) (t : EI) : TI := fun σ H R => ∃ (P : Addr → Prop) (s : Sd) (G : Gp) (Q : List D → (Gp → Prop) → Gp → Prop), t s G Q ∧ Rl K P s G σ H ∧ ∀ ds Kp G' J H', Step G H G' H' → Wo K P G' H' → Wk K P G' H' Kp J ds → Q ds Kp G' → R J H'
inductive JI (X : Cx) (tg iter : Expr) (t : EI) : Prop where
  | mk {wi : TI} (a : PI X tg iter wi) (b : LI X.K wi t) : JI X tg iter t
theorem JI.pi {X : Cx} {tg iter : Expr} {t : EI} (h : JI X tg iter t) : PI X tg iter (upI X.K t) := by
  obtain ⟨a, b⟩ := h
  exact ⟨fun pins s σ H R I ⟨P, s', G, Q', h1, h2, h3⟩ => a.run pins s σ H R I (b P s' G Q' σ H R h1 h2 h3)⟩
theorem JI.li {X : Cx} {tg iter : Expr} {t : EI} (h : JI X tg iter t) : LI X.K (upI X.K t) t := fun P s G Q σ H R h1 h2 h3 => ⟨P, s, G, Q, h1, h2, h3⟩
/-- what must stay of what is walked -/
@[simp] def stays (x : D) (ds : List D) : Gp → Prop := match x with
  | .ref a => fun G => G a = some (.lst ds)
  | _ => fun _ => True
@[simp] def iL (t : EE) : EI := fun s G Q => t s G fun x G1 => match lkL G1 x with
  | some ds => Q ds (stays x ds) G1
  | none => False
/-- a list read now is read later -/
theorem lk_later {K : PySem.W.Frag} {P P' : Addr → Prop} {G0 G : Gp} {H0 H : Hp} {x : D} {a : Addr} {ds : List D} (r0 : Rep K H0 G0 P x (.ref a)) (e : lkL G0 x = some ds) (hP : ∀ a, (∃ ho, H0 a = some ho) → P' a → P a) (st : Step G0 H0 G H) (w : Wo K P' G H) (kp : stays x ds G) :
    ∃ xs, SqL K H a xs ∧ Reps K H G P' ds xs := by
  have r1 := r0.mono st hP
  have e1 : lkL G x = some ds := by
    cases x with
    | ref b => simp only [stays] at kp; simp only [lkL, kp]
    | _ => exact e
  obtain ⟨b, xs, eb, s, q, z⟩ := lk_sq w r1 e1
  cases eb
  exact ⟨xs, s, q⟩
section
variable {X : Cx} {K : PySem.W.Frag} {tg : Expr}
theorem wk_list {P : Addr → Prop} {G0 : Gp} {H0 : Hp} {x : D} {a : Addr} {ds : List D} (w0 : Wo K P G0 H0) (r0 : Rep K H0 G0 P x (.ref a)) (e : lkL G0 x = some ds) : Wk K P G0 H0 (stays x ds) (Itl K a) ds := by
  obtain ⟨b, xs0, eb, s0, q0, z0⟩ := lk_sq w0 r0 e
  refine ⟨z0, fun P' G H i hP st w kp => ?_⟩
  obtain ⟨xs, s, q⟩ := lk_later r0 e hP st w kp
  refine ⟨fun d hd => ?_, fun hi => ⟨xs, s, by rw [← q.length]; exact hi⟩⟩
  obtain ⟨v, e1, r1⟩ := q.get hd
  refine ⟨⟨xs, v, s, e1⟩, fun y H' hy => ?_⟩
  obtain ⟨rfl, f⟩ := hy
  have := f xs s
  rw [e1] at this
  cases this
  exact ⟨Step.refl _ _, w, r1⟩
theorem ji_list {l : Expr} {el : EE} (hl : JE X l el) : JI X tg l (iL el) := ⟨pi_list hl.pe, fun P s G Q σ H R h r k => by
  refine hl.le P s G _ σ H _ h r fun x G1 u H1 s1 w1 r1 h1 => ?_
  cases e : lkL G1 x with
  | none => rw [e] at h1; exact h1.elim
  | some ds =>
    rw [e] at h1
    obtain ⟨a, xs, rfl, s, q, z⟩ := lk_sq w1 r1 e
    exact ⟨a, rfl, ⟨xs, s⟩, k ds _ G1 _ H1 s1 w1 (wk_list w1 r1 e) h1⟩⟩
/-- range -/
def rngD (lo : Int) (n : Nat) : List D := (List.range n).map fun i => .int (lo + (i : Nat))
@[simp] def iR1 (ta : EA) : EI := fun s G Q => ta s G fun xs G1 => match xs with
  | [.int j] => j ≤ 16000000 ∧ -(2 ^ 62) ≤ j ∧ Q (rngD 0 j.toNat) (fun _ => True) G1
  | _ => False
@[simp] def iR2 (ta : EA) : EI := fun s G Q => ta s G fun xs G1 => match xs with
  | [.int i, .int j] => (-16000000 ≤ i ∧ i ≤ 16000000 ∧ -16000000 ≤ j ∧ j ≤ 16000000 ∧ j - i ≤ 16000000) ∧ Q (rngD i (j - i).toNat) (fun _ => True) G1
  | _ => False
theorem rngD_get {lo : Int} {n i : Nat} {d : D} (h : (rngD lo n)[i]? = some d) : i < n ∧ d = .int (lo + (i : Nat)) := by
  unfold rngD at h
  rw [List.getElem?_map] at h
  obtain ⟨j, e1, e2⟩ := opt_map h
  have hi : i < n := by
    rcases Nat.lt_or_ge i n with q | q
    · exact q
    · rw [List.getElem?_eq_none (by simpa using q)] at e1; cases e1
  rw [List.getElem?_range hi] at e1
  cases e1
  exact ⟨hi, e2.symm⟩
theorem rngD_length (lo : Int) (n : Nat) : (rngD lo n).length = n := by unfold rngD; simp
theorem line_ge : 16000000 ≤ sizeLine := by decide
theorem wk_range {P : Addr → Prop} {G0 : Gp} {H0 : Hp} {lo : Int} {n : Nat} (hn : n ≤ 16000000) : Wk K P G0 H0 (fun _ => True) (Itr lo n) (rngD lo n) := by
  refine ⟨by rw [rngD_length]; exact Nat.le_trans hn line_ge, fun P' G H i hP st w _ => ⟨fun d hd => ?_, fun hi => by rw [rngD_length] at hi; exact hi⟩⟩
  obtain ⟨hi, rfl⟩ := rngD_get hd
  refine ⟨hi, fun x H' hy => ?_⟩
  obtain ⟨rfl, rfl⟩ := hy
  exact ⟨Step.refl _ _, w, rep_int⟩
theorem ji_range1 {a : Expr} {ea : EA} {p pos : Pos} (hg : Gl X "range") (hm : X.mg "range" = none) (ha : JA X [a] ea) (hs : starEach [a] X.env = [(false, eval a X.env)] := by rfl) : JI X tg (.Call (.Name "range" p) [a] [] pos) (iR1 ea) :=
  ⟨pi_range1 hg hm ha.pa hs, fun P s G Q σ H R h r k => by
    refine ha.la P s G _ σ H _ h r fun xs G1 us H1 s1 w1 r1 ll h1 => ?_
    clear ll
    split at h1
    · rename_i j
      obtain ⟨u, rfl, r2⟩ := reps1 r1
      rw [rep_i r2]
      obtain ⟨h2, h3, h4⟩ := h1
      refine ⟨j, rfl, h3, by omega, k _ _ G1 _ H1 s1 w1 (wk_range (by omega)) h4⟩
    · exact h1.elim⟩
/-- enumerate(list) -/
def enumD (ds : List D) : List D := (List.range ds.length).zipWith (fun i d => .tup [.int ((i : Nat) : Int), d]) ds
@[simp] def iE (ta : EA) : EI := fun s G Q => ta s G fun xs G1 => match xs with
  | [x] => (match lkL G1 x with
    | some ds => Q (enumD ds) (stays x ds) G1
    | none => False)
  | _ => False
theorem rep_pair {P : Addr → Prop} {G : Gp} {H : Hp} {T : Addr} {d e : D} {x y : V} (w : Wo K P G H) (hT : H T = none) (h1 : Rep K H G P d x) (h2 : Rep K H G P e y) : Step G H G (upd H T (.tup [x, y])) ∧ Wo K P G (upd H T (.tup [x, y])) ∧ Rep K (upd H T (.tup [x, y])) G P (.tup [d, e]) (.ref T) := by
  obtain ⟨f1, f2⟩ := w.fresh hT
  have st : Step G H G (upd H T (.tup [x, y])) := Step.new hT
  exact ⟨st, w.new hT, rep_tup f1 f2 upd_same (show 2 ≤ sizeLine by decide) (reps_cons (h1.step st) (reps_cons (h2.step st) reps_nil))⟩
/-- zip(list, list) -/
@[simp] def iZ (ta : EA) : EI := fun s G Q => ta s G fun xs G1 => match xs with
  | [x, y] => (match lkL G1 x, lkL G1 y with
    | some ds, some es => Q (ds.zipWith (fun d e => .tup [d, e]) es) (fun G => stays x ds G ∧ stays y es G) G1
    | _, _ => False)
  | _ => False
theorem ji_zip {e e2 : Expr} {ea : EA} {p pos tpos : Pos} {elts : List Expr} {kk : Nat} (hg : Gl X "zip") (hm : X.mg "zip" = none) (ha : JA X [e, e2] ea) (hs : starEach [e, e2] X.env = (false, eval e X.env) :: starEach [e2] X.env := by rfl) (hpl : (backTo pos (starEach [e2] X.env)).any (·.1) = false := by rfl) :
    JI X (.Tuple elts kk tpos) (.Call (.Name "zip" p) [e, e2] [] pos) (iZ ea) :=
  ⟨pi_zip hg hm ha.pa hs hpl, fun P s G Q σ H R h r k => by
    refine ha.la P s G _ σ H _ h r fun xs G1 us H1 s1 w1 r1 ll h1 => ?_
    clear ll
    split at h1
    · rename_i x y
      obtain ⟨u, v, rfl, r2, r3⟩ := reps2 r1
      cases e1 : lkL G1 x with
      | none => rw [e1] at h1; exact h1.elim
      | some ds =>
        cases e2 : lkL G1 y with
        | none => rw [e1, e2] at h1; exact h1.elim
        | some es =>
          rw [e1, e2] at h1
          obtain ⟨a, ys, rfl, sa, qa, za⟩ := lk_sq w1 r2 e1
          obtain ⟨b, zs, rfl, sb, qb, zb⟩ := lk_sq w1 r3 e2
          refine ⟨a, b, ys, zs, rfl, sa, sb, k _ _ G1 _ H1 s1 w1 ⟨by rw [List.length_zipWith]; omega, fun P' G H i hP st w kp => ?_⟩ h1⟩
          obtain ⟨as', sa', qa'⟩ := lk_later r2 e1 hP st w kp.1
          obtain ⟨bs', sb', qb'⟩ := lk_later r3 e2 hP st w kp.2
          refine ⟨fun d hd => ?_, fun hi => ⟨as', bs', sa', sb', by rw [← qa'.length, ← qb'.length]; rw [List.length_zipWith] at hi; omega⟩⟩
          rw [List.getElem?_zipWith] at hd
          cases f1 : ds[i]? with
          | none => rw [f1] at hd; cases hd
          | some d1 =>
            cases f2 : es[i]? with
            | none => rw [f1, f2] at hd; cases hd
            | some d2 =>
              rw [f1, f2] at hd
              cases hd
              obtain ⟨v1, g1, p1⟩ := qa'.get f1
              obtain ⟨v2, g2, p2⟩ := qb'.get f2
              refine ⟨⟨as', bs', v1, v2, sa', sb', g1, g2⟩, fun y H' hy => ?_⟩
              obtain ⟨T, y1, y2, rfl, hT, rfl, fa, fb⟩ := hy
              have t1 := fa as' sa'
              have t2 := fb bs' sb'
              rw [g1] at t1
              rw [g2] at t2
              cases t1
              cases t2
              exact rep_pair w hT p1 p2
    · exact h1.elim⟩
/-- a text's signs -/
def sgnD (z : Str) : List D := z.cps.toList.map fun c => .str ⟨#[c]⟩
@[simp] def iS (t : EE) : EI := fun s G Q => t s G fun x G1 => match x with
  | .str z => z.length ≤ sizeLine ∧ Q (sgnD z) (fun _ => True) G1
  | _ => False
end
inductive Tg where
  | nm (i : Nat) | tp (is : List Nat)
def Tg.ix : Tg → List Nat
  | .nm i => [i]
  | .tp is => is
@[simp] def setAll : Sd → List Nat → List D → Option Sd
  | s, [], [] => some s
  | s, i :: is, d :: ds => setAll (s.set i (some d)) is ds
  | _, _, _ => none
@[simp] def asg (t : Tg) (d : D) (s : Sd) : Option Sd := match t with
  | .nm i => some (s.set i (some d))
  | .tp is => match d with
    | .tup ds => setAll s is ds
    | _ => none
def LG (K : PySem.W.Frag) (g : TG) (t : Tg) : Prop := ∀ (P : Addr → Prop) (s s' : Sd) (G : Gp) (σ : St) (H : Hp) (d : D) (v : V) (R : St → Hp → Prop), asg t d s = some s' → Rl K P s G σ H → Rep K H G P d v →
  (∀ σ', Rl K P s' G σ' H → (∀ vs, (∀ i ∈ t.ix, i ∈ vs) → wipe σ' vs = wipe σ vs) → R σ' H) → g v σ H R
def upG (K : PySem.W.Frag) (t : Tg) : TG := fun v σ H R => ∃ (P : Addr → Prop) (s s' : Sd) (G : Gp) (d : D), asg t d s = some s' ∧ Rl K P s G σ H ∧ Rep K H G P d v ∧ ∀ σ', Rl K P s' G σ' H → (∀ vs, (∀ i ∈ t.ix, i ∈ vs) → wipe σ' vs = wipe σ vs) → R σ' H
inductive JG (X : Cx) (tg : Expr) (t : Tg) : Prop where
  | mk {g : TG} (a : PG X tg g) (b : LG X.K g t) : JG X tg t
theorem JG.pg {X : Cx} {tg : Expr} {t : Tg} (h : JG X tg t) : PG X tg (upG X.K t) := by
  obtain ⟨a, b⟩ := h
  exact ⟨fun pins s σ H v u R I r ⟨P, s1, s2, G, d, h1, h2, h3, h4⟩ => a.run pins s σ H v u R I r (b P s1 s2 G σ H d v R h1 h2 h3 h4)⟩
theorem JG.lg {X : Cx} {tg : Expr} {t : Tg} (h : JG X tg t) : LG X.K (upG X.K t) t := fun P s s' G σ H d v R h1 h2 h3 h4 => ⟨P, s, s', G, d, h1, h2, h3, h4⟩
def LGs (K : PySem.W.Frag) (g : TGs) (is : List Nat) : Prop := ∀ (P : Addr → Prop) (s s' : Sd) (G : Gp) (σ : St) (H : Hp) (ds : List D) (vs : List V) (R : St → Hp → Prop), setAll s is ds = some s' → Rl K P s G σ H → Reps K H G P ds vs →
  (∀ σ', Rl K P s' G σ' H → (∀ vs, (∀ i ∈ is, i ∈ vs) → wipe σ' vs = wipe σ vs) → R σ' H) → g vs σ H R
def upGs (K : PySem.W.Frag) (is : List Nat) : TGs := fun vs σ H R => ∃ (P : Addr → Prop) (s s' : Sd) (G : Gp) (ds : List D), setAll s is ds = some s' ∧ Rl K P s G σ H ∧ Reps K H G P ds vs ∧ ∀ σ', Rl K P s' G σ' H → (∀ vs, (∀ i ∈ is, i ∈ vs) → wipe σ' vs = wipe σ vs) → R σ' H
inductive JGs (X : Cx) (tgs : List Expr) (is : List Nat) : Prop where
  | mk {g : TGs} (a : PGs X tgs g) (b : LGs X.K g is) : JGs X tgs is
theorem JGs.pg {X : Cx} {tgs : List Expr} {is : List Nat} (h : JGs X tgs is) : PGs X tgs (upGs X.K is) := by
  obtain ⟨a, b⟩ := h
  exact ⟨fun pins s σ H v u R I r ⟨P, s1, s2, G, d, h1, h2, h3, h4⟩ => a.run pins s σ H v u R I r (b P s1 s2 G σ H d v R h1 h2 h3 h4)⟩
theorem JGs.lg {X : Cx} {tgs : List Expr} {is : List Nat} (h : JGs X tgs is) : LGs X.K (upGs X.K is) is := fun P s s' G σ H d v R h1 h2 h3 h4 => ⟨P, s, s', G, d, h1, h2, h3, h4⟩
theorem wipe_get (σ : St) (j : Nat) : ∀ vs : List Nat, (wipe σ vs)[j]? = if j ∈ vs then (σ[j]?).map (fun _ => none) else σ[j]?
  | [] => by simp [wipe]
  | v :: vs => by
    rw [wipe]
    by_cases h : v = j
    · subst h
      rw [if_pos (List.mem_cons_self)]
      by_cases hl : v < σ.length
      · rw [List.getElem?_set_self (by rw [wipe_length]; exact hl), List.getElem?_eq_getElem hl]; rfl
      · rw [List.getElem?_eq_none (by rw [List.length_set, wipe_length]; omega), List.getElem?_eq_none (by omega)]; rfl
    · rw [List.getElem?_set_ne h, wipe_get σ j vs]
      have e : (j ∈ v :: vs) ↔ j ∈ vs := by simp [Ne.symm h]
      by_cases hj : j ∈ vs
      · rw [if_pos hj, if_pos (e.mpr hj)]
      · rw [if_neg hj, if_neg (fun q => hj (e.mp q))]
theorem wipe_set {σ : St} {vs : List Nat} {i : Nat} {x : Option V} (h : i ∈ vs) : wipe (σ.set i x) vs = wipe σ vs := by
  apply List.ext_getElem?
  intro j
  rw [wipe_get, wipe_get]
  by_cases e : i = j
  · subst e
    rw [if_pos h, if_pos h]
    by_cases hl : i < σ.length
    · rw [List.getElem?_set_self hl, List.getElem?_eq_getElem hl]; rfl
    · rw [List.getElem?_eq_none (by rw [List.length_set]; omega), List.getElem?_eq_none (by omega)]
  · rw [List.getElem?_set_ne e]
theorem wipe_wipe {σ : St} {vs : List Nat} : wipe (wipe σ vs) vs = wipe σ vs := by
  apply List.ext_getElem?
  intro j
  rw [wipe_get, wipe_get]
  by_cases h : j ∈ vs
  · rw [if_pos h, if_pos h]; cases σ[j]? <;> rfl
  · rw [if_neg h, if_neg h]
@[simp] def wipeD (s : Sd) : List Nat → Sd
  | [] => s
  | v :: vs => (wipeD s vs).set v none
theorem wipeD_length (s : Sd) : ∀ vs, (wipeD s vs).length = s.length
  | [] => rfl
  | v :: vs => by rw [wipeD, List.length_set, wipeD_length s vs]
theorem wipeD_some {s : Sd} {i : Nat} {d : D} : ∀ {vs : List Nat}, (wipeD s vs)[i]? = some (some d) → s[i]? = some (some d) ∧ i ∉ vs
  | [], h => ⟨h, by simp⟩
  | v :: vs, h => by
    rw [wipeD] at h
    by_cases e : v = i
    · subst e
      by_cases hl : v < (wipeD s vs).length
      · rw [List.getElem?_set_self hl] at h; cases h
      · rw [List.getElem?_eq_none (by rw [List.length_set]; omega)] at h; cases h
    · rw [List.getElem?_set_ne e] at h
      obtain ⟨h1, h2⟩ := wipeD_some h
      exact ⟨h1, by simp [Ne.symm e, h2]⟩
theorem Rl.wipe {K : PySem.W.Frag} {P : Addr → Prop} {s : Sd} {G : Gp} {σ : St} {H : Hp} (r : Rl K P s G σ H) (vs : List Nat) : Rl K P (wipeD s vs) G (wipe σ vs) H := by
  refine ⟨r.wo, by rw [wipeD_length, wipe_length]; exact r.len, fun i d e => ?_⟩
  obtain ⟨h1, h2⟩ := wipeD_some e
  obtain ⟨v, e1, e2⟩ := r.at_ i d h1
  exact ⟨v, by rw [wipe_get, if_neg h2]; exact e1, e2⟩
section
variable {X : Cx} {K : PySem.W.Frag} {pos : Pos}
theorem lg_nm {i : Nat} : LG K (gName i) (.nm i) := fun P s s' G σ H d v R e r rp k => by
  cases e
  exact k _ (r.set rp) fun vs hv => wipe_set (hv i (by simp [Tg.ix]))
theorem jg_name {i : Nat} {x : Str} (hN : X.N.Nodup) (hi : X.N[i]? = some x) (hx : Loc X.env.scope x) (hf : X.fn x = true ∨ X.env.scope.names.lookup x = some .local := by first | exact .inl rfl | exact .inr rfl | assumption) : JG X (.Name x pos) (.nm i) := ⟨pg_name hN hi hx hf, lg_nm⟩
theorem jgs_nil : JGs X [] [] := ⟨pgs_nil, fun P s s' G σ H ds vs R e r rp k => by
  cases ds with
  | nil =>
    unfold Reps at rp
    subst rp
    cases e
    exact ⟨rfl, k σ r fun _ _ => rfl⟩
  | cons d ds => cases e⟩
theorem jgs_cons {e : Expr} {es : List Expr} {i : Nat} {is : List Nat} (h1 : JG X e (.nm i)) (h2 : JGs X es is) (hs : (assignEach (e :: es) X.env).map (·.2) = assign e X.env :: (assignEach es X.env).map (·.2) := by rfl) : JGs X (e :: es) (i :: is) :=
  ⟨pgs_cons h1.pg h2.pg hs, fun P s s' G σ H ds vs R e r rp k => by
    cases ds with
    | nil => cases e
    | cons d ds =>
      unfold Reps at rp
      obtain ⟨x, xs, rfl, p1, p2⟩ := rp
      refine ⟨x, xs, rfl, ?_⟩
      exact h1.lg P s (s.set i (some d)) G σ H d x _ rfl r p1 fun σ1 r1 w1 => h2.lg P (s.set i (some d)) s' G σ1 H ds xs R e r1 p2 fun σ' r' w' => k σ' r' fun vs hv => (w' vs fun j hj => hv j (List.mem_cons_of_mem _ hj)).trans (w1 vs fun j hj => by
        have : j = i := by simpa [Tg.ix] using hj
        rw [this]; exact hv i List.mem_cons_self)⟩
theorem jg_tup {es : List Expr} {k : Nat} {is : List Nat} {n : Nat} (hc : X.calm = true) (h : JGs X es is) (hl : is.length = n := by rfl) (hn : (assignEach es X.env).length = n := by rfl) (hst : (assignEach es X.env).findIdx? (·.1) = none := by rfl) : JG X (.Tuple es k pos) (.tp is) :=
  ⟨pg_tup hc h.pg hn hst, fun P s s' G σ H d v R e r rp k => by
    cases d with
    | tup ds =>
      obtain ⟨a, xs, rfl, g, p, rr, z, q⟩ := rep_t rp
      have e' : setAll s is ds = some s' := e
      have hlen : ∀ (is : List Nat) (ds : List D) (s s' : Sd), setAll s is ds = some s' → ds.length = is.length := by
        intro is
        induction is with
        | nil => intro ds s s' e; cases ds with
          | nil => rfl
          | cons => cases e
        | cons i is ih => intro ds s s' e; cases ds with
          | nil => cases e
          | cons d ds => rw [List.length_cons, List.length_cons, ih ds _ _ e]
      refine ⟨a, xs, rfl, SqT.of rr, by rw [← q.length, hlen _ _ _ _ e', hl], ?_⟩
      exact h.lg P s s' G σ H ds xs R e' r q k
    | _ => cases e⟩
end
def compW (s0 : Sd) (t : Tg) (tt : ET) (te : EE) (Kp : Gp → Prop) : List D → List D → Gp → (List D → Gp → Prop) → Prop
  | [], acc, G, Q => Kp G ∧ Q acc G
  | d :: ds, acc, G, Q => Kp G ∧ match asg t d s0 with
    | none => False
    | some s => tt s G fun b G1 => if b = true then te s G1 fun y G2 => compW s0 t tt te Kp ds (acc ++ [y]) G2 Q else compW s0 t tt te Kp ds acc G1 Q
@[simp] def eLc (ti : EI) (t : Tg) (tt : ET) (te : EE) (vs : List Nat) : EE := fun s G Q => ti s G fun ds Kp G1 => compW (wipeD s vs) t tt te Kp ds [] G1 fun acc G2 => Q (.lst acc) G2
@[simp] def eLcO (ti : EI) (t : Tg) (tt : ET) (te : EE) (vs : List Nat) : EE := fun s G Q => ti s G fun ds Kp G1 => compW (wipeD s vs) t tt te Kp ds [] G1 fun acc G2 => ∀ p, G2 p = none → Q (.ref p) (gput G2 p (.lst acc))
@[simp] def eYes : ET := fun _ G Q => Q true G
inductive JTs (X : Cx) (ifs : List Expr) (t : ET) : Prop where
  | mk {te : TT} (a : PTs X ifs te) (b : LT X.K te t) : JTs X ifs t
theorem JTs.pt {X : Cx} {ifs : List Expr} {t : ET} (h : JTs X ifs t) : PTs X ifs (upT X.K t) := by
  obtain ⟨a, b⟩ := h
  exact ⟨fun pins s σ H Q I ⟨P, s', G, Q', h1, h2, h3⟩ => a.run pins s σ H Q I (b P s' G Q' σ H Q h1 h2 h3)⟩
theorem JTs.lt {X : Cx} {ifs : List Expr} {t : ET} (h : JTs X ifs t) : LT X.K (upT X.K t) t := fun P s G Q σ H R h1 h2 h3 => ⟨P, s, G, Q, h1, h2, h3⟩
theorem jts_nil {X : Cx} : JTs X [] eYes := ⟨pts_nil, fun P s G Q σ H R h r k => k true G H (Step.refl _ _) r.wo h⟩
theorem jts_one {X : Cx} {c : Expr} {t : ET} (h : JT X c t) : JTs X [c] t := ⟨pts_one h.pt, h.lt⟩
theorem Rl.addP {K : PySem.W.Frag} {P : Addr → Prop} {s : Sd} {G : Gp} {σ : St} {H : Hp} {p : Addr} {o : HO} (r : Rl K P s G σ H) (h : H p = none) (nt : ∀ ys, o ≠ .tup ys := by intro _ h; cases h) : Rl K (prvAdd P p) s G σ (upd H p o) := by
  refine ⟨r.wo.add h nt, r.len, fun i d e => ?_⟩
  obtain ⟨v, e1, e2⟩ := r.at_ i d e
  refine ⟨v, e1, e2.mono (Step.new h) fun b hb q => ?_⟩
  rcases q with q | q
  · exact q
  · subst q; obtain ⟨x, e⟩ := hb; rw [h] at e; cases e
/-- the loop of a comprehension -/
theorem lc_loop {K : PySem.W.Frag} {P : Addr → Prop} {s : Sd} {σ : St} {g : TG} {tt : TT} {te : TE} {t : Tg} {et : ET} {ee : EE} {vs : List Nat} {Kp : Gp → Prop} {J : It} {ds : List D} {G1 : Gp} {H1 : Hp} {Dl : Addr} {Q : List D → Gp → Prop} {R : Hp → Prop}
    (hg : LG K g t) (ht : LT K tt et) (he : LE K te ee) (hv : ∀ i ∈ t.ix, i ∈ vs) (wk : Wk K P G1 H1 Kp J ds) (r : Rl K P s G1 σ H1) (hD : H1 Dl = none) (h : compW (wipeD s vs) t et ee Kp ds [] G1 Q)
    (k : ∀ acc xs G H, Step G1 H1 G H → Wo K (prvAdd P Dl) G H → H Dl = some (.lst xs) → Reps K H G (prvAdd P Dl) acc xs → acc.length ≤ sizeLine → Q acc G → R H) :
    ∃ W : Nat → Nat → Hp → Prop, (∃ m, W 0 m (upd H1 Dl (.lst []))) ∧ ∀ i m H, W i m H → (J.stop i H ∧ R H) ∨ (J.go i H ∧ ∃ Nx : Hp → Prop, (∀ H', Nx H' → ∃ m', m' < m ∧ W (i + 1) m' H') ∧ ∀ x H', J.yld i H x H' → g x (wipe σ vs) H' fun σ2 H2 => wipe σ2 vs = wipe σ vs ∧ tt σ2 H2 fun b H3 =>
      if b = true then te σ2 H3 fun y H4 => ∃ acc, H4 Dl = some (.lst acc) ∧ acc.length < sizeLine ∧ Nx (upd H4 Dl (.lst (acc ++ [y]))) else Nx H3) := by
  obtain ⟨hz, wk⟩ := wk
  have hPP : ∀ a, (∃ ho, H1 a = some ho) → prvAdd P Dl a → P a := fun a ha q => by
    rcases q with q | q
    · exact q
    · subst q; obtain ⟨x, e⟩ := ha; rw [hD] at e; cases e
  let Pp := prvAdd P Dl
  let W : Nat → Nat → Hp → Prop := fun i m H => ∃ G acc xs, Step G1 H1 G H ∧ Wo K Pp G H ∧ H Dl = some (.lst xs) ∧ Reps K H G Pp acc xs ∧ acc.length ≤ i ∧ i ≤ ds.length ∧ m = ds.length - i ∧ compW (wipeD s vs) t et ee Kp (ds.drop i) acc G Q
  have r1 : Rl K Pp s G1 σ (upd H1 Dl (.lst [])) := r.addP hD
  refine ⟨W, ⟨ds.length, G1, [], [], Step.new hD, r1.wo, upd_same, reps_nil, Nat.le_refl _, Nat.zero_le _, rfl, h⟩, fun i m H hW => ?_⟩
  obtain ⟨G, acc, xs, st, w, eD, q, z, hi, rfl, hc⟩ := hW
  have rr : Rl K Pp s G σ H := by
    refine ⟨w, r.len, fun i d e => ?_⟩
    obtain ⟨v, e1, e2⟩ := r.at_ i d e
    exact ⟨v, e1, e2.mono st hPP⟩
  by_cases hlt : i < ds.length
  · have hd : ds[i]? = some ds[i] := List.getElem?_eq_getElem hlt
    have edrop : ds.drop i = ds[i] :: ds.drop (i + 1) := List.drop_eq_getElem_cons hlt
    rw [edrop, compW] at hc
    obtain ⟨kp, hc⟩ := hc
    obtain ⟨go, yl⟩ := (wk Pp G H i hPP st w kp).1 _ hd
    refine .inr ⟨go, fun H' => ∃ G acc xs, Step G1 H1 G H' ∧ Wo K Pp G H' ∧ H' Dl = some (.lst xs) ∧ Reps K H' G Pp acc xs ∧ acc.length ≤ i + 1 ∧ compW (wipeD s vs) t et ee Kp (ds.drop (i + 1)) acc G Q, fun H' hN => ?_, fun x H' hy => ?_⟩
    · obtain ⟨G, acc, xs, a1, a2, a3, a4, a5, a6⟩ := hN
      exact ⟨ds.length - (i + 1), by omega, G, acc, xs, a1, a2, a3, a4, a5, hlt, rfl, a6⟩
    · obtain ⟨s1, w1, rx⟩ := yl x H' hy
      cases ea : asg t ds[i] (wipeD s vs) with
      | none => rw [ea] at hc; exact hc.elim
      | some s' =>
        rw [ea] at hc
        refine hg Pp (wipeD s vs) s' G (wipe σ vs) H' _ x _ ea ((rr.step s1 w1).wipe vs) rx fun σ2 r2 hw => ⟨(hw vs hv).trans wipe_wipe, ?_⟩
        have gD : G Dl = none := (w.prv Dl (.inr rfl)).1
        have eD1 := s1.keep Dl _ eD gD
        refine ht Pp s' G _ σ2 H' _ hc r2 fun b G2 H3 s2 w2 h2 => ?_
        have eD2 := s2.keep Dl _ eD1.1 eD1.2
        cases b with
        | false =>
          exact ⟨G2, acc, xs, (st.trans s1).trans s2, w2, eD2.1, (q.step s1).step s2, Nat.le_succ_of_le z, h2⟩
        | true =>
          refine he Pp s' G2 _ σ2 H3 _ h2 (r2.step s2 w2) fun y G3 v H4 s3 w3 r3 h3 => ?_
          have eD3 := s3.keep Dl _ eD2.1 eD2.2
          have q3 := ((q.step s1).step s2).step s3
          have hf : ∀ o' ys, H4 Dl ≠ some (.frz o' ys) := fun o' ys e => by rw [eD3.1] at e; cases e
          refine ⟨xs, eD3.1, by rw [← q3.length]; omega, G3, acc ++ [y], xs ++ [v], (((st.trans s1).trans s2).trans s3).out hD, w3.prvUpd (.inr rfl) hf, upd_same, ?_, by rw [List.length_append]; simp; omega, h3⟩
          exact (q3.append (reps_cons r3 reps_nil)).prv (.inr rfl) hf
  · have hi2 : ds.length ≤ i := by omega
    have edrop : ds.drop i = [] := List.drop_eq_nil_of_le hi2
    rw [edrop, compW] at hc
    exact .inl ⟨(wk Pp G H i hPP st w hc.1).2 hi2, k acc xs G H st w eD q (by omega) hc.2⟩
section
variable {X : Cx} {elt tg iter : Expr} {ifs : List Expr} {scope : Scope} {own : List (Str × Nat)} {pos : Pos} {wi : TI} {ei : EI} {g : TG} {t : Tg} {tt : TT} {et : ET} {te : TE} {ee : EE}
theorem le_lc {K : PySem.W.Frag} {vs : List Nat} (hi : LI K wi ei) (hg : LG K g t) (ht : LT K tt et) (he : LE K te ee) (hv : ∀ i ∈ t.ix, i ∈ vs) : LE K (tLc wi g tt te vs) (eLc ei t et ee vs) := fun P s G Q σ H R h r k => by
  refine hi P s G _ σ H _ h r fun ds Kp G1 J H1 s1 w1 wk h1 => ?_
  intro Dl hD
  refine lc_loop hg ht he hv wk (r.step s1 w1) hD h1 fun acc xs G2 H2 st w2 eD q z hQ => ?_
  exact k _ G2 _ H2 (s1.trans st) w2.sub (rep_lst (w2.prv Dl (.inr rfl)).1 (fun p => (w1.fresh hD).2 p) eD z q.sub) hQ
theorem j_lc (hc : X.calm = true) (hN : X.N.Nodup) (hi : JI X tg iter ei) (ok : BlkOk X.N X.env.scope scope own) (hg : ∀ (s : Shared) (H : Hp) (C : Addr) (cl : List (Str × Addr)) (fp : List Addr), JG (X.blk s H scope (compEnvC scope cl C X.env) fp) tg t)
    (ht : ∀ (s : Shared) (H : Hp) (C : Addr) (cl : List (Str × Addr)) (fp : List Addr), JTs (X.blk s H scope (compEnvC scope cl C X.env) fp) ifs et) (he : ∀ (s : Shared) (H : Hp) (C : Addr) (cl : List (Str × Addr)) (fp : List Addr), JE (X.blk s H scope (compEnvC scope cl C X.env) fp) elt ee)
    (hv : ∀ i ∈ t.ix, i ∈ own.map (·.2) := by decide) (hs : ∀ x, foldedSetIterable iter X.env x = pure x := by intro _; rfl) : JE X (.ListComp elt [⟨tg, iter, ifs, 0⟩] scope pos) (eLc ei t et ee (own.map (·.2))) :=
  ⟨pe_lc hc hN hi.pi ok (fun s H C cl fp => (hg s H C cl fp).pg) (fun s H C cl fp => (ht s H C cl fp).pt) (fun s H C cl fp => (he s H C cl fp).pe) hs, le_lc hi.li (hg X.s_0 X.H_0 0 [] []).lg (ht X.s_0 X.H_0 0 [] []).lt (he X.s_0 X.H_0 0 [] []).le hv⟩
end
end DL
set_option Elab.async false
set_option linter.all false
set_option maxRecDepth 100000
set_option maxHeartbeats 4000000
namespace DL
open PySem L2
@[simp] def sNext : ES := fun N s G => N.nx s G
def sSeq (t u : ES) : ES := fun N s G => t { N with nx := u N } s G
@[simp] def sBreak : ES := fun N s G => N.bk s G
@[simp] def sCont : ES := fun N s G => N.ct s G
@[simp] def sDrop (te : EE) : ES := fun N s G => te s G fun _ G1 => N.nx s G1
@[simp] def sRet (te : EE) : ES := fun N s G => te s G N.rt
@[simp] def sRetN : ES := fun N _ G => N.rt .non G
@[simp] def sIf (c : ET) (t u : ES) : ES := fun N s G => c s G fun b G1 => if b = true then t N s G1 else u N s G1
@[simp] def sNever : ES := fun _ _ _ => False
@[simp] def sAsg (te : EE) (t : Tg) : ES := fun N s G => te s G fun d G1 => match asg t d s with
  | some s' => N.nx s' G1
  | none => False
/-- one statement, then the rest: what follows is a letter -/
theorem seq_gen {t u : ES} {N : En} {s : Sd} {G : Gp} (h : ∀ W : Sd → Gp → Prop, (∀ s' G', u N s' G' → W s' G') → t { N with nx := W } s G) : sSeq t u N s G := h (u N) fun _ _ x => x
section
variable {X : Cx} {Y : Wx} {K : PySem.W.Frag} {st : Stmt} {rest : List Stmt} {t u : TS} {et eu : ES} {e : Expr} {te : TE} {ee : EE} {pos : Pos}
theorem ls_next : LS K Y tNext sNext := fun P s G N σ H M h r k => k.nx s G σ H (Step.refl _ _) r h
theorem ls_seq (h1 : LS K Y t et) (h2 : LS K Y u eu) : LS K Y (tSeq t u) (sSeq et eu) := fun P s G N σ H M h r k =>
  h1 P s G _ σ H _ h r ⟨fun s' G' σ' H' st r' h' => h2 P s' G' N σ' H' M h' r' (k.step st), k.rt, k.bk, k.ct, k.xr⟩
theorem jss_nil : JSs X Y [] sNext := ⟨pss_nil, ls_next⟩
theorem jss_cons (h1 : JS X Y st et) (h2 : JSs X Y rest eu) : JSs X Y (st :: rest) (sSeq et eu) := ⟨pss_cons h1.ps h2.ps, ls_seq h1.ls h2.ls⟩
theorem jss_one (h1 : JS X Y st et) : JSs X Y [st] et := ⟨pss_one h1.ps, h1.ls⟩
theorem js_expr (he : JE X e ee) (hs : swapsWith e none pos.line X.env = pure false := by rfl) : JS X Y (.Expr e pos) (sDrop ee) := ⟨ps_expr he.pe hs, fun P s G N σ H M h r k => he.le P s G _ σ H _ h r fun d G' v H' st w rp q => k.nx s G' σ H' st (r.step st w) q⟩
theorem js_ret (he : JE X e ee) : JS X Y (.Return (some e) pos) (sRet ee) := ⟨ps_ret he.pe, fun P s G N σ H M h r k => he.le P s G _ σ H _ h r fun d G' v H' st w rp q => k.rt d G' v H' st w rp q⟩
theorem js_if {c : Expr} {a b : List Stmt} {ec : ET} (hc : JT X c ec) (ha : JSs X Y a et) (hb : JSs X Y b eu) : JS X Y (.If c a b pos) (sIf ec et eu) := ⟨ps_if hc.pt ha.ps hb.ps, fun P s G N σ H M h r k => by
  refine hc.lt P s G _ σ H _ h r fun b G' H' st w q => ?_
  cases b with
  | true => exact ha.ls P s G' N σ H' M q (r.step st w) (k.step st)
  | false => exact hb.ls P s G' N σ H' M q (r.step st w) (k.step st)⟩
theorem ls_asg {g : TG} {tg : Tg} (he : LE K te ee) (hg : LG K g tg) : LS K Y (tAsg te g) (sAsg ee tg) := fun P s G N σ H M h r k => by
  refine he P s G _ σ H _ h r fun d G' v H' st w rp q => ?_
  cases ea : asg tg d s with
  | none => rw [ea] at q; exact q.elim
  | some s' =>
    rw [ea] at q
    exact hg P s s' G' σ H' d v _ ea (r.step st w) rp fun σ' r' _ => k.nx s' G' σ' H' st r' q
theorem js_set {i : Nat} {x : Str} {pos' : Pos} (hN : X.N.Nodup) (hi : X.N[i]? = some x) (hx : Loc X.env.scope x) (he : JE X e ee) (hs : swapsWith e (some (.Name x pos')) pos.line X.env = pure false := by rfl)
    (hf : X.fn x = true ∨ X.env.scope.names.lookup x = some .local := by first | exact .inl rfl | exact .inr rfl | assumption) : JS X Y (.Assign [.Name x pos'] e pos) (sAsg ee (.nm i)) := ⟨ps_set hN hi hx he.pe hs hf, ls_asg he.le lg_nm⟩
/-- name = [..] on one line -/
theorem js_setLc {i : Nat} {y : Str} {py : Pos} {elt tg iter : Expr} {ifs : List Expr} {scope : Scope} {own : List (Str × Nat)} {pos spos : Pos} {ei : EI} {t : Tg} {et : ET} {ee : EE} (hc : X.calm = true) (hN : X.N.Nodup) (hy : X.N[i]? = some y) (hyl : X.env.scope.names.lookup y = some .local)
    (hsw : swapsWith (.ListComp elt [⟨tg, iter, ifs, 0⟩] scope pos) (some (.Name y py)) spos.line X.env = pure true) (hi : JI X tg iter ei) (ok : BlkOk X.N X.env.scope scope own)
    (hg : ∀ (s : Shared) (H : Hp) (C : Addr) (cl : List (Str × Addr)) (fp : List Addr), JG (X.blk s H scope (compEnvC scope cl C X.env) fp) tg t) (ht : ∀ (s : Shared) (H : Hp) (C : Addr) (cl : List (Str × Addr)) (fp : List Addr), JTs (X.blk s H scope (compEnvC scope cl C X.env) fp) ifs et)
    (he : ∀ (s : Shared) (H : Hp) (C : Addr) (cl : List (Str × Addr)) (fp : List Addr), JE (X.blk s H scope (compEnvC scope cl C X.env) fp) elt ee) (hv : ∀ i ∈ t.ix, i ∈ own.map (·.2) := by decide) (hs : ∀ x, foldedSetIterable iter X.env x = pure x := by intro _; rfl) :
    JS X Y (.Assign [.Name y py] (.ListComp elt [⟨tg, iter, ifs, 0⟩] scope pos) spos) (sAsg (eLc ei t et ee (own.map (·.2))) (.nm i)) :=
  ⟨ps_setLc hc hN hy hyl hsw hi.pi ok (fun s H C cl fp => (hg s H C cl fp).pg) (fun s H C cl fp => (ht s H C cl fp).pt) (fun s H C cl fp => (he s H C cl fp).pe) hs, ls_asg (le_lc hi.li (hg X.s_0 X.H_0 0 [] []).lg (ht X.s_0 X.H_0 0 [] []).lt (he X.s_0 X.H_0 0 [] []).le hv) lg_nm⟩
/-- a, b = e -/
theorem js_asgT {tg : Expr} {t : Tg} (he : JE X e ee) (hg : JG X tg t) (hp : PS X (.Assign [tg] e pos) (tAsg (upE X.K ee) (upG X.K t))) : JS X Y (.Assign [tg] e pos) (sAsg ee t) := ⟨hp, ls_asg he.le hg.lg⟩
/-- name += e, name -= e -/
@[simp] def sAug (i : Nat) (te : EE) (f : Int → Int → Int) : ES := fun N s G => match s[i]? with
  | some (some (.int a)) => te s G fun y G1 => (match y with
    | .int b => N.nx (s.set i (some (.int (f a b)))) G1
    | _ => False)
  | _ => False
def forW (t : Tg) (tb : ES) (Kp : Gp → Prop) (N : En) : List D → Sd → Gp → Prop
  | [], s, G => Kp G ∧ N.nx s G
  | d :: ds, s, G => Kp G ∧ match asg t d s with
    | some s' => tb { N with nx := forW t tb Kp N ds, ct := forW t tb Kp N ds, bk := N.nx } s' G
    | none => False
@[simp] def sFor (ti : EI) (t : Tg) (tb : ES) : ES := fun N s G => ti s G fun ds Kp G1 => forW t tb Kp N ds s G1
theorem ls_for {wi : TI} {ei : EI} {g : TG} {tg : Tg} {tb : TS} {eb : ES} (hi : LI K wi ei) (hg : LG K g tg) (hb : LS K Y tb eb) : LS K Y (tFor wi g tb) (sFor ei tg eb) := fun P s G N σ H M h r k => by
  refine hi P s G _ σ H _ h r fun ds Kp G1 J H1 s1 w1 wk h1 => ?_
  obtain ⟨hz, wk⟩ := wk
  refine ⟨fun i m σ H => ∃ s G, Step G1 H1 G H ∧ Rl K P s G σ H ∧ i ≤ ds.length ∧ m = ds.length - i ∧ forW tg eb Kp N (ds.drop i) s G, ⟨_, s, G1, Step.refl _ _, r.step s1 w1, Nat.zero_le _, rfl, h1⟩, fun i m σ H hW => ?_⟩
  obtain ⟨s, G, st, rl, hi, rfl, hc⟩ := hW
  by_cases hlt : i < ds.length
  · have hd : ds[i]? = some ds[i] := List.getElem?_eq_getElem hlt
    rw [List.drop_eq_getElem_cons hlt, forW] at hc
    obtain ⟨kp, hc⟩ := hc
    obtain ⟨go, yl⟩ := (wk P G H i (fun _ _ q => q) st rl.wo kp).1 _ hd
    refine .inr ⟨go, fun σ' H' => ∃ s G, Step G1 H1 G H' ∧ Rl K P s G σ' H' ∧ forW tg eb Kp N (ds.drop (i + 1)) s G, fun σ' H' hN => ?_, fun x H' hy => ?_⟩
    · obtain ⟨s, G, a1, a2, a3⟩ := hN
      exact ⟨ds.length - (i + 1), by omega, s, G, a1, a2, hlt, rfl, a3⟩
    · obtain ⟨s2, w2, rx⟩ := yl x H' hy
      cases ea : asg tg ds[i] s with
      | none => rw [ea] at hc; exact hc.elim
      | some s' =>
        rw [ea] at hc
        refine hg P s s' G σ H' _ x _ ea (rl.step s2 w2) rx fun σ2 r2 _ => ?_
        have sA := st.trans s2
        exact hb P s' G _ σ2 H' _ hc r2 ⟨fun a b c d x y z => ⟨a, b, sA.trans x, y, z⟩, fun a b c d x y z w => k.rt a b c d ((s1.trans sA).trans x) y z w, fun a b c d x y z => k.nx a b c d ((s1.trans sA).trans x) y z, fun a b c d x y z => ⟨a, b, sA.trans x, y, z⟩, (k.step (s1.trans sA)).xr⟩
  · have hi2 : ds.length ≤ i := by omega
    rw [List.drop_eq_nil_of_le hi2, forW] at hc
    exact .inl ⟨(wk P G H i (fun _ _ q => q) st rl.wo hc.1).2 hi2, k.nx s G σ H (s1.trans st) rl hc.2⟩
theorem js_for {tg iter : Expr} {body : List Stmt} {ei : EI} {t : Tg} {eb : ES} (hp : PassesOwn (model X.prog X.w) X.A X.env X.xe) (hc : X.calm = true) (hi : JI X tg iter ei) (hg : JG X tg t) (hb : JSs X Y body eb) (hs : ∀ x, foldedSetIterable iter X.env x = pure x := by intro _; rfl) :
    JS X Y (.For tg iter body [] pos) (sFor ei t eb) := ⟨ps_for hp hc hi.pi hg.pg hb.ps hs, ls_for hi.li hg.lg hb.ls⟩
/-- o[i] = e, o an owned list -/
@[simp] def sSetIx (te to ti : EE) : ES := fun N s G => te s G fun v G1 => to s G1 fun o G2 => ti s G2 fun i G3 => match o, i with
  | .ref p, .int k => (match G3 p with
    | some (.lst ds) => (match ixN ds.length k with
      | some j => N.nx s (gput G3 p (.lst (ds.set j v)))
      | none => False)
    | _ => False)
  | _, _ => False
theorem js_setIx {o i : Expr} {eo ei : EE} {p' : Pos} (he : JE X e ee) (ho : JE X o eo) (hi : JE X i ei) (hp : PS X (.Assign [.Subscript o i p'] e pos) (tAsg (upE X.K ee) (gSub (upE X.K eo) (upE X.K ei) rSetL))) : JS X Y (.Assign [.Subscript o i p'] e pos) (sSetIx ee eo ei) :=
  ⟨hp, fun P s G N σ H M h r k => by
    refine he.le P s G _ σ H _ h r fun v G1 u H1 s1 w1 r1 h1 => ?_
    refine ho.le P s G1 _ σ H1 _ h1 (r.step s1 w1) fun od G2 ov H2 s2 w2 r2 h2 => ?_
    refine hi.le P s G2 _ σ H2 _ h2 (r.step (s1.trans s2) w2) fun id G3 iv H3 s3 w3 r3 h3 => ?_
    split at h3
    · rename_i p kk
      split at h3
      · rename_i ds e1
        split at h3
        · rename_i j e2
          have r2' := r2.step s3
          unfold Rep at r2'
          obtain ⟨rfl, _⟩ := r2'
          rw [rep_i r3]
          obtain ⟨ho', e3, xs, rfl, z, q⟩ := w3.own p _ e1
          refine ⟨p, xs, kk, j, rfl, rfl, e3, by rw [← q.length]; exact e2, ?_⟩
          have st : Step G3 H3 (gput G3 p (.lst (ds.set j v))) (upd H3 p (.lst (xs.set j u))) := Step.chg e1
          have sA := (((s1.trans s2).trans s3).trans st)
          have rv := (r1.step s2).step s3
          exact k.nx s _ σ _ sA (r.step sA (w3.chg e1 ⟨_, rfl, by rw [List.length_set]; exact z, (q.set rv j).step st⟩)) h3
        · exact h3.elim
      · exact h3.elim
    · exact h3.elim⟩
/-- methods of built-in types on owned lists, by values -/
abbrev MD := D → List D → Gp → DK → Prop
def LM (K : PySem.W.Frag) (r : V → List V → Hp → VK → Prop) (c : MD) : Prop := ∀ (P : Addr → Prop) (G : Gp) (H : Hp) (x : D) (u : V) (xs : List D) (us : List V) (Q : DK) (R : VK), c x xs G Q → Wo K P G H → Rep K H G P x u → Reps K H G P xs us →
  (∀ d G' w H', Step G H G' H' → Wo K P G' H' → Rep K H' G' P d w → Q d G' → R w H') → r u us H R
@[simp] def isLst (G : Gp) : D → Prop
  | .lst _ => True
  | .ref a => ∃ ds, G a = some (.lst ds)
  | _ => False
/-- o.m(..), o a list -/
@[simp] def eBm (c : MD) (to : EE) (t : EA) : EE := fun s G Q => to s G fun x G1 => isLst G1 x ∧ t s G1 fun xs G2 => c x xs G2 Q
theorem ty_lst {P : Addr → Prop} {G : Gp} {H : Hp} (w : Wo K P G H) {x : D} {u : V} (r : Rep K H G P x u) (h : isLst G x) : tyV K "list" u H := by
  cases x with
  | lst ds => obtain ⟨a, xs, rfl, g, p, rr, z, q⟩ := rep_l r; exact .inl ⟨rfl, xs, SqL.of rr⟩
  | ref a =>
    obtain ⟨ds, e⟩ := h
    unfold Rep at r
    obtain ⟨rfl, _⟩ := r
    obtain ⟨ho, e1, xs, rfl, z, q⟩ := w.own a _ e
    exact .inl ⟨rfl, xs, SqL.of e1⟩
  | _ => exact h.elim
theorem le_bm {n : Nat} {r : V → List V → Hp → VK → Prop} {c : MD} {to : TE} {eo : EE} {t : TA} {ea : EA} (hm : LM K r c) (ho : LE K to eo) (ha : LA K n t ea) : LE K (tBM K "list" r to t) (eBm c eo ea) := fun P s G Q σ H R h rl k => by
  refine ho P s G _ σ H _ h rl fun x G1 u H1 s1 w1 r1 h1 => ?_
  refine ⟨ty_lst w1 r1 h1.1, ?_⟩
  refine ha P s G1 _ σ H1 _ h1.2 (rl.step s1 w1) fun xs G2 us H2 s2 w2 r2 _ h2 => ?_
  exact hm P G2 H2 x u xs us Q R h2 w2 (r1.step s2) r2 fun d G' w H' st w' r' q' => k d G' w H' ((s1.trans s2).trans st) w' r' q'
@[simp] def mApp : MD := fun x xs G Q => match x, xs with
  | .ref p, [y] => (match G p with
    | some (.lst ds) => ds.length < sizeLine ∧ Q .non (gput G p (.lst (ds ++ [y])))
    | _ => False)
  | _, _ => False
theorem lm_app : LM K rAppend mApp := fun P G H x u xs us Q R h w rx rs k => by
  unfold mApp at h
  split at h
  · rename_i p y
    split at h
    · rename_i ds e
      unfold Rep at rx
      obtain ⟨rfl, _⟩ := rx
      obtain ⟨v, rfl, ry⟩ := reps1 rs
      obtain ⟨ho, e1, ys, rfl, z, q⟩ := w.own p _ e
      refine ⟨p, ys, v, rfl, rfl, e1, by rw [← q.length]; exact h.1, ?_⟩
      have st : Step G H (gput G p (.lst (ds ++ [y]))) (upd H p (.lst (ys ++ [v]))) := Step.chg e
      exact k _ _ _ _ st (w.chg e ⟨_, rfl, by rw [List.length_append]; exact h.1, (q.append (reps_cons ry reps_nil)).step st⟩) rep_non h.2
    · exact h.elim
  · exact h.elim
/-- xs.extend(ys) -/
@[simp] def mExt : MD := fun x xs G Q => match x, xs with
  | .ref p, [y] => (match G p, lkL G y with
    | some (.lst ds), some es => (∀ ns, y ≠ .scr ns) ∧ ds.length + es.length ≤ sizeLine ∧ Q .non (gput G p (.lst (ds ++ es)))
    | _, _ => False)
  | _, _ => False
section
variable {o : Expr} {es : List Expr} {to : TE} {eo : EE} {t : TA} {ea : EA} {name : Str} {apos cpos : Pos} {id : String} {r : V → List V → Hp → VK → Prop} {c : MD}
theorem j_bm (pa : PlainAttrs "list") (slot : Slot "list" name id) (hty : typeOf (.builtin id) = pure (.type "method_descriptor")) (hm : MtR X id r) (lm : LM X.K r c) (ho : JE X o eo) (ha : JA X (e :: es) ea) (hbase : attributeBase o name X.env (eval o X.env) = eval o X.env := by rfl)
    (hfew : ((backTo cpos (starEach (e :: es) X.env)).all (fun x => !x.1) && (backToKw cpos (keywordEach [] X.env)).all (fun x => x.1.isSome) && decide ((e :: es).length + ([] : List Keyword).length + (if ([] : List Keyword).isEmpty then 0 else 1) < 30)) = true := by rfl) (hline : (apos.endLine == cpos.line) = true := by rfl)
    (hs : starEach (e :: es) X.env = (false, eval e X.env) :: starEach es X.env := by rfl) (hplain : (backTo cpos (starEach es X.env)).any (·.1) = false := by rfl) : JE X (.Call (.Attribute o name apos) (e :: es) [] cpos) (eBm c eo ea) :=
  ⟨pe_bm pa slot hty hm ho.pe ha.pa hbase hfew hline hs hplain, le_bm lm ho.le ha.la⟩
end
end
end DL
set_option Elab.async false
set_option linter.all false
set_option maxRecDepth 100000
set_option maxHeartbeats 4000000
namespace DL
open PySem PySem.Spec PyProof.Rows L2
abbrev Sf := List D → Gp → DK → Prop
/-- a promise over data, over the heap -/
def Lf (K : PySem.W.Frag) (n : Nat) (f : Sf) : Sp := fun vs H R _ => vs.length = n ∧ ∃ (P : Addr → Prop) (ds : List D) (G : Gp) (Q : DK), Wo K P G H ∧ Reps K H G P ds vs ∧ f ds G Q ∧ ∀ d G' v H', Step G H G' H' → Wo K P G' H' → Rep K H' G' P d v → Q d G' → R v H'
@[simp] def eCall (f : Sf) (t : EA) : EE := fun s G Q => t s G fun ds G1 => f ds G1 Q
section
variable {X : Cx} {K : PySem.W.Frag}
theorem le_call {n : Nat} {f : Sf} {E : XK} {t : TA} {ea : EA} (ha : LA K n t ea) : LE K (tCall (Lf K n f) [] E t) (eCall f ea) := fun P s G Q σ H R h r k => by
  refine ha P s G _ σ H _ h r fun ds G1 vs H1 s1 w1 r1 l1 h1 => ?_
  rw [List.append_nil]
  exact ⟨by rw [← r1.length, l1], P, ds, G1, Q, w1, r1, h1, fun d G' v H' st w rp q => k d G' v H' (s1.trans st) w rp q⟩
abbrev FK (P : Program) (w : World) (K : PySem.W.Frag) (mg : Str → Option Value) (base : Heap) (k : Nat) (f : Addr) (fd : FuncData) (ps : List Str) (F : Sf) : Prop := FnOk P w K mg base CX0 k f fd ps (Lf K ps.length F)
theorem j_call {k : Nat} {f : Addr} {fd : FuncData} {ps : List Str} {F : Sf} {x : Str} {p pos : Pos} {e : Expr} {es : List Expr} {ea : EA} (FF : FK X.prog X.w X.K X.mg X.base k f fd ps F) (hr : Room k X.A) (hg : Gl X x) (hm : X.mg x = some (.ref f)) (hk : PySem.W.keepIn X.K (.ref f) = true) (hb : Binds X.K fd ps [])
    (ha : JA X (e :: es) ea) (hlen : (e :: es).length = ps.length := by rfl) (hdb : (x == ("__debug__" : Str)) = false := by decide) (he : starEach (e :: es) X.env = (false, eval e X.env) :: starEach es X.env := by rfl) (hpl : (backTo pos (starEach es X.env)).any (·.1) = false := by rfl) : JE X (.Call (.Name x p) (e :: es) [] pos) (eCall F ea) :=
  ⟨pe_call FF hr hg hm hk hb .nil pass0 ha.pa hdb he hpl, le_call (t := upA X.K (e :: es).length ea) (hlen ▸ ha.la)⟩
mutual
def RefIn (G : Gp) : D → Prop
  | .ref a => ∃ o, G a = some o
  | .lst ds => RefIns G ds
  | .tup ds => RefIns G ds
  | .dct _ ds => RefIns G ds
  | .exc _ _ _ e => RefIn G e
  | _ => True
def RefIns (G : Gp) : List D → Prop
  | [] => True
  | d :: ds => RefIn G d ∧ RefIns G ds
end
mutual
theorem ref_of {P : Addr → Prop} {G : Gp} {H : Hp} : ∀ {d : D} {v : V}, Rep K H G P d v → RefIn G d
  | .non, _, _ => by simp only [RefIn]
  | .bl _, _, _ => by simp only [RefIn]
  | .int _, _, _ => by simp only [RefIn]
  | .str _, _, _ => by simp only [RefIn]
  | .ty _, _, _ => by simp only [RefIn]
  | .cl _, _, _ => by simp only [RefIn]
  | .exc a dd f e, _, h => by unfold Rep at h; obtain ⟨_, _, _, u, _, q⟩ := h; simp only [RefIn]; exact ref_of q
  | .scr _, _, _ => by simp only [RefIn]
  | .ref a, _, h => by unfold Rep at h; simp only [RefIn]; exact h.2
  | .lst ds, _, h => by obtain ⟨a, xs, rfl, g, p, r, z, q⟩ := rep_l h; simp only [RefIn]; exact refs_of q
  | .tup ds, _, h => by obtain ⟨a, xs, rfl, g, p, r, z, q⟩ := rep_t h; simp only [RefIn]; exact refs_of q
  | .dct ks ds, _, h => by unfold Rep at h; obtain ⟨a, xs, rfl, g, p, r, z, q⟩ := h; simp only [RefIn]; exact refs_of q
theorem refs_of {P : Addr → Prop} {G : Gp} {H : Hp} : ∀ {ds : List D} {vs : List V}, Reps K H G P ds vs → RefIns G ds
  | [], _, _ => by simp only [RefIns]
  | d :: ds, _, h => by
    unfold Reps at h
    obtain ⟨x, r, rfl, h1, h2⟩ := h
    simp only [RefIns]
    exact ⟨ref_of h1, refs_of h2⟩
end
mutual
theorem Rep.less {P : Addr → Prop} {G G2 : Gp} {H : Hp} (h2 : ∀ a, G a = none → G2 a = none) : ∀ {d : D} {v : V}, RefIn G2 d → Rep K H G P d v → Rep K H G2 P d v
  | .non, _, _, h => by unfold Rep at h ⊢; exact h
  | .bl _, _, _, h => by unfold Rep at h ⊢; exact h
  | .int _, _, _, h => by unfold Rep at h ⊢; exact h
  | .str _, _, _, h => by unfold Rep at h ⊢; exact h
  | .ty _, _, _, h => by unfold Rep at h ⊢; exact h
  | .cl _, _, _, h => by unfold Rep at h ⊢; exact h
  | .exc a dd f e, _, q, h => by
    unfold Rep at h ⊢
    simp only [RefIn] at q
    obtain ⟨rfl, g, pp, u, r, t⟩ := h
    exact ⟨rfl, h2 _ g, pp, u, r, Rep.less h2 q t⟩
  | .scr ns, _, _, h => by
    unfold Rep at h ⊢
    obtain ⟨a, rfl, z, ⟨⟨u, h⟩, g⟩ | ⟨h, g, pp⟩ | h⟩ := h
    · exact ⟨a, rfl, z, .inl ⟨⟨u, h⟩, h2 _ g⟩⟩
    · exact ⟨a, rfl, z, .inr (.inl ⟨h, h2 _ g, pp⟩)⟩
    · exact ⟨a, rfl, z, .inr (.inr h)⟩
  | .ref a, _, q, h => by unfold Rep at h ⊢; simp only [RefIn] at q; exact ⟨h.1, q⟩
  | .lst ds, _, q, h => by
    unfold Rep at h ⊢
    simp only [RefIn] at q
    obtain ⟨a, xs, rfl, g, p, r, z, t⟩ := h
    exact ⟨a, xs, rfl, h2 _ g, p, r, z, Reps.less h2 q t⟩
  | .tup ds, _, q, h => by
    unfold Rep at h ⊢
    simp only [RefIn] at q
    obtain ⟨a, xs, rfl, g, p, r, z, t⟩ := h
    exact ⟨a, xs, rfl, h2 _ g, p, r, z, Reps.less h2 q t⟩
  | .dct ks ds, _, q, h => by
    unfold Rep at h ⊢
    simp only [RefIn] at q
    obtain ⟨a, xs, rfl, g, p, r, z, t⟩ := h
    exact ⟨a, xs, rfl, h2 _ g, p, r, z, Reps.less h2 q t⟩
theorem Reps.less {P : Addr → Prop} {G G2 : Gp} {H : Hp} (h2 : ∀ a, G a = none → G2 a = none) : ∀ {ds : List D} {vs : List V}, RefIns G2 ds → Reps K H G P ds vs → Reps K H G2 P ds vs
  | [], _, _, h => by unfold Reps at h ⊢; exact h
  | d :: ds, _, q, h => by
    unfold Reps at h ⊢
    simp only [RefIns] at q
    obtain ⟨x, r, rfl, h1, h3⟩ := h
    exact ⟨x, r, rfl, Rep.less h2 q.1 h1, Reps.less h2 q.2 h3⟩
end
def RefO (G : Gp) : GO → Prop
  | .lst ds => RefIns G ds
  | .dct _ ds => RefIns G ds
  | .ins _ _ _ ds => RefIns G ds
  | .gen _ ds => RefIns G ds
  | _ => True
theorem RelO.less {P : Addr → Prop} {G G2 : Gp} {H : Hp} {o : GO} {ho : HO} (h2 : ∀ a, G a = none → G2 a = none) (q : RefO G2 o) (h : RelO K H G P o ho) : RelO K H G2 P o ho := by
  cases o with
  | lst ds => obtain ⟨xs, e, z, t⟩ := h; exact ⟨xs, e, z, t.less h2 q⟩
  | dct ks ds => obtain ⟨xs, e, z, t⟩ := h; exact ⟨xs, e, z, t.less h2 q⟩
  | ins C dx ks ds => obtain ⟨xs, e, z, t⟩ := h; exact ⟨xs, e, z, t.less h2 q⟩
  | own x => exact h
  | set S n => exact h
  | gen r ds => obtain ⟨xs, e, z, t⟩ := h; exact ⟨xs, e, z, t.less h2 q⟩
  | tbl f q a =>
    obtain ⟨ea, ps, e, z, q⟩ := h
    refine ⟨ea, ps, e, z, fun pos cv hc => ?_⟩
    obtain ⟨c, e1, e2, e3, e4⟩ := q pos cv hc
    exact ⟨c, e1, e2, h2 _ e3, e4⟩
theorem refO_of {P : Addr → Prop} {G : Gp} {H : Hp} {o : GO} {ho : HO} (h : RelO K H G P o ho) : RefO G o := by
  cases o with
  | lst ds => obtain ⟨xs, e, z, t⟩ := h; exact refs_of t
  | dct ks ds => obtain ⟨xs, e, z, t⟩ := h; exact refs_of t
  | ins C dx ks ds => obtain ⟨xs, e, z, t⟩ := h; exact refs_of t
  | own x => trivial
  | set S n => trivial
  | gen r ds => obtain ⟨xs, e, z, t⟩ := h; exact refs_of t
  | tbl f q a => trivial
mutual
theorem refIn_mono {G G2 : Gp} (h : ∀ a o, G a = some o → ∃ o', G2 a = some o') : ∀ {d : D}, RefIn G d → RefIn G2 d
  | .non, _ => by simp only [RefIn]
  | .bl _, _ => by simp only [RefIn]
  | .int _, _ => by simp only [RefIn]
  | .str _, _ => by simp only [RefIn]
  | .ty _, _ => by simp only [RefIn]
  | .cl _, _ => by simp only [RefIn]
  | .exc a dd f e, q => by simp only [RefIn] at q ⊢; exact refIn_mono h q
  | .scr _, _ => by simp only [RefIn]
  | .ref a, q => by simp only [RefIn] at q ⊢; obtain ⟨o, e⟩ := q; exact h a o e
  | .lst ds, q => by simp only [RefIn] at q ⊢; exact refIns_mono h q
  | .tup ds, q => by simp only [RefIn] at q ⊢; exact refIns_mono h q
  | .dct ks ds, q => by simp only [RefIn] at q ⊢; exact refIns_mono h q
theorem refIns_mono {G G2 : Gp} (h : ∀ a o, G a = some o → ∃ o', G2 a = some o') : ∀ {ds : List D}, RefIns G ds → RefIns G2 ds
  | [], _ => by simp only [RefIns]
  | d :: ds, q => by simp only [RefIns] at q ⊢; exact ⟨refIn_mono h q.1, refIns_mono h q.2⟩
end
/-- at a def's end: what is handed back, and what stays owned -/
def Fz (G0 : Gp) (d : D) (G' : Gp) (d2 : D) (G2 : Gp) : Prop := ∀ (K : PySem.W.Frag) (P : Addr → Prop) (H0 H : Hp) (v : V), Wo K P G0 H0 → Step G0 H0 G' H → Wo K P G' H → Rep K H G' P d v → Step G0 H0 G2 H ∧ Wo K P G2 H ∧ Rep K H G2 P d2 v
theorem fz_id {G0 G' : Gp} {d : D} : Fz G0 d G' d G' := fun _ _ _ _ _ _ s w r => ⟨s, w, r⟩
/-- some new objects are let go -/
theorem fz_sub {G0 G' G2 : Gp} {d : D} (h1 : ∀ a o, G2 a = some o → G' a = some o) (h0 : ∀ a o, G0 a = some o → ∃ o', G2 a = some o') (hc : ∀ a o, G2 a = some o → RefO G2 o ∨ G0 a = some o) (hd : RefIn G2 d) : Fz G0 d G' d G2 := fun K P H0 H v w0 st w r => by
  have h2 : ∀ a, G' a = none → G2 a = none := fun a e => by
    cases q : G2 a with
    | none => rfl
    | some o => rw [h1 a o q] at e; cases e
  refine ⟨⟨fun a o e g => ⟨(st.keep a o e g).1, h2 a (st.keep a o e g).2⟩, h0⟩, ⟨fun a o e => ?_, fun a q => ?_⟩, r.less h2 hd⟩
  · obtain ⟨ho, e1, r1⟩ := w.own a o (h1 a o e)
    refine ⟨ho, e1, r1.less h2 ?_⟩
    rcases hc a o e with q | q
    · exact q
    · obtain ⟨ho0, e0, r0⟩ := w0.own a o q
      have := refO_of r0
      cases o with
      | lst ds => exact refIns_mono h0 this
      | dct ks ds => exact refIns_mono h0 this
      | ins C dx ks ds => exact refIns_mono h0 this
      | own x => trivial
      | set S n => trivial
      | gen r ds => exact refIns_mono h0 this
      | tbl f q a => trivial
  · obtain ⟨g, ho, e⟩ := w.prv a q
    exact ⟨h2 a g, ho, e⟩
/-- all new objects are let go -/
theorem fz_back {G0 G' : Gp} {d : D} (h : ∀ a o, G0 a = some o → G' a = some o) (hd : RefIn G0 d) : Fz G0 d G' d G0 := fz_sub h (fun a o e => ⟨o, e⟩) (fun a o e => .inr e) hd
/-- the end of a def's body -/
def fin (G0 : Gp) (Q : DK) : En := { nx := fun _ G' => ∃ d2 G2, Fz G0 .non G' d2 G2 ∧ Q d2 G2, rt := fun d G' => ∃ d2 G2, Fz G0 d G' d2 G2 ∧ Q d2 G2 }
/-- the slots at the entry -/
def startD (n : Nat) (ds : List D) : Sd := ds.map some ++ List.replicate (n - ds.length) none
theorem rl_start {P : Addr → Prop} {G : Gp} {H : Hp} {N : List Str} {ds : List D} {vs : List V} (w : Wo K P G H) (r : Reps K H G P ds vs) : Rl K P (startD N.length ds) G (L2.start N vs) H := by
  have l := r.length
  refine ⟨w, by unfold startD L2.start; simp [l], fun i d e => ?_⟩
  unfold startD at e
  unfold L2.start
  by_cases hi : i < ds.length
  · rw [List.getElem?_append_left (by simpa using hi), List.getElem?_map] at e
    obtain ⟨d', e1, e2⟩ := opt_map e
    cases e2
    obtain ⟨v, e3, r3⟩ := r.get e1
    exact ⟨v, by rw [List.getElem?_append_left (by simp; omega), List.getElem?_map, e3]; rfl, r3⟩
  · rw [List.getElem?_append_right (by simp; omega)] at e
    rw [List.getElem?_replicate] at e
    split at e <;> cases e
/-- no wish about what is raised -/
def y0 : Wx := ⟨fun _ _ _ _ => False⟩
/-- THE RULE for a def -/
theorem fk_ok {P : Program} {w : World} {K : PySem.W.Frag} {mg : Str → Option Value} {base : Heap} {x qual : Str} {params : Arguments} {body : List Stmt} {scope : Scope} {kws : List (Str × V)} {dvs : List V} {f : Addr} {fd : FuncData} {N ps : List Str} {k : Nat} {F : Sf} {es : ES}
    (FF : FunD K x qual params body scope dvs kws f fd) (S : FnScope N ps scope)
    (hJ : ∀ (cdv : Value) (A : Around) (outer : List Env) (s : Shared) (H : Hp) (E : XK), Room k (A.deeper (envOfC qual scope s.heap.objs.size f cdv)) → JSs (cxOf CX0 P w K mg base N qual scope f cdv A outer s H E).nox y0 body es)
    (hR : ∀ ds G Q, F ds G Q → es (fin G Q) (startD N.length ds) G) : FK P w K mg base (k + 1) f fd ps F := by
  refine FF.ok S (fun vs H Q E h => ?_) (fun cdv A outer s H vs Q E hr h => ?_)
  · exact h.1
  · obtain ⟨_, P', ds, G, Q', wo, r, hf, kk⟩ := h
    have j := hJ cdv A outer s H E hr
    refine ⟨_, PSs.nox j.ps, ?_⟩
    have hR' := hR ds G Q' hf
    refine j.ls P' (startD N.length ds) G (fin G Q') (L2.start N vs) H _ hR' (rl_start wo r) ⟨?_, ?_, ?_, ?_, ?_⟩
    · intro s' G' σ' H' st rl hq
      obtain ⟨d2, G2, fz, q2⟩ := hq
      obtain ⟨b1, b2, b3⟩ := fz K P' H H' .non wo st rl.wo rep_non
      exact kk d2 G2 .non H' b1 b2 b3 q2
    · intro d G' v H' st w' rp hq
      obtain ⟨d2, G2, fz, q2⟩ := hq
      obtain ⟨b1, b2, b3⟩ := fz K P' H H' v wo st w' rp
      exact kk d2 G2 v H' b1 b2 b3 q2
    · intro s' G' σ' H' st rl hq
      exact hq.elim
    · intro s' G' σ' H' st rl hq
      exact hq.elim
    · intro x s' G' cls d σ' H' st rl _ hq
      exact hq.elim
/-- the law's promise: of every script True -/
def lawF (n : Nat) : Sf := fun ds G Q => ∃ ns : List Int, ds = [.scr ns] ∧ ns.length ≤ n ∧ G = (fun _ => none) ∧ ∀ G', Q (.bl true) G'
theorem law_sp {K : PySem.W.Frag} {n : Nat} (hn : n ≤ sizeLine) {H : Hp} {a : Addr} {ns : List Int} (hl : ns.length ≤ n) (ho : Only H) (hS : SqL K H a (ns.map V.int)) {E : XK} : Lf K 1 (lawF n) [.ref a] H (fun v _ => v = .bl true) E := by
  refine ⟨rfl, fun _ => False, [.scr ns], fun _ => none, fun d _ => d = .bl true, ⟨fun _ _ e => (nomatch e), fun _ q => q.elim⟩, reps_cons ?_ reps_nil, ⟨ns, rfl, hl, rfl, fun _ => rfl⟩, fun d G' v H' _ _ r q => by subst q; exact rep_b r⟩
  unfold Rep
  refine ⟨a, rfl, Nat.le_trans hl hn, ?_⟩
  rcases hS with (h | ⟨o, h⟩) | h
  · exact .inr (.inl ⟨h, rfl, fun x => x⟩)
  · exact .inl ⟨⟨o, h⟩, rfl⟩
  · exact .inr (.inr h)
end
end DL
namespace DL
open PySem PySem.Spec PyProof.Rows L2
/-- a def of the text, called by its name: it keeps the promise F -/
structure Cal (P : Program) (w : World) (K : PySem.W.Frag) (mg : Str → Option Value) (base : Heap) (k : Nat) (x : Str) (ps : List Str) (F : Sf) : Prop where
  ex : ∃ f fd, FK P w K mg base k f fd ps F ∧ mg x = some (.ref f) ∧ PySem.W.keepIn K (.ref f) = true ∧ Binds K fd ps []
/-- a def as it stands behind the top -/
structure Df (K : PySem.W.Frag) (mg : Str → Option Value) (x : Str) (st : Stmt) : Prop where
  ex : ∃ f fd, FunD K x x (defArgs st) (defBody st) (defScope st) [] [] f fd ∧ mg x = some (.ref f)
section
variable {X : Cx}
theorem j_cal {K : PySem.W.Frag} {k : Nat} {ps : List Str} {F : Sf} {x : Str} {p pos : Pos} {e : Expr} {es : List Expr} {ea : EA} (c : Cal X.prog X.w K X.mg X.base k x ps F) (hr : Room k X.A) (hg : Gl X x)
    (ha : JA X (e :: es) ea) (hK : X.K = K := by rfl) (hlen : (e :: es).length = ps.length := by rfl) (hdb : (x == ("__debug__" : Str)) = false := by decide) (he : starEach (e :: es) X.env = (false, eval e X.env) :: starEach es X.env := by rfl) (hpl : (backTo pos (starEach es X.env)).any (·.1) = false := by rfl) : JE X (.Call (.Name x p) (e :: es) [] pos) (eCall F ea) := by
  subst hK
  obtain ⟨f, fd, h1, h2, h3, h4⟩ := c.ex
  exact j_call h1 hr hg h2 h3 h4 ha hlen hdb he hpl
/-- THE RULE for a def, by its name -/
theorem cal_ok {P : Program} {w : World} {K : PySem.W.Frag} {mg : Str → Option Value} {base : Heap} {x : Str} {st : Stmt} {N ps : List Str} {k : Nat} {F : Sf} {es : ES} (D : Df K mg x st) (S : FnScope N ps (defScope st))
    (hb : ∀ (kV doc pm : Value) (an : Option Addr) (cdv ct : Value) (us : List Value), us.length = ps.length → bindArgs (PySem.W.fnOf x x (defArgs st) (defBody st) (defScope st) .none kV doc pm an cdv ct) ⟨us, []⟩ = pure (ps.zip us))
    (hJ : ∀ (f : Addr) (cdv : Value) (A : Around) (outer : List Env) (s : Shared) (H : Hp) (E : XK), Room k (A.deeper (envOfC x (defScope st) s.heap.objs.size f cdv)) → JSs (cxOf CX0 P w K mg base N x (defScope st) f cdv A outer s H E).nox y0 (defBody st) es)
    (hR : ∀ ds G Q, F ds G Q → es (fin G Q) (startD N.length ds) G) : Cal P w K mg base (k + 1) x ps F := by
  obtain ⟨f, fd, h1, h2⟩ := D.ex
  exact ⟨f, fd, fk_ok h1 S (hJ f) hR, h2, h1.kp, h1.bindsN hb⟩
end
end DL
set_option Elab.async false
set_option linter.all false
set_option maxRecDepth 100000
set_option maxHeartbeats 4000000
namespace DL
open PySem PySem.Spec PyProof.Rows L2
section
variable {X : Cx} {K : PySem.W.Frag} {e : Expr} {te : TE} {ee : EE} {pos : Pos}
theorem js_setI {Y : Wx} {o i : Expr} {eo ei : EE} {p' : Pos} (he : JE X e ee) (ho : JE X o eo) (hi : JE X i ei)
    (ha : ∀ v, assign (.Subscript o i p') X.env v = (do let ov ← holding [v] (eval o X.env); let iv ← holding [v, ov] (eval i X.env); standAt p'; holding [v, ov, iv] (setItem ov iv v); release [v, ov, iv] []) := by intro _; rfl)
    (hs : swapsWithSole [.Subscript o i p'] e pos.line X.env = pure false := by rfl) (hw : swappedStores [.Subscript o i p'] e X.env = pure none := by rfl) (h1 : (assignEach [.Subscript o i p'] X.env).map (·.2) = [assign (.Subscript o i p') X.env] := by rfl) :
    JS X Y (.Assign [.Subscript o i p'] e pos) (sSetIx ee eo ei) := js_setIx he ho hi (ps_asg he.pe (pg_sub ho.pe hi.pe set_list ha) hs hw h1)
theorem js_asgTup {Y : Wx} {tg : Expr} {t : Tg} (he : JE X e ee) (hg : JG X tg t) (hs : swapsWithSole [tg] e pos.line X.env = pure false := by rfl) (hw : swappedStores [tg] e X.env = pure none := by rfl) (h1 : (assignEach [tg] X.env).map (·.2) = [assign tg X.env] := by rfl) :
    JS X Y (.Assign [tg] e pos) (sAsg ee t) := js_asgT he hg (ps_asg he.pe hg.pg hs hw h1)
/-- list(range(n)), list(range(a, b)) -/
@[simp] def eListRange (ea : EA) : EE := fun s G Q => ea s G fun xs G1 => match xs with
  | [.int n] => -(2 ^ 62) ≤ n ∧ n ≤ 16000000 ∧ Q (.lst (rngD 0 n.toNat)) G1
  | _ => False
end
theorem rngD_succ (lo : Int) (n : Nat) : rngD lo (n + 1) = .int lo :: rngD (lo + 1) n := by
  unfold rngD
  rw [List.range_succ_eq_map, List.map_cons, List.map_map]
  congr 1
  · simp
  · apply List.map_congr_left
    intro a _
    simp only [Function.comp_apply]
    congr 1
    omega
theorem rngD_zero (lo : Int) : rngD lo 0 = [] := rfl
/-- a comprehension that leaves the owned objects: over a list of things -/
theorem compW_map {α : Type} {g : α → D} {p : α → Bool} {f : α → D} {s0 : Sd} {t : Tg} {tt : ET} {te : EE} {Kp : Gp → Prop} {G : Gp} {Q : List D → Gp → Prop} (hK : Kp G) : ∀ (xs : List α) (acc : List D),
    (∀ x ∈ xs, ∃ s', asg t (g x) s0 = some s' ∧ (∀ R : Bool → Gp → Prop, R (p x) G → tt s' G R) ∧ (p x = true → ∀ R : DK, R (f x) G → te s' G R)) → Q (acc ++ (xs.filter p).map f) G → compW s0 t tt te Kp (xs.map g) acc G Q
  | [], acc, _, hq => by
    simp only [List.map_nil, compW]
    exact ⟨hK, by simpa using hq⟩
  | x :: xs, acc, h, hq => by
    simp only [List.map_cons, compW]
    refine ⟨hK, ?_⟩
    obtain ⟨s', e1, h1, h2⟩ := h x List.mem_cons_self
    simp only [e1]
    refine h1 _ ?_
    cases e : p x with
    | true =>
      refine h2 e _ ?_
      refine compW_map hK xs _ (fun y hy => h y (List.mem_cons_of_mem _ hy)) ?_
      rw [List.filter_cons_of_pos e] at hq
      simpa using hq
    | false =>
      refine compW_map hK xs _ (fun y hy => h y (List.mem_cons_of_mem _ hy)) ?_
      rw [List.filter_cons_of_neg (by simp [e])] at hq
      exact hq
/-- .. without a test -/
theorem compW_all {α : Type} {g : α → D} {f : α → D} {s0 : Sd} {t : Tg} {te : EE} {Kp : Gp → Prop} {G : Gp} {Q : List D → Gp → Prop} (hK : Kp G) (xs : List α) (acc : List D)
    (h : ∀ x ∈ xs, ∃ s', asg t (g x) s0 = some s' ∧ (∀ R : DK, R (f x) G → te s' G R)) (hq : Q (acc ++ xs.map f) G) : compW s0 t eYes te Kp (xs.map g) acc G Q :=
  compW_map (p := fun _ => true) hK xs acc (fun x hx => let ⟨s', e, k⟩ := h x hx; ⟨s', e, fun R r => r, fun _ => k⟩) (by rw [List.filter_eq_self.mpr (fun _ _ => rfl)]; exact hq)
theorem fin_id {G0 G' : Gp} {Q : DK} {d : D} (h : Q d G') : (fin G0 Q).rt d G' := ⟨d, G', fz_id, h⟩
theorem fin_back {G0 G' : Gp} {Q : DK} {d : D} (h : ∀ a o, G0 a = some o → G' a = some o) (hd : RefIn G0 d) (q : Q d G0) : (fin G0 Q).rt d G' := ⟨d, G0, fz_back h hd, q⟩
/-- a new list is handed back frozen, other changed objects stay -/
theorem fz_lstS {G0 G' G2 : Gp} {p : Addr} {ds : List D} (h1 : ∀ a o, G2 a = some o → G' a = some o) (h0 : ∀ a o, G0 a = some o → ∃ o', G2 a = some o') (hc : ∀ a o, G2 a = some o → RefO G2 o ∨ G0 a = some o) (e : G' p = some (.lst ds)) (n : G2 p = none) (hd : RefIns G2 ds) : Fz G0 (.ref p) G' (.lst ds) G2 := fun K P H0 H v w0 st w r => by
  have h2 : ∀ a, G' a = none → G2 a = none := fun a e => by
    cases q : G2 a with
    | none => rfl
    | some o => rw [h1 a o q] at e; cases e
  obtain ⟨a1, a2, a3⟩ := fz_sub (d := .non) h1 h0 hc (by simp only [RefIn]) K P H0 H .non w0 st w rep_non
  refine ⟨a1, a2, ?_⟩
  unfold Rep at r
  obtain ⟨rfl, _⟩ := r
  obtain ⟨ho, e1, xs, rfl, z, q⟩ := w.own p _ e
  exact rep_lst n (fun pp => by rw [(w.prv p pp).1] at e; cases e) e1 z (q.less h2 hd)
mutual
def plainD : D → Bool
  | .ref _ => false
  | .exc _ _ _ _ => false
  | .lst ds => plainDs ds
  | .tup ds => plainDs ds
  | .dct _ ds => plainDs ds
  | _ => true
def plainDs : List D → Bool
  | [] => true
  | d :: ds => plainD d && plainDs ds
end
mutual
theorem refIn_plain {G : Gp} : ∀ {d : D}, plainD d = true → RefIn G d
  | .non, _ => by simp only [RefIn]
  | .bl _, _ => by simp only [RefIn]
  | .int _, _ => by simp only [RefIn]
  | .str _, _ => by simp only [RefIn]
  | .ty _, _ => by simp only [RefIn]
  | .cl _, _ => by simp only [RefIn]
  | .exc _ _ _ _, q => by simp [plainD] at q
  | .scr _, _ => by simp only [RefIn]
  | .ref a, q => by simp [plainD] at q
  | .lst ds, q => by simp only [plainD] at q; simp only [RefIn]; exact refIns_plain q
  | .tup ds, q => by simp only [plainD] at q; simp only [RefIn]; exact refIns_plain q
  | .dct ks ds, q => by simp only [plainD] at q; simp only [RefIn]; exact refIns_plain q
theorem refIns_plain {G : Gp} : ∀ {ds : List D}, plainDs ds = true → RefIns G ds
  | [], _ => by simp only [RefIns]
  | d :: ds, q => by
    simp only [plainDs, Bool.and_eq_true] at q
    simp only [RefIns]
    exact ⟨refIn_plain q.1, refIns_plain q.2⟩
end
theorem plainDs_map {α : Type} {f : α → D} (h : ∀ x, plainD (f x) = true) : ∀ xs : List α, plainDs (xs.map f) = true
  | [] => rfl
  | x :: xs => by simp only [List.map_cons, plainDs, h x, plainDs_map h xs, Bool.and_self]
end DL
set_option Elab.async false
set_option linter.all false
set_option maxRecDepth 100000
set_option maxHeartbeats 4000000
namespace DL
open PySem PySem.Spec PyProof.Rows L2
def stO (x y z : Int) : GO := .lst [.int x, .int y, .int z]
structure Ok3 (x y z : Int) : Prop where
  x0 : 0 ≤ x
  y0 : 0 ≤ y
  y1 : y < 2147483647
  z0 : 0 ≤ z
/-- a divisor that may be drawn by -/
def Wd (m : Int) : Prop := 0 < m ∧ m.natAbs.log2 < 9000
theorem wd_small {m : Int} (h : 0 < m) (h2 : m < 2 ^ 8999) : Wd m := ⟨h, by
  have e : m.natAbs ≠ 0 := by omega
  rw [Nat.log2_lt e]
  have : ((m.natAbs : Nat) : Int) < ((2 ^ 9000 : Nat) : Int) := by
    rw [Int.natAbs_of_nonneg (by omega)]
    refine Int.lt_of_lt_of_le h2 ?_
    decide +kernel
  exact Int.ofNat_lt.mp this⟩
theorem gput_eq {G : Gp} {a : Addr} {o : GO} (h : G a = some o) : gput G a o = G := by
  funext b
  by_cases e : b = a
  · subst e; rw [gput_same, h]
  · rw [gput_ne e]
def F__law_take : Sf := fun ds G Q => ∃ a many x y z, ds = [.ref a, .int many] ∧ G a = some (stO x y z) ∧ Ok3 x y z ∧ Wd many ∧
  ∀ r x' y' z', Ok3 x' y' z' → 0 ≤ r → r < many → Q (.int r) (gput G a (stO x' y' z'))
theorem cmul_r {i j : Int} (h : -(2 ^ 64) < j) (h2 : j < 2 ^ 64) : CMul i j := .inr ⟨h, h2⟩
theorem cmul_l {i j : Int} (h : -(2 ^ 64) < i) (h2 : i < 2 ^ 64) : CMul i j := .inl ⟨h, h2⟩
def r__law_take_L1 : ES :=
  (sSeq (sSetIx (eOp oAdd (eOp oIx (eVar 0) (eC (.int 2))) (eC (.int 1))) (eVar 0) (eC (.int 2)))
  (sSeq (sSetIx (eOp oMod (eOp oAdd (eOp oMul (eOp oIx (eVar 0) (eC (.int 1))) (eC (.int 48271))) (eOp oMul (eC (.int 11)) (eOp oIx (eVar 0) (eC (.int 2))))) (eC (.int 2147483647))) (eVar 0) (eC (.int 1)))
  (sAsg (eOp oAdd (eOp oMul (eVar 3) (eC (.int 2147483629))) (eOp oMod (eOp oMul (eOp oIx (eVar 0) (eC (.int 1))) (eOp oIx (eVar 0) (eC (.int 1)))) (eC (.int 2147483629)))) (.nm 3))))
def r__law_take : ES :=
  (sSeq (sIf (eT (eOp oGt (eOp oIx (eVar 0) (eC (.int 0))) (eC (.int 0)))) (sSeq (sAsg (eOp oMod (eOp oIx (eVar 0) (eC (.int 0))) (eVar 1)) (.nm 2))
  (sSeq (sSetIx (eOp oDivW (eOp oIx (eVar 0) (eC (.int 0))) (eVar 1)) (eVar 0) (eC (.int 0)))
  (sRet (eVar 2)))) sNext)
  (sSeq (sAsg (eC (.int 0)) (.nm 3))
  (sSeq (sFor (iR1 (eCons (eOp oAdd (eC (.int 1)) (eCB cInt1 (eCons (eOp oGt (eVar 1) (eOp oPow (eC (.int 10)) (eC (.int 6)))) eNil))) eNil)) (.nm 4) r__law_take_L1)
  (sRet (eOp oMod (eOp oDivW (eVar 3) (eC (.int 16))) (eVar 1))))))
theorem take_loop {G : Gp} {a : Addr} {N : En} {many : Int} : ∀ (n : Nat) (lo : Int) (o3 : Int) (o4 : Option D) (x y z : Int), Ok3 x y z → 0 ≤ o3 → (∀ o3 o4 x y z, Ok3 x y z → 0 ≤ o3 → N.nx [some (.ref a), some (.int many), none, some (.int o3), o4] (gput G a (stO x y z))) →
    forW (.nm 4) r__law_take_L1 (fun _ => True) N (rngD lo n) [some (.ref a), some (.int many), none, some (.int o3), o4] (gput G a (stO x y z)) := by
  intro n
  induction n with
  | zero => intro lo o3 o4 x y z ok h0 k; simp only [rngD_zero, forW, true_and]; exact k _ _ _ _ _ ok h0
  | succ n ih =>
    intro lo o3 o4 x y z ok h0 k
    rw [rngD_succ]
    obtain ⟨hx, hy, hy1, hz⟩ := ok
    simp [forW, sSeq, r__law_take_L1, gput_same, gput_gput, stO, atI, ixN]
    refine ⟨cmul_r (by decide) (by decide), cmul_l (by decide) (by decide), cmul_r (by decide) (by decide), cmul_r (by omega) (by omega), ?_⟩
    refine ih _ _ _ _ _ _ ⟨hx, by omega, by omega, by omega⟩ ?_ k
    have := Int.emod_nonneg ((y * 48271 + 11 * (z + 1)) % 2147483647 * ((y * 48271 + 11 * (z + 1)) % 2147483647)) (show (2147483629 : Int) ≠ 0 by decide)
    omega
theorem d__law_take (ds : List D) (G : Gp) (Q : DK) (h : F__law_take ds G Q) : r__law_take (fin G Q) (startD 5 ds) G := by
  obtain ⟨a, many, x, y, z, rfl, hG, ok, wd, k⟩ := h
  obtain ⟨hx, hy, hy1, hz⟩ := ok
  have hG' : gput G a (stO x y z) = G := gput_eq hG
  simp [sSeq, r__law_take, startD, hG, stO, atI, ixN]
  split
  · rename_i h0
    refine ⟨wd.1, wd, fin_id (k _ _ _ _ ⟨Int.ediv_nonneg hx (Int.le_of_lt wd.1), hy, hy1, hz⟩ (Int.emod_nonneg _ (by have := wd.1; omega)) (Int.emod_lt_of_pos _ wd.1))⟩
  · refine ⟨⟨by decide, by decide, by decide⟩, by split <;> decide, by split <;> decide, ?_⟩
    have := take_loop (G := G) (a := a) (many := many) (N := { nx := sRet (eOp oMod (eOp oDivW (eVar 3) (eC (D.int 16))) (eVar 1)) (fin G Q), rt := (fin G Q).rt, bk := (fin G Q).bk, ct := (fin G Q).ct, xr := (fin G Q).xr }) (1 + if 1000000 < many then 1 else 0 : Int).toNat 0 0 none x y z ⟨hx, hy, hy1, hz⟩ (by decide) ?_
    · rw [hG'] at this
      simpa [sSeq] using this
    · intro o3 o4 x y z ok h0
      simp
      exact ⟨⟨by decide, by decide⟩, wd.1, fin_id (k _ _ _ _ ok (Int.emod_nonneg _ (by have := wd.1; omega)) (Int.emod_lt_of_pos _ wd.1))⟩
def r__law_begun : ES :=
  (sSeq (sAsg (eC (.int 0)) (.nm 2))
  (sSeq (sIf (eT (eOp oLt (eVar 1) (eCB cLen (eCons (eVar 0) eNil)))) (sAsg (eOp oIx (eVar 0) (eVar 1)) (.nm 2)) sNext)
  (sSeq (sAsg (eCB cMax2 (eCons (eVar 2) (eCons (eOp oSub (eUn oNeg (eC (.int 1))) (eVar 2)) eNil))) (.nm 3))
  (sSeq (sAsg (eOp oMod (eOp oAdd (eOp oAdd (eVar 3) (eOp oMul (eOp oMul (eC (.int 104729)) (eVar 1)) (eVar 1))) (eC (.int 7))) (eC (.int 2147483647))) (.nm 4))
  (sSeq (sIf (eT (eOp oLt (eVar 3) (eOp oPow (eC (.int 10)) (eC (.int 18))))) (sAsg (eC (.int 0)) (.nm 3)) sNext)
  (sRet (eLstO (eCons (eVar 3) (eCons (eVar 4) (eCons (eC (.int 0)) eNil))))))))))
def F__law_begun : Sf := fun ds G Q => ∃ (ns : List Int) (k : Int), ds = [.scr ns, .int k] ∧ 0 ≤ k ∧ k ≤ 1000 ∧ ∀ p x y z, G p = none → Ok3 x y z → Q (.ref p) (gput G p (stO x y z))
theorem d__law_begun (ds : List D) (G : Gp) (Q : DK) (h : F__law_begun ds G Q) : r__law_begun (fin G Q) (startD 5 ds) G := by
  obtain ⟨ns, k, rfl, h0, h1, kk⟩ := h
  have key : ∀ c : Int, 0 ≤ (if -1 - c > c then -1 - c else c) := fun c => by split <;> omega
  have fin3 : ∀ c : Int, 0 ≤ c → ∀ m : Int, 0 ≤ (if c < 1000000000000000000 then 0 else c) ∧ 0 ≤ m % 2147483647 ∧ m % 2147483647 < 2147483647 := fun c hc m => ⟨by split <;> omega, by omega, by omega⟩
  have body : ∀ c : Int, sSeq (sAsg (eCB cMax2 (eCons (eVar 2) (eCons (eOp oSub (eUn oNeg (eC (.int 1))) (eVar 2)) eNil))) (.nm 3)) (sSeq (sAsg (eOp oMod (eOp oAdd (eOp oAdd (eVar 3) (eOp oMul (eOp oMul (eC (.int 104729)) (eVar 1)) (eVar 1))) (eC (.int 7))) (eC (.int 2147483647))) (.nm 4)) (sSeq (sIf (eT (eOp oLt (eVar 3) (eOp oPow (eC (.int 10)) (eC (.int 18))))) (sAsg (eC (.int 0)) (.nm 3)) sNext) (sRet (eLstO (eCons (eVar 3) (eCons (eVar 4) (eCons (eC (.int 0)) eNil))))))) (fin G Q) [some (.scr ns), some (.int k), some (.int c), none, none] G := by
    intro c
    have hc := key c
    simp [sSeq]
    refine ⟨cmul_l (by decide) (by decide), cmul_r (by omega) (by omega), ⟨by decide, by decide, by decide⟩, ?_⟩
    generalize (if -1 - c > c then -1 - c else c) = m at *
    split
    · exact ⟨by decide, fun p hp => fin_id (kk p _ _ _ hp ⟨by omega, by omega, by omega, by omega⟩)⟩
    · exact ⟨by decide, fun p hp => fin_id (kk p _ _ _ hp ⟨by omega, by omega, by omega, by omega⟩)⟩
  simp [sSeq, r__law_begun, startD]
  split
  · rename_i hlt
    have hk : k.toNat < ns.length := by omega
    have e : atI (ns.map D.int) k = some (.int ns[k.toNat]) := by
      have := atI_nat (xs := ns.map D.int) (j := k.toNat) (v := .int ns[k.toNat]) (by rw [List.getElem?_map, List.getElem?_eq_getElem hk]; rfl)
      rwa [Int.toNat_of_nonneg h0] at this
    rw [e]
    have := body ns[k.toNat]
    simpa [sSeq] using this
  · have := body 0
    simpa [sSeq] using this
end DL
set_option Elab.async false
set_option linter.all false
set_option maxRecDepth 100000
set_option maxHeartbeats 4000000
namespace DL
open PySem PySem.Spec PyProof.Rows L2
theorem take_ok {a : Addr} {m x y z : Int} {G : Gp} {Q : DK} (hG : G a = some (stO x y z)) (ok : Ok3 x y z) (w : Wd m) (k : ∀ r x y z, Ok3 x y z → 0 ≤ r → r < m → Q (.int r) (gput G a (stO x y z))) : F__law_take [.ref a, .int m] G Q := ⟨a, m, x, y, z, rfl, hG, ok, w, k⟩
theorem wd_of {m : Int} (h : 0 < m) (h2 : m ≤ 10000000000000000000000000000000000000000000000000000000000000) : Wd m := wd_small h (Int.lt_of_le_of_lt h2 (by decide +kernel))
/-- an item of a written list -/
theorem at_mem {ds : List D} {i : Int} (h0 : 0 ≤ i) (h1 : i < ds.length) : ∃ d, atI ds i = some d ∧ d ∈ ds := by
  have hi : i.toNat < ds.length := by omega
  have := atI_nat (xs := ds) (j := i.toNat) (List.getElem?_eq_getElem hi)
  rw [Int.toNat_of_nonneg h0] at this
  exact ⟨_, this, List.getElem_mem hi⟩
theorem gput_swap {G : Gp} {a p : Addr} {s s' l : GO} (h : p ≠ a) : gput (gput (gput G a s) p l) a s' = gput (gput G a s') p l := by
  funext b
  unfold gput
  by_cases e : b = a
  · subst e; simp [Ne.symm h]
  · by_cases e2 : b = p <;> simp [e, e2, h]
structure Stretch where
  name : Str
  b : Int
  e : Int
  w : Int
def Stretch.d (s : Stretch) : D := .tup [.str s.name, .int s.b, .int s.e, .int s.w]
structure NameOk (x : Str) : Prop where
  l1 : 1 ≤ x.length
  l8 : x.length ≤ 8
  az : ∀ c ∈ x.cps.toList, 97 ≤ c ∧ c ≤ 122
theorem Stretch.plain (s : Stretch) : plainD s.d = true := by simp [Stretch.d, plainD, plainDs]
theorem plain_book (bk : List Stretch) : plainDs (bk.map Stretch.d) = true := plainDs_map Stretch.plain bk
def r__law_name_L1 : ES :=
  (sAsg (eOp oAdd (eVar 3) (eOp oIx (eVar 2) (eCall F__law_take (eCons (eVar 0) (eCons (eC (.int 26)) eNil))))) (.nm 3))
def r__law_name : ES :=
  (sSeq (sAsg (eC (.str "abcdefghijklmnopqrstuvwxyz")) (.nm 2))
  (sSeq (sAsg (eC (.str "")) (.nm 3))
  (sSeq (sFor (iR1 (eCons (eCall F__law_take (eCons (eVar 0) (eCons (eC (.int 8)) eNil))) eNil)) (.nm 4) r__law_name_L1)
  (sRet (eOp oAdd (eVar 3) (eOp oIx (eVar 2) (eVar 1)))))))
def Lt : Str := "abcdefghijklmnopqrstuvwxyz"
theorem lt_cps : Lt.cps.toList = (List.range 26).map (97 + ·) := by decide +kernel
theorem lt_len : Lt.length = 26 := by decide +kernel
theorem lt_at {i : Int} (h0 : 0 ≤ i) (h1 : i < 26) : atI Lt.cps.toList i = some (97 + i.toNat) := by
  rw [lt_cps]
  have := atI_nat (xs := (List.range 26).map (97 + ·)) (j := i.toNat) (v := 97 + i.toNat) (by rw [List.getElem?_map, List.getElem?_range (by omega)]; rfl)
  rwa [Int.toNat_of_nonneg h0] at this
theorem str_app_len (x y : Str) : (x ++ y).length = x.length + y.length := by
  show (x.cps ++ y.cps).size = x.cps.size + y.cps.size
  simp
theorem str_app_cps (x y : Str) : (x ++ y).cps.toList = x.cps.toList ++ y.cps.toList := by
  show (x.cps ++ y.cps).toList = _
  simp
theorem str_one_len (c : Nat) : (⟨#[c]⟩ : Str).length = 1 := rfl
def F__law_name : Sf := fun ds G Q => ∃ a k x y z, ds = [.ref a, .int k] ∧ G a = some (stO x y z) ∧ Ok3 x y z ∧ 0 ≤ k ∧ k < 26 ∧
  ∀ nm x' y' z', Ok3 x' y' z' → NameOk nm → nm.cps.toList.getLast? = some (97 + k.toNat) → Q (.str nm) (gput G a (stO x' y' z'))
theorem name_loop {G : Gp} {a : Addr} {N : En} {k : Int} : ∀ (n : Nat) (lo : Int) (sp : Str) (o4 : Option D) (x y z : Int), Ok3 x y z → sp.length + n ≤ 7 → (∀ c ∈ sp.cps.toList, 97 ≤ c ∧ c ≤ 122) →
    (∀ (sp : Str) o4 x y z, Ok3 x y z → sp.length ≤ 7 → (∀ c ∈ sp.cps.toList, 97 ≤ c ∧ c ≤ 122) → N.nx [some (.ref a), some (.int k), some (.str Lt), some (.str sp), o4] (gput G a (stO x y z))) →
    forW (.nm 4) r__law_name_L1 (fun _ => True) N (rngD lo n) [some (.ref a), some (.int k), some (.str Lt), some (.str sp), o4] (gput G a (stO x y z)) := by
  intro n
  induction n with
  | zero => intro lo sp o4 x y z ok h0 h1 kk; simp only [rngD_zero, forW, true_and]; exact kk _ _ _ _ _ ok (by omega) h1
  | succ n ih =>
    intro lo sp o4 x y z ok h0 h1 kk
    rw [rngD_succ]
    simp [forW, sSeq, r__law_name_L1]
    refine take_ok gput_same ok (wd_of (by decide) (by decide)) fun r x' y' z' ok' hr0 hr1 => ?_
    simp [gput_gput, lt_at hr0 hr1]
    refine ⟨by rw [lt_len]; decide, by rw [str_one_len]; exact Nat.le_trans (by omega) line_ge, ?_⟩
    refine ih _ _ _ _ _ _ ok' (by rw [str_app_len, str_one_len]; omega) ?_ kk
    intro c hc
    rw [str_app_cps] at hc
    rcases List.mem_append.mp hc with q | q
    · exact h1 c q
    · simp at q; omega
theorem d__law_name (ds : List D) (G : Gp) (Q : DK) (h : F__law_name ds G Q) : r__law_name (fin G Q) (startD 5 ds) G := by
  obtain ⟨a, k, x, y, z, rfl, hG, ok, h0, h1, kk⟩ := h
  simp [sSeq, r__law_name, startD]
  refine take_ok hG ok (wd_of (by decide) (by decide)) fun r x' y' z' ok' hr0 hr1 => ?_
  simp
  refine ⟨by omega, by omega, ?_⟩
  refine name_loop (G := G) (k := k) r.toNat 0 "" none x' y' z' ok' (by show 0 + r.toNat ≤ 7; omega) (fun c hc => by rw [show (Str.ofString "").cps.toList = [] by decide +kernel] at hc; cases hc) ?_
  intro sp o4 x y z ok hl hc
  simp [lt_at h0 h1]
  refine ⟨by rw [lt_len]; decide, by rw [str_one_len]; exact Nat.le_trans (by omega) line_ge, fin_id (kk _ _ _ _ ok ⟨?_, ?_, ?_⟩ ?_)⟩
  · rw [str_app_len, str_one_len]; omega
  · rw [str_app_len, str_one_len]; omega
  · intro c q
    rw [str_app_cps] at q
    rcases List.mem_append.mp q with q | q
    · exact hc c q
    · simp at q; omega
  · rw [str_app_cps]; simp
end DL
set_option Elab.async false
set_option linter.all false
set_option maxRecDepth 100000
set_option maxHeartbeats 4000000
namespace DL
open PySem PySem.Spec PyProof.Rows L2
/-- the drawn names end in unlike letters -/
def LastAt (bk : List Stretch) : Prop := ∀ (j : Nat) (s : Stretch), bk[j]? = some s → s.name.cps.toList.getLast? = some (97 + j)
theorem last_nodup {bk : List Stretch} (h : LastAt bk) : (bk.map Stretch.name).Nodup := by
  rw [List.nodup_iff_pairwise_ne, List.pairwise_map, List.pairwise_iff_getElem]
  intro i j hi hj hij e
  have h1 := h i _ (List.getElem?_eq_getElem hi)
  have h2 := h j _ (List.getElem?_eq_getElem hj)
  rw [e, h2] at h1
  have := Option.some.inj h1
  omega
/-- a rising list of numbers below n -/
structure Some (n : Nat) (l : List Nat) : Prop where
  lt : ∀ i ∈ l, i < n
  up : l.Pairwise (· < ·)
def nD (l : List Nat) : List D := l.map fun (i : Nat) => D.int (i : Int)
end DL
set_option Elab.async false
set_option linter.all false
set_option maxRecDepth 100000
set_option maxHeartbeats 4000000
namespace DL
open PySem PySem.Spec PyProof.Rows L2
end DL
set_option Elab.async false
set_option linter.all false
set_option maxRecDepth 100000
set_option maxHeartbeats 4000000
namespace DL
open PySem PySem.Spec PyProof.Rows L2
end DL
set_option Elab.async false
set_option linter.all false
set_option maxRecDepth 100000
set_option maxHeartbeats 4000000
namespace DL
open PySem PySem.Spec PyProof.Rows L2
instance : Inhabited Stretch := ⟨⟨⟨#[]⟩, 0, 0, 0⟩⟩
def st (bk : List Stretch) (i : Nat) : Stretch := bk.getD i default
def worthOf (bk : List Stretch) (l : List Nat) : Int := (l.map fun i => (st bk i).w).sum
theorem bk_at {bk : List Stretch} {i : Nat} (h : i < bk.length) : atI (bk.map Stretch.d) (i : Int) = some (st bk i).d := by
  refine atI_nat ?_
  unfold st
  rw [List.getElem?_map, List.getElem?_eq_getElem h, List.getD_eq_getElem?_getD, List.getElem?_eq_getElem h]
  rfl
theorem toPys_map {α : Type} {f : α → D} {g : α → PyData} {G : Gp} (h : ∀ x, toPy G (f x) = some (g x)) : ∀ xs : List α, toPys G (xs.map f) = some (xs.map g)
  | [] => by simp only [List.map_nil, toPys]
  | x :: xs => by simp only [List.map_cons, toPys, h x, toPys_map h xs]
def Stretch.py (s : Stretch) : PyData := .tuple [.str s.name, .int s.b, .int s.e, .int s.w]
theorem toPys_nD {G : Gp} (l : List Nat) : toPys G (nD l) = some (l.map fun (i : Nat) => PyData.int (i : Int)) := toPys_map (fun i => by simp) l
theorem depthAll_le {n : Nat} : ∀ {xs : List PyData}, (∀ x ∈ xs, x.depth ≤ n) → PyData.depthAll xs ≤ n
  | [], _ => by simp [PyData.depthAll]
  | x :: xs, h => by
    simp only [PyData.depthAll]
    exact Nat.max_le.mpr ⟨h x List.mem_cons_self, depthAll_le fun y hy => h y (List.mem_cons_of_mem _ hy)⟩
theorem canLayAll_of : ∀ {xs : List PyData}, (∀ x ∈ xs, x.canLay0 = true) → PyData.canLayAll0 xs = true
  | [], _ => by simp [PyData.canLayAll0]
  | x :: xs, h => by
    simp only [PyData.canLayAll0, Bool.and_eq_true]
    exact ⟨h x List.mem_cons_self, canLayAll_of fun y hy => h y (List.mem_cons_of_mem _ hy)⟩
/-- shaped, and no deeper than n -/
structure Shp (n : Nat) (d : PyData) : Prop where
  c : d.canLay0 = true
  d : d.depth ≤ n
theorem Shp.shaped {n : Nat} {d : PyData} (h : Shp n d) (hn : n ≤ 64) : SeqAt.shaped d = true := by
  unfold SeqAt.shaped
  rw [h.c, decide_eq_true (Nat.le_trans h.d hn)]
  rfl
theorem shp_list {n : Nat} {xs : List PyData} (h : ∀ x ∈ xs, Shp n x) : Shp (n + 1) (.list xs) :=
  ⟨by simp only [PyData.canLay0]; exact canLayAll_of fun x hx => (h x hx).c, by simp only [PyData.depth]; exact Nat.succ_le_succ (depthAll_le fun x hx => (h x hx).d)⟩
theorem shp_tuple {n : Nat} {xs : List PyData} (h : ∀ x ∈ xs, Shp n x) : Shp (n + 1) (.tuple xs) :=
  ⟨by simp only [PyData.canLay0]; exact canLayAll_of fun x hx => (h x hx).c, by simp only [PyData.depth]; exact Nat.succ_le_succ (depthAll_le fun x hx => (h x hx).d)⟩
theorem shp_int (i : Int) {n : Nat} : Shp n (.int i) := ⟨by simp only [PyData.canLay0], by simp [PyData.depth]⟩
theorem shp_str {x : Str} {n : Nat} (h : ∀ c ∈ x.cps.toList, c < 1114112) : Shp n (.str x) := ⟨by
  simp only [PyData.canLay0, PyData.strOk]
  rw [Array.all_eq_true']
  intro c hc
  exact decide_eq_true (h c (Array.mem_toList_iff.mpr hc)), by simp [PyData.depth]⟩
theorem shp_nats {l : List Nat} {n : Nat} : Shp (n + 1) (.list (l.map fun (i : Nat) => PyData.int (i : Int))) := shp_list fun x hx => by
  obtain ⟨s, hs, rfl⟩ := List.mem_map.mp hx
  exact shp_int _
theorem eqv_self {n : Nat} {d : PyData} (h : Shp n d) : PyData.eqv d d = true := SeqAt.eqv_refl d h.c
end DL
set_option Elab.async false
set_option linter.all false
set_option maxRecDepth 100000
set_option maxHeartbeats 4000000
namespace DL
open PySem PySem.Spec PyProof.Rows L2
/-- a loop whose turns keep I -/
theorem forW_all {t : Tg} {tb : ES} {Kp : Gp → Prop} {N : En} (I : Sd → Gp → Prop) (hK : ∀ s G, I s G → Kp G) : ∀ (ds : List D) (s : Sd) (G : Gp),
    (∀ d ∈ ds, ∀ s G (W : Sd → Gp → Prop), I s G → (∀ s' G', I s' G' → W s' G') → match asg t d s with
      | some s' => tb { N with nx := W, ct := W, bk := N.nx } s' G
      | none => False) → I s G → (∀ s G, I s G → N.nx s G) → forW t tb Kp N ds s G
  | [], s, G, _, hI, k => by simp only [forW]; exact ⟨hK s G hI, k s G hI⟩
  | d :: ds, s, G, h, hI, k => by
    simp only [forW]
    exact ⟨hK s G hI, h d List.mem_cons_self s G _ hI fun s' G' hI' => forW_all I hK ds s' G' (fun d hd => h d (List.mem_cons_of_mem _ hd)) hI' k⟩
theorem rngD_mem {lo : Int} {n : Nat} {d : D} (h : d ∈ rngD lo n) : ∃ i : Int, d = .int i ∧ lo ≤ i ∧ i < lo + n := by
  unfold rngD at h
  obtain ⟨j, hj, rfl⟩ := List.mem_map.mp h
  rw [List.mem_range] at hj
  exact ⟨_, rfl, by omega, by omega⟩
/-- the law's outer loop -/
theorem law_loop {t : Tg} {tb : ES} {N : En} {n m : Nat} (I : Sd → Gp → Prop) {s : Sd} {G : Gp} (h : ∀ k : Int, 0 ≤ k → k < 63 → ∀ s G (W : Sd → Gp → Prop), I s G → (∀ s' G', I s' G' → W s' G') → match asg t (.int k) s with
      | some s' => tb { N with nx := W, ct := W, bk := N.nx } s' G
      | none => False) (hn : n ≤ 63) (hI : I s G) (k : ∀ s G, I s G → N.nx s G) : forW t tb (fun _ => True) N (rngD 0 n) s G := by
  refine forW_all I (fun _ _ _ => trivial) _ s G (fun d hd => ?_) hI k
  obtain ⟨i, rfl, h0, h1⟩ := rngD_mem hd
  exact h i h0 (by omega)
theorem kit_int_int : kitB "int" "int" = some true := by decide +kernel
theorem kit_int_bool : kitB "int" "bool" = some false := by decide +kernel
end DL
set_option Elab.async false
set_option linter.all false
set_option maxRecDepth 100000
set_option maxHeartbeats 4000000
namespace L2
open PySem PySem.Spec PyProof.Rows
end L2
set_option Elab.async false
set_option linter.all false
set_option maxRecDepth 100000
set_option maxHeartbeats 4000000
namespace L2
open PySem PySem.Spec PyProof.Rows
end L2
namespace DL
open PySem PySem.Spec PyProof.Rows L2
/-- sorted(set(xs)): the ints of xs, rising, each once -/
@[simp] def eSortedSet (ea : EA) : EE := fun s G Q => ea s G fun xs G1 => match xs with
  | [x] => (match (lkL G1 x).bind intsD with
    | some ns => ns.length < 64 ∧ ∀ ms : List Int, ms.Pairwise (· < ·) → (∀ k : Int, k ∈ ms ↔ k ∈ ns) → Q (.lst (ms.map D.int)) G1
    | none => False)
  | _ => False
section
variable {X : Cx}
/-- sorted(xs) of ints -/
@[simp] def cSortedI : CD := fun xs G Q => match xs with
  | [x] => (match (lkL G x).bind intsD with
    | some ns => ∀ ms : List Int, ms.Perm ns → ms.Pairwise (· ≤ ·) → Q (.lst (ms.map D.int)) G
    | none => False)
  | _ => False
end
end DL
set_option Elab.async false
set_option linter.all false
set_option maxRecDepth 100000
set_option maxHeartbeats 4000000
namespace DL
open PySem PySem.Spec PyProof.Rows L2
def ins (k : Int) : List Int → List Int
  | [] => [k]
  | x :: xs => if k < x then k :: x :: xs else if k = x then x :: xs else x :: ins k xs
theorem up_uniq : ∀ {a b : List Int}, a.Pairwise (· < ·) → b.Pairwise (· < ·) → (∀ k, k ∈ a ↔ k ∈ b) → a = b
  | [], [], _, _, _ => rfl
  | [], y :: b, _, _, h => by have := (h y).mpr List.mem_cons_self; cases this
  | x :: a, [], _, _, h => by have := (h x).mp List.mem_cons_self; cases this
  | x :: a, y :: b, ha, hb, h => by
    rw [List.pairwise_cons] at ha hb
    have e : x = y := by
      have h1 := (h x).mp List.mem_cons_self
      have h2 := (h y).mpr List.mem_cons_self
      rcases List.mem_cons.mp h1 with q | q
      · exact q
      · rcases List.mem_cons.mp h2 with r | r
        · exact r.symm
        · have := hb.1 x q
          have := ha.1 y r
          omega
    subst e
    congr 1
    refine up_uniq ha.2 hb.2 fun k => ?_
    have hk := h k
    simp only [List.mem_cons] at hk
    constructor
    · intro q
      rcases hk.mp (.inr q) with r | r
      · have := ha.1 k q; omega
      · exact r
    · intro q
      rcases hk.mpr (.inr q) with r | r
      · have := hb.1 k q; omega
      · exact r
def over (s : Stretch) (m : Int) : Bool := decide (s.b ≤ m) && decide (m < s.e)
def loadAt (bk : List Stretch) (l : List Nat) (m : Int) : Nat := (l.filter fun i => over (st bk i) m).length
def iD (l : List Int) : List D := l.map D.int
end DL
set_option Elab.async false
set_option linter.all false
set_option maxRecDepth 100000
set_option maxHeartbeats 4000000
namespace DL
open PySem PySem.Spec PyProof.Rows L2
/-- x is True, x is False -/
@[simp] def oIsB : OD := fun x y G Q => match x, y with
  | .bl a, .bl b => Q (.bl (decide (a = b))) G
  | _, _ => False
@[simp] def oNotB : OD := fun x y G Q => match x, y with
  | .bl a, .bl b => Q (.bl (!decide (a = b))) G
  | _, _ => False
end DL
set_option Elab.async false
set_option linter.all false
set_option maxRecDepth 100000
set_option maxHeartbeats 4000000
namespace DL
open PySem PySem.Spec PyProof.Rows L2
@[simp ↓ high] theorem ix_0 {s : Stretch} {G : Gp} {Q : DK} : oIx s.d (.int 0) G Q = Q (.str s.name) G := by simp [Stretch.d, atI, ixN]
@[simp ↓ high] theorem ix_1 {s : Stretch} {G : Gp} {Q : DK} : oIx s.d (.int 1) G Q = Q (.int s.b) G := by simp [Stretch.d, atI, ixN]
@[simp ↓ high] theorem ix_2 {s : Stretch} {G : Gp} {Q : DK} : oIx s.d (.int 2) G Q = Q (.int s.e) G := by simp [Stretch.d, atI, ixN]
@[simp ↓ high] theorem ix_3 {s : Stretch} {G : Gp} {Q : DK} : oIx s.d (.int 3) G Q = Q (.int s.w) G := by simp [Stretch.d, atI, ixN]
@[simp] theorem sh_int (i : Int) : SeqAt.shaped (.int i) = true := rfl
@[simp] theorem sh_bool (i : Bool) : SeqAt.shaped (.bool i) = true := rfl
@[simp] theorem sh_none : SeqAt.shaped .none = true := rfl
@[simp] theorem eqv_ii (a b : Int) : PyData.eqv (.int a) (.int b) = decide (a = b) := by simp only [PyData.eqv]; rfl
@[simp] theorem eqv_bb (a b : Bool) : PyData.eqv (.bool a) (.bool b) = (a == b) := by cases a <;> cases b <;> decide
@[simp] theorem kit_bool_bool : kitB "bool" "bool" = some true := by decide +kernel
@[simp] theorem kit_int_int1 : kitB "int" "int" = some true := by decide +kernel
@[simp] theorem kit_int_bool1 : kitB "int" "bool" = some false := by decide +kernel
@[simp] theorem kit_tuple_tuple : kitB "tuple" "tuple" = some true := by decide +kernel
@[simp] theorem kit_list_list : kitB "list" "list" = some true := by decide +kernel
theorem ints_at {l : List Int} {i : Int} (h0 : 0 ≤ i) (h1 : i < l.length) : ∃ m, atI (l.map D.int) i = some (.int m) ∧ m ∈ l := by
  obtain ⟨d, e, hd⟩ := at_mem (ds := l.map D.int) h0 (by simpa using h1)
  obtain ⟨m, hm, rfl⟩ := List.mem_map.mp hd
  exact ⟨m, e, hm⟩
end DL
set_option Elab.async false
set_option linter.all false
set_option maxRecDepth 100000
set_option maxHeartbeats 4000000
namespace DL
open PySem PySem.Spec PyProof.Rows L2
/-- a loop, the rest of what is walked known -/
theorem forW_ind {α : Type} {g : α → D} {t : Tg} {tb : ES} {Kp : Gp → Prop} {N : En} (I : List α → Sd → Gp → Prop) (hK : ∀ xs s G, I xs s G → Kp G)
    (h : ∀ x xs s G (W : Sd → Gp → Prop), I (x :: xs) s G → (∀ s' G', I xs s' G' → W s' G') → match asg t (g x) s with
      | some s' => tb { N with nx := W, ct := W, bk := N.nx } s' G
      | none => False) (k : ∀ s G, I [] s G → N.nx s G) : ∀ (xs : List α) (s : Sd) (G : Gp), I xs s G → forW t tb Kp N (xs.map g) s G
  | [], s, G, hI => ⟨hK _ s G hI, k s G hI⟩
  | x :: xs, s, G, hI => ⟨hK _ s G hI, h x xs s G _ hI fun s' G' hI' => forW_ind I hK h k xs s' G' hI'⟩
theorem flDs_ints : ∀ l : List Int, flDs (l.map D.int) = some (l.map V.int)
  | [] => rfl
  | n :: l => by simp [flDs_ints l]
theorem inV_ints (m : Int) : ∀ l : List Int, inV (.int m) (l.map V.int) = decide (m ∈ l)
  | [] => by simp [inV]
  | n :: l => by
    have := inV_ints m l
    simp only [inV, List.map_cons, List.any_cons] at this ⊢
    rw [this]
    have e : eqV (.int n) (.int m) = decide (m = n) := by
      show (n == m) = _
      by_cases h : n = m
      · subst h; simp
      · have h2 : ¬ m = n := fun q => h q.symm
        simp [h, h2]
    rw [e]
    by_cases h : m = n <;> simp [h]
end DL
set_option Elab.async false
set_option linter.all false
set_option maxRecDepth 100000
set_option maxHeartbeats 4000000
namespace DL
open PySem PySem.Spec PyProof.Rows L2
theorem gsub {G : Gp} {p : Addr} {o : GO} (n : G p = none) : ∀ a u, G a = some u → gput G p o a = some u := fun a u e => by
  have : a ≠ p := fun z => by subst z; rw [n] at e; cases e
  rw [gput_ne this]; exact e
end DL
set_option Elab.async false
set_option linter.all false
set_option maxRecDepth 100000
set_option maxHeartbeats 4000000
namespace DL
open PySem PySem.Spec PyProof.Rows L2
theorem st_mem {bk : List Stretch} {i : Nat} (hi : i < bk.length) : st bk i ∈ bk := by
  unfold st; rw [List.getD_eq_getElem?_getD, List.getElem?_eq_getElem hi]; exact List.getElem_mem hi
theorem some_len0 {n : Nat} : ∀ {l : List Nat} {lo : Nat}, (∀ i ∈ l, lo ≤ i ∧ i < n) → l.Pairwise (· < ·) → l.length ≤ n - lo
  | [], _, _, _ => Nat.zero_le _
  | x :: l, lo, h, up => by
    rw [List.pairwise_cons] at up
    have hx := h x List.mem_cons_self
    have := some_len0 (n := n) (l := l) (lo := x + 1) (fun i hi => ⟨up.1 i hi, (h i (List.mem_cons_of_mem _ hi)).2⟩) up.2
    simp; omega
theorem some_len {n : Nat} {l : List Nat} (h : Some n l) : l.length ≤ n := some_len0 (lo := 0) (fun i hi => ⟨Nat.zero_le _, h.lt i hi⟩) h.up
end DL
set_option Elab.async false
set_option linter.all false
set_option maxRecDepth 100000
set_option maxHeartbeats 4000000
namespace DL
open PySem PySem.Spec PyProof.Rows L2
end DL
set_option Elab.async false
set_option linter.all false
set_option maxRecDepth 100000
set_option maxHeartbeats 4000000
namespace DL
open PySem PySem.Spec PyProof.Rows L2
end DL
set_option Elab.async false
set_option linter.all false
set_option maxRecDepth 100000
set_option maxHeartbeats 4000000
namespace DL
open PySem PySem.Spec PyProof.Rows L2
theorem cut_take (xs : List D) (k : Nat) : cutD xs none (some (k : Int)) = xs.take k := by
  unfold cutD
  rw [HT.sIx_none, HT.sIx_nat]
  simp only [List.drop_zero, Nat.sub_zero]
  rcases Nat.le_total k xs.length with h | h
  · rw [Nat.min_eq_left h]
  · rw [Nat.min_eq_right h, List.take_of_length_le (Nat.le_refl _), List.take_of_length_le h]
theorem cut_drop (xs : List D) (k : Nat) : cutD xs (some (k : Int)) none = xs.drop k := by
  unfold cutD
  rw [HT.sIx_none, HT.sIx_nat]
  rcases Nat.le_total k xs.length with h | h
  · rw [Nat.min_eq_left h, List.take_of_length_le (by simp)]
  · rw [Nat.min_eq_right h, List.drop_eq_nil_of_le h]; simp
theorem eqvAll_ints : ∀ (l l' : List Int), PyData.eqvAll (l.map PyData.int) (l'.map PyData.int) = decide (l = l')
  | [], [] => by simp [PyData.eqvAll]
  | [], b :: l' => by simp [PyData.eqvAll]
  | a :: l, [] => by simp [PyData.eqvAll]
  | a :: l, b :: l' => by simp [PyData.eqvAll, eqvAll_ints l l']
theorem eqv_ints (l l' : List Int) : PyData.eqv (.list (l.map PyData.int)) (.list (l'.map PyData.int)) = decide (l = l') := by
  simp only [PyData.eqv]; exact eqvAll_ints l l'
theorem eqv_nats (l l' : List Nat) : PyData.eqv (.list (l.map fun (i : Nat) => PyData.int (i : Int))) (.list (l'.map fun (i : Nat) => PyData.int (i : Int))) = decide (l = l') := by
  have e : ∀ l : List Nat, (l.map fun (i : Nat) => PyData.int (i : Int)) = (l.map fun (i : Nat) => (i : Int)).map PyData.int := fun l => by simp [Function.comp_def]
  rw [e, e, eqv_ints, decide_eq_decide]
  constructor
  · intro h
    exact List.map_inj_right (fun a b h => Int.ofNat_inj.mp h) |>.mp h
  · intro h; rw [h]
theorem flDs_nD (l : List Nat) : flDs (nD l) = some (l.map fun (i : Nat) => V.int (i : Int)) := by
  have e : nD l = (l.map fun (i : Nat) => (i : Int)).map D.int := by simp [nD, Function.comp_def]
  rw [e, flDs_ints, List.map_map]; rfl
theorem inV_nD (m : Nat) (l : List Nat) : inV (.int (m : Int)) (l.map fun (i : Nat) => V.int (i : Int)) = decide (m ∈ l) := by
  have e : (l.map fun (i : Nat) => V.int (i : Int)) = (l.map fun (i : Nat) => (i : Int)).map V.int := by rw [List.map_map]; rfl
  rw [e, inV_ints, decide_eq_decide]
  simp only [List.mem_map]
  constructor
  · rintro ⟨a, h1, h2⟩
    have : a = m := by omega
    exact this ▸ h1
  · intro h; exact ⟨m, h, rfl⟩
theorem up_uniqN {a b : List Nat} (ha : a.Pairwise (· < ·)) (hb : b.Pairwise (· < ·)) (h : ∀ k, k ∈ a ↔ k ∈ b) : a = b := by
  have up : ∀ l : List Nat, l.Pairwise (· < ·) → (l.map fun (i : Nat) => (i : Int)).Pairwise (· < ·) := fun l hl => List.pairwise_map.mpr (hl.imp fun h => by omega)
  have e := up_uniq (up a ha) (up b hb) fun k => by
    simp only [List.mem_map]
    constructor
    · rintro ⟨x, hx, e⟩; exact ⟨x, (h x).mp hx, e⟩
    · rintro ⟨x, hx, e⟩; exact ⟨x, (h x).mpr hx, e⟩
  exact (List.map_inj_right (fun a b h => Int.ofNat_inj.mp h)).mp e
end DL
set_option Elab.async false
set_option linter.all false
set_option maxRecDepth 100000
set_option maxHeartbeats 4000000
namespace DL
open PySem PySem.Spec PyProof.Rows L2
/-- sorted(set(xs)), owned -/
@[simp] def eSortedSetO (ea : EA) : EE := fun s G Q => ea s G fun xs G1 => match xs with
  | [x] => (match (lkL G1 x).bind intsD with
    | some ns => ns.length < 64 ∧ ∀ ms : List Int, ms.Pairwise (· < ·) → (∀ k : Int, k ∈ ms ↔ k ∈ ns) → ∀ p, G1 p = none → Q (.ref p) (gput G1 p (.lst (ms.map D.int)))
    | none => False)
  | _ => False
end DL
set_option Elab.async false
set_option linter.all false
set_option maxRecDepth 100000
set_option maxHeartbeats 4000000
namespace DL
open PySem PySem.Spec PyProof.Rows L2
/-- xs[::-1]: a new list, frozen -/
@[simp] def eRevL (te : EE) : EE := fun s G Q => te s G fun x G1 => match lkL G1 x with
  | some ds => Q (.lst ds.reverse) G1
  | none => False
section
variable {X : Cx} {K : PySem.W.Frag} {P : Addr → Prop} {G : Gp} {H : Hp}
theorem Reps.reverse : ∀ {ds : List D} {vs : List V}, Reps K H G P ds vs → Reps K H G P ds.reverse vs.reverse
  | [], _, h => by unfold Reps at h; subst h; exact reps_nil
  | d :: ds, _, h => by
    unfold Reps at h
    obtain ⟨x, r, rfl, h1, h2⟩ := h
    rw [List.reverse_cons, List.reverse_cons]
    exact (Reps.reverse h2).append (reps_cons h1 reps_nil)
end
/-- a comprehension, the rest of what is walked known -/
theorem compW_ind {α : Type} {g : α → D} {s0 : Sd} {t : Tg} {tt : ET} {te : EE} {Kp : Gp → Prop} {Q : List D → Gp → Prop} (I : List α → List D → Gp → Prop) (hK : ∀ xs acc G, I xs acc G → Kp G)
    (h : ∀ x xs acc G (W : List D → Gp → Prop), I (x :: xs) acc G → (∀ acc' G', I xs acc' G' → W acc' G') → match asg t (g x) s0 with
      | none => False
      | some s' => tt s' G fun b G1 => if b = true then te s' G1 fun v G2 => W (acc ++ [v]) G2 else W acc G1) (k : ∀ acc G, I [] acc G → Q acc G) : ∀ (xs : List α) (acc : List D) (G : Gp), I xs acc G → compW s0 t tt te Kp (xs.map g) acc G Q
  | [], acc, G, hI => ⟨hK _ _ G hI, k acc G hI⟩
  | x :: xs, acc, G, hI => ⟨hK _ _ G hI, h x xs acc G _ hI fun acc' G' hI' => compW_ind I hK h k xs acc' G' hI'⟩
end DL
set_option Elab.async false
set_option linter.all false
set_option maxRecDepth 100000
set_option maxHeartbeats 4000000
namespace DL
open PySem PySem.Spec PyProof.Rows L2
theorem rngD_map (n : Nat) : rngD 0 n = (List.range' 0 n).map fun (i : Nat) => D.int (i : Int) := by
  unfold rngD
  rw [List.range_eq_range']
  exact List.map_congr_left fun a _ => by simp
theorem forW_rng {n : Nat} {t : Tg} {tb : ES} {N : En} {s : Sd} {G : Gp} (I : Nat → Sd → Gp → Prop)
    (h : ∀ (j : Nat) s G (W : Sd → Gp → Prop), j < n → I j s G → (∀ s' G', I (j + 1) s' G' → W s' G') → match asg t (.int (j : Int)) s with
      | some s' => tb { N with nx := W, ct := W, bk := N.nx } s' G
      | none => False) (k : ∀ s G, I n s G → N.nx s G) (h0 : I 0 s G) : forW t tb (fun _ => True) N (rngD 0 n) s G := by
  rw [rngD_map]
  refine forW_ind (fun r s G => ∃ j, r = List.range' j (n - j) ∧ j ≤ n ∧ I j s G) (fun _ _ _ _ => trivial) ?_ ?_ _ _ _ ⟨0, by simp, Nat.zero_le _, h0⟩
  · rintro x r s G W ⟨j, e, hj, hI⟩ hW
    have hlt : j < n := by
      rcases Nat.lt_or_ge j n with q | q
      · exact q
      · rw [Nat.sub_eq_zero_of_le q] at e; simp at e
    rw [show n - j = (n - (j + 1)) + 1 by omega, List.range'_succ] at e
    cases e
    exact h x s G W hlt hI fun s' G' hI' => hW s' G' ⟨x + 1, rfl, hlt, hI'⟩
  · rintro s G ⟨j, e, hj, hI⟩
    have : j = n := by
      have := congrArg List.length e
      simp at this
      omega
    subst this
    exact k s G hI
end DL
set_option Elab.async false
set_option linter.all false
set_option maxRecDepth 100000
set_option maxHeartbeats 4000000
namespace DL
open PySem PySem.Spec PyProof.Rows L2
@[simp] def keyD : D → Option Key
  | .int i => some (.inl i)
  | .str x => some (.inr x)
  | _ => none
def lkD (G : Gp) : D → Option (List Key × List D)
  | .dct ks ds => some (ks, ds)
  | .ref a => match G a with
    | some (.dct ks ds) => some (ks, ds)
    | _ => none
  | _ => none
@[simp] theorem lkD_dct {G : Gp} {ks : List Key} {ds : List D} : lkD G (.dct ks ds) = some (ks, ds) := rfl
@[simp] theorem lkD_ref {G : Gp} {a : Addr} : lkD G (.ref a) = match G a with
    | some (.dct ks ds) => some (ks, ds)
    | _ => none := rfl
def valD : List Key → List D → Key → Option D
  | k' :: ks, d :: ds, k => if k' = k then some d else valD ks ds k
  | _, _, _ => none
def putDs : List Key → List D → Key → D → List D
  | k' :: ks, d' :: ds, k, d => (if k' = k then d else d') :: putDs ks ds k d
  | _, _, _, _ => []
def hasK (ks : List Key) (k : Key) : Bool := ks.any fun k' => decide (k' = k)
/-- the keys, the values behind d[k] = v -/
def putKs (ks : List Key) (k : Key) : List Key := if hasK ks k = true then ks else ks ++ [k]
def putVs (ks : List Key) (ds : List D) (k : Key) (d : D) : List D := if hasK ks k = true then putDs ks ds k d else ds ++ [d]
@[simp] def oDGet : OD := fun x y G Q => match lkD G x, keyD y with
  | some (ks, ds), some k => (match valD ks ds k with
    | some d => Q d G
    | none => False)
  | _, _ => False
@[simp] def oDIn : OD := fun y x G Q => match lkD G x, keyD y with
  | some (ks, ds), some k => Q (.bl (valD ks ds k).isSome) G
  | _, _ => False
@[simp] def oDNotIn : OD := fun y x G Q => match lkD G x, keyD y with
  | some (ks, ds), some k => Q (.bl (!(valD ks ds k).isSome)) G
  | _, _ => False
section
variable {X : Cx} {K : PySem.W.Frag} {P : Addr → Prop} {G : Gp} {H : Hp}
theorem key_of {d : D} {v : V} {k : Key} (h : Rep K H G P d v) (e : keyD d = some k) : v = kV k := by
  cases d with
  | int i => cases e; rw [rep_i h]; rfl
  | str i => cases e; rw [rep_s h]; rfl
  | _ => cases e
theorem lkD_hp (w : Wo K P G H) {d : D} {v : V} {ks : List Key} {ds : List D} (h : Rep K H G P d v) (e : lkD G d = some (ks, ds)) : ∃ a xs, v = .ref a ∧ H a = some (.dK (ks.zip xs)) ∧ ks.length = ds.length ∧ Reps K H G P ds xs := by
  cases d with
  | dct ks' ds' =>
    cases e
    unfold Rep at h
    obtain ⟨a, xs, rfl, g, p, r, z, q⟩ := h
    exact ⟨a, xs, rfl, r, z, q⟩
  | ref a =>
    unfold Rep at h
    obtain ⟨rfl, o, ho⟩ := h
    simp only [lkD, ho] at e
    cases o with
    | dct ks' ds' =>
      cases e
      obtain ⟨ho', e1, xs, rfl, z, q⟩ := w.own a _ ho
      exact ⟨a, xs, rfl, e1, z, q⟩
    | _ => cases e
  | _ => cases e
theorem val_some {k : Key} : ∀ {ks : List Key} {ds : List D} {xs : List V} {d : D}, Reps K H G P ds xs → valD ks ds k = some d → ∃ v, valV (ks.zip xs) k = some v ∧ Rep K H G P d v
  | [], _, _, _, _, e => by unfold valD at e; cases e
  | k' :: ks, [], _, _, _, e => by unfold valD at e; cases e
  | k' :: ks, d' :: ds, _, d, q, e => by
    unfold Reps at q
    obtain ⟨x, r, rfl, h1, h2⟩ := q
    unfold valD at e
    rw [List.zip_cons_cons]
    split at e
    · rename_i h
      cases e
      exact ⟨x, valV_pos h, h1⟩
    · rename_i h
      rw [valV_neg h]
      exact val_some h2 e
theorem lo_dget : LO K (fun x y H Q => ∃ a v, x = .ref a ∧ DGet H a y (some v) ∧ Q v H) oDGet := fun P G H x y u v Q R h w rx ry k => by
  unfold oDGet at h
  split at h
  · rename_i ks ds kk e1 e2
    split at h
    · rename_i d e3
      obtain ⟨a, xs, rfl, r, z, q⟩ := lkD_hp w rx e1
      obtain ⟨v', e4, r4⟩ := val_some q e3
      rw [key_of ry e2]
      exact ⟨a, v', rfl, by rw [← e4]; exact DGet.k r, k d G v' H (Step.refl _ _) w r4 h⟩
    · exact h.elim
  · exact h.elim
theorem j_dget {o i : Expr} {eo ei : EE} {pos : Pos} (hu : X.A.units + 1 < cLine) (ho : JE X o eo) (hi : JE X i ei) (hs : NoSl i := by intro _ _; rfl) : JE X (.Subscript o i pos) (eOp oDGet eo ei) :=
  ⟨pe_dget hu ho.pe hi.pe hs, le_op lo_dget ho.le hi.le⟩
/-- {}: owned; frozen -/
@[simp] def eDnewO : EE := fun _ G Q => ∀ p, G p = none → Q (.ref p) (gput G p (.dct [] []))
@[simp] def eDnew0 : EE := fun _ G Q => Q (.dct [] []) G
theorem j_dnewO {pos : Pos} : JE X (.Dict [] [] pos) eDnewO := ⟨pe_dnewK, fun P s G Q σ H R h r k => fun p hp => by
  have st : Step G H (gput G p (.dct [] [])) (upd H p (.dK [])) := Step.newOwn r.wo hp
  exact k _ _ _ _ st (r.wo.newOwn hp ⟨[], rfl, rfl, reps_nil⟩) (by unfold Rep; exact ⟨rfl, _, gput_same⟩) (h p (r.wo.fresh hp).1)⟩
/-- d[k] = v, d owned -/
@[simp] def sPutD (te to ti : EE) : ES := fun N s G => te s G fun v G1 => to s G1 fun o G2 => ti s G2 fun i G3 => match o, keyD i with
  | .ref p, some k => (match G3 p with
    | some (.dct ks ds) => ks.length < sizeLine ∧ N.nx s (gput G3 p (.dct (putKs ks k) (putVs ks ds k v)))
    | _ => False)
  | _, _ => False
theorem zip_app {ks : List Key} {xs : List V} (h : ks.length = xs.length) (k : Key) (v : V) : ks.zip xs ++ [(k, v)] = (ks ++ [k]).zip (xs ++ [v]) := by
  rw [List.zip_append h]; rfl
def putXs : List Key → List V → Key → V → List V
  | k' :: ks, x :: xs, k, v => (if k' = k then v else x) :: putXs ks xs k v
  | _, _, _, _ => []
theorem zip_put {k : Key} {v : V} : ∀ (ks : List Key) (xs : List V), (ks.zip xs).map (fun kv => if kv.1 = k then (kv.1, v) else kv) = ks.zip (putXs ks xs k v)
  | [], xs => by simp
  | k' :: ks, [] => by simp [putXs]
  | k' :: ks, x :: xs => by
    rw [List.zip_cons_cons, List.map_cons, zip_put ks xs, putXs, List.zip_cons_cons]
    congr 1
    by_cases e : k' = k
    · rw [if_pos e, if_pos e]
    · rw [if_neg e, if_neg e]
theorem reps_put {k : Key} {d : D} {v : V} (hd : Rep K H G P d v) : ∀ {ks : List Key} {ds : List D} {xs : List V}, Reps K H G P ds xs → ks.length = ds.length → Reps K H G P (putDs ks ds k d) (putXs ks xs k v) ∧ (putDs ks ds k d).length = ks.length
  | [], [], _, q, _ => by unfold Reps at q; subst q; exact ⟨reps_nil, rfl⟩
  | [], _ :: _, _, _, e => by cases e
  | _ :: _, [], _, _, e => by cases e
  | k' :: ks, d' :: ds, _, q, e => by
    unfold Reps at q
    obtain ⟨x, r, rfl, h1, h2⟩ := q
    obtain ⟨a, b⟩ := reps_put (k := k) hd h2 (by simpa using e)
    unfold putDs putXs
    refine ⟨reps_cons ?_ a, by simp [b]⟩
    split
    · exact hd
    · exact h1
theorem zip_any {k : Key} : ∀ {ks : List Key} {xs : List V}, ks.length = xs.length → ((ks.zip xs).any fun kv => decide (kv.1 = k)) = hasK ks k
  | [], _, _ => rfl
  | _ :: _, [], e => by cases e
  | k' :: ks, x :: xs, e => by
    rw [List.zip_cons_cons, List.any_cons, zip_any (by simpa using e)]
    rfl
theorem reps_putV {ks : List Key} {ds : List D} {xs : List V} {k : Key} {d : D} {v : V} (hd : Rep K H G P d v) (q : Reps K H G P ds xs) (z : ks.length = ds.length) : ∃ ys, putK (ks.zip xs) k v = (putKs ks k).zip ys ∧ (putKs ks k).length = (putVs ks ds k d).length ∧ Reps K H G P (putVs ks ds k d) ys := by
  have l : ks.length = xs.length := by rw [z, q.length]
  unfold putK putKs putVs
  rw [zip_any l]
  by_cases h : hasK ks k = true
  · obtain ⟨a, b⟩ := reps_put (k := k) hd q z
    rw [if_pos h, if_pos h, if_pos h]
    exact ⟨putXs ks xs k v, zip_put ks xs, b.symm, a⟩
  · rw [if_neg h, if_neg h, if_neg h]
    exact ⟨xs ++ [v], zip_app l k v, by simp [z], q.append (reps_cons hd reps_nil)⟩
theorem js_putD {Y : Wx} {o i e : Expr} {eo ei ee : EE} {p' pos : Pos} (hu : X.A.units + 1 < cLine) (he : JE X e ee) (ho : JE X o eo) (hi : JE X i ei) (hs : swapsWith e (some (.Subscript o i p')) pos.line X.env = pure false := by rfl) : JS X Y (.Assign [.Subscript o i p'] e pos) (sPutD ee eo ei) :=
  ⟨ps_dput hu ho.pe hi.pe he.pe hs, fun P s G N σ H M h r k => by
    refine he.le P s G _ σ H _ h r fun v G1 u H1 s1 w1 r1 h1 => ?_
    refine ho.le P s G1 _ σ H1 _ h1 (r.step s1 w1) fun od G2 ov H2 s2 w2 r2 h2 => ?_
    refine hi.le P s G2 _ σ H2 _ h2 (r.step (s1.trans s2) w2) fun id G3 iv H3 s3 w3 r3 h3 => ?_
    split at h3
    · rename_i p kk e0
      split at h3
      · rename_i ks ds e1
        have r2' := r2.step s3
        unfold Rep at r2'
        obtain ⟨rfl, _⟩ := r2'
        rw [key_of r3 e0]
        obtain ⟨ho', e3, xs, rfl, z, q⟩ := w3.own p _ e1
        have rv := (r1.step s2).step s3
        obtain ⟨ys, e4, z4, q4⟩ := reps_putV (k := kk) rv q z
        refine ⟨p, _, rfl, DPut.k e3 (by rw [List.length_zip, ← q.length, ← z, Nat.min_self]; exact h3.1), ?_⟩
        rw [e4]
        have st : Step G3 H3 (gput G3 p (.dct (putKs ks kk) (putVs ks ds kk v))) (upd H3 p (.dK ((putKs ks kk).zip ys))) := Step.chg e1
        have sA := (((s1.trans s2).trans s3).trans st)
        exact k.nx s _ σ _ sA (r.step sA (w3.chg e1 ⟨_, rfl, z4, q4.step st⟩)) h3.2
      · exact h3.elim
    · exact h3.elim⟩
/-- sorted(d), the keys ints -/
def intKs : List Key → Option (List Int)
  | [] => some []
  | .inl i :: ks => (intKs ks).map (i :: ·)
  | .inr _ :: _ => none
theorem intKs_eq : ∀ {ks : List Key} {ns : List Int}, intKs ks = some ns → ks = ns.map Sum.inl
  | [], ns, e => by cases e; rfl
  | .inl i :: ks, ns, e => by
    unfold intKs at e
    obtain ⟨r, e1, rfl⟩ := opt_map e
    rw [intKs_eq e1]; rfl
  | .inr _ :: _, _, e => by unfold intKs at e; cases e
theorem intKs_map : ∀ ns : List Int, intKs (ns.map Sum.inl) = some ns
  | [] => rfl
  | n :: ns => by rw [List.map_cons, intKs, intKs_map ns]; rfl
@[simp] def cSortedDI : CD := fun xs G Q => match xs with
  | [x] => (match (lkD G x).bind fun p => intKs p.1 with
    | some ns => ns.length < 64 ∧ ∀ ms : List Int, ms.Perm ns → ms.Pairwise (· ≤ ·) → Q (.lst (ms.map D.int)) G
    | none => False)
  | _ => False
theorem lc_sortedDI : LC K (fun xs H Q => ∃ (a : Addr) (kvs : List (Key × V)) (ks : List Int), xs = [.ref a] ∧ Rd H a (.dK kvs) ∧ kvs.map (·.1) = ks.map Sum.inl ∧ ks.length < 64 ∧ ∀ (ys : List Int) (p : Addr), ys.Perm ks → ys.Pairwise (· ≤ ·) → H p = none → Q (.ref p) (upd H p (.lst (ys.map V.int)))) cSortedDI := fun P G H xs us Q R h w r k => by
  unfold cSortedDI at h
  split at h
  · obtain ⟨u, rfl, r1⟩ := reps1 r
    split at h
    · rename_i ns e
      cases e1 : lkD G _ with
      | none => rw [e1] at e; cases e
      | some p =>
        obtain ⟨ks, ds⟩ := p
        rw [e1] at e
        have e2 := intKs_eq e
        obtain ⟨a, xs, rfl, rr, z, q⟩ := lkD_hp w r1 e1
        refine ⟨a, _, ns, rfl, .inl rr, by rw [List.map_fst_zip (by rw [z, q.length]; exact Nat.le_refl _)]; exact e2, h.1, fun ms l pm up hl => ?_⟩
        obtain ⟨f1, f2⟩ := w.fresh hl
        have st : Step G H G (upd H l (.lst (ms.map V.int))) := Step.new hl
        exact k _ G _ _ st (w.new hl) (rep_lst f1 f2 upd_same (by rw [List.length_map, pm.length_eq]; exact Nat.le_trans (Nat.le_of_lt h.1) (by decide)) reps_of_ints) (h.2 ms pm up)
    · exact h.elim
  · exact h.elim
@[simp] def mPop : MD := fun x xs G Q => match x, xs with
  | .ref p, [] => (match G p with
    | some (.lst ds) => (match ds[ds.length - 1]? with
      | some d => Q d (gput G p (.lst ds.dropLast))
      | none => False)
    | _ => False)
  | _, _ => False
@[simp] def mClear : MD := fun x xs G Q => match x, xs with
  | .ref p, [] => (match G p with
    | some (.lst ds) => Q .non (gput G p (.lst []))
    | _ => False)
  | _, _ => False
@[simp] def mIns : MD := fun x xs G Q => match x, xs with
  | .ref p, [.int i, y] => (match G p with
    | some (.lst ds) => ds.length < sizeLine ∧ 0 ≤ i ∧ i < 2 ^ 63 ∧ Q .non (gput G p (.lst (ds.take i.toNat ++ [y] ++ ds.drop i.toNat)))
    | _ => False)
  | _, _ => False
end
theorem hu_of {k : Nat} {A : Around} (r : Room k A) : A.units + 1 < cLine := by have := r.un; omega
end DL
set_option Elab.async false
set_option linter.all false
set_option maxRecDepth 100000
set_option maxHeartbeats 4000000
namespace DL
open PySem PySem.Spec PyProof.Rows L2
/-- d.get(k, x) -/
@[simp] def eDGet2 (to ti tx : EE) : EE := fun s G Q => to s G fun o G1 => (lkD G1 o).isSome = true ∧ ti s G1 fun y G2 => tx s G2 fun z G3 => match lkD G3 o, keyD y with
  | some (ks, ds), some k => Q ((valD ks ds k).getD z) G3
  | _, _ => False
/-- d.get(k) -/
@[simp] def eDGet1 (to ti : EE) : EE := fun s G Q => to s G fun o G1 => (lkD G1 o).isSome = true ∧ ti s G1 fun y G3 => match lkD G3 o, keyD y with
  | some (ks, ds), some k => Q ((valD ks ds k).getD .non) G3
  | _, _ => False
def dropKs : List Key → Key → List Key
  | k' :: ks, k => if k' = k then dropKs ks k else k' :: dropKs ks k
  | [], _ => []
def dropDs : List Key → List D → Key → List D
  | k' :: ks, d :: ds, k => if k' = k then dropDs ks ds k else d :: dropDs ks ds k
  | _, _, _ => []
/-- d.pop(k), k there, d owned -/
@[simp] def eDPop1 (to ti : EE) : EE := fun s G Q => to s G fun o G1 => (lkD G1 o).isSome = true ∧ ti s G1 fun y G2 => match o, keyD y with
  | .ref p, some k => (match G2 p with
    | some (.dct ks ds) => (match valD ks ds k with
      | some d => Q d (gput G2 p (.dct (dropKs ks k) (dropDs ks ds k)))
      | none => False)
    | _ => False)
  | _, _ => False
section
variable {X : Cx} {K : PySem.W.Frag} {P : Addr → Prop} {G : Gp} {H : Hp}
def pairsD : List D → Option (List (Key × D))
  | [] => some []
  | .tup [k, d] :: r => (match keyD k, pairsD r with
    | some kk, some ps => some ((kk, d) :: ps)
    | _, _ => none)
  | _ :: _ => none
def mergeDs : List Key → List D → List (Key × D) → List Key × List D
  | ks, ds, [] => (ks, ds)
  | ks, ds, (k, d) :: r => mergeDs (putKs ks k) (putVs ks ds k d) r
@[simp] def cDictPO : CD := fun xs G Q => match xs with
  | [x] => (match (lkL G x).bind pairsD with
    | some ps => ∀ p, G p = none → Q (.ref p) (gput G p (.dct (mergeDs [] [] ps).1 (mergeDs [] [] ps).2))
    | none => False)
  | _ => False
@[simp] def cDictDO : CD := fun xs G Q => match xs with
  | [x] => (match lkD G x with
    | some (ks, ds) => ∀ p, G p = none → Q (.ref p) (gput G p (.dct ks ds))
    | none => False)
  | _ => False
@[simp] def eDispC (k : Key) (d : D) : EE := fun _ G Q => Q (.dct [k] [d]) G
@[simp] def iRv (te : EE) : EI := fun s G Q => te s G fun x G1 => match lkL G1 x with
  | some ds => Q ds.reverse (stays x ds) G1
  | none => False
end
@[simp] def cAbs : CD := fun xs G Q => match xs with
  | [.int i] => Q (.int (if i < 0 then -i else i)) G
  | _ => False
end DL
set_option Elab.async false
set_option linter.all false
set_option maxRecDepth 100000
set_option maxHeartbeats 4000000
namespace DL
open PySem PySem.Spec PyProof.Rows L2
mutual
def frz (p : Addr) (ds : List D) : D → D
  | .ref a => if a = p then .lst ds else .ref a
  | .lst es => .lst (frzs p ds es)
  | .tup es => .tup (frzs p ds es)
  | .dct ks es => .dct ks (frzs p ds es)
  | .non => .non
  | .bl b => .bl b
  | .int b => .int b
  | .str b => .str b
  | .ty b => .ty b
  | .cl b => .cl b
  | .exc a dd f e => .exc a dd f (frz p ds e)
  | .scr b => .scr b
def frzs (p : Addr) (ds : List D) : List D → List D
  | [] => []
  | e :: es => frz p ds e :: frzs p ds es
end
theorem frzs_len {p : Addr} {ds : List D} : ∀ es : List D, (frzs p ds es).length = es.length
  | [] => rfl
  | e :: es => by simp only [frzs, List.length_cons, frzs_len es]
section
variable {K : PySem.W.Frag}
mutual
theorem Rep.frz {P : Addr → Prop} {G G2 : Gp} {H : Hp} {p : Addr} {ds : List D} (h2 : ∀ a, G a = none → G2 a = none) (hp : Rep K H G2 P (.lst ds) (.ref p)) : ∀ {d : D} {v : V}, RefIn G2 (DL.frz p ds d) → Rep K H G P d v → Rep K H G2 P (DL.frz p ds d) v
  | .non, _, _, h => by unfold DL.frz; unfold Rep at h ⊢; exact h
  | .bl _, _, _, h => by unfold DL.frz; unfold Rep at h ⊢; exact h
  | .int _, _, _, h => by unfold DL.frz; unfold Rep at h ⊢; exact h
  | .str _, _, _, h => by unfold DL.frz; unfold Rep at h ⊢; exact h
  | .ty _, _, _, h => by unfold DL.frz; unfold Rep at h ⊢; exact h
  | .cl _, _, _, h => by unfold DL.frz; unfold Rep at h ⊢; exact h
  | .exc a dd f e, _, q, h => by
    unfold DL.frz at q ⊢
    unfold Rep at h ⊢
    simp only [RefIn] at q
    obtain ⟨rfl, g, pp, u, r, t⟩ := h
    exact ⟨rfl, h2 _ g, pp, u, r, Rep.frz h2 hp q t⟩
  | .scr ns, _, _, h => by
    unfold DL.frz
    unfold Rep at h ⊢
    obtain ⟨a, rfl, z, ⟨⟨u, h⟩, g⟩ | ⟨h, g, pp⟩ | h⟩ := h
    · exact ⟨a, rfl, z, .inl ⟨⟨u, h⟩, h2 _ g⟩⟩
    · exact ⟨a, rfl, z, .inr (.inl ⟨h, h2 _ g, pp⟩)⟩
    · exact ⟨a, rfl, z, .inr (.inr h)⟩
  | .ref a, v, q, h => by
    unfold DL.frz at q ⊢
    by_cases e : a = p
    · rw [if_pos e]
      unfold Rep at h
      obtain ⟨rfl, _⟩ := h
      rw [e]; exact hp
    · rw [if_neg e] at q ⊢
      unfold Rep at h ⊢
      simp only [RefIn] at q
      exact ⟨h.1, q⟩
  | .lst es, _, q, h => by
    unfold DL.frz at q ⊢
    simp only [RefIn] at q
    unfold Rep at h ⊢
    obtain ⟨a, xs, rfl, g, p', r, z, t⟩ := h
    exact ⟨a, xs, rfl, h2 _ g, p', r, by rw [frzs_len]; exact z, Reps.frz h2 hp q t⟩
  | .tup es, _, q, h => by
    unfold DL.frz at q ⊢
    simp only [RefIn] at q
    unfold Rep at h ⊢
    obtain ⟨a, xs, rfl, g, p', r, z, t⟩ := h
    exact ⟨a, xs, rfl, h2 _ g, p', r, by rw [frzs_len]; exact z, Reps.frz h2 hp q t⟩
  | .dct ks es, _, q, h => by
    unfold DL.frz at q ⊢
    simp only [RefIn] at q
    unfold Rep at h ⊢
    obtain ⟨a, xs, rfl, g, p', r, z, t⟩ := h
    exact ⟨a, xs, rfl, h2 _ g, p', r, by rw [frzs_len]; exact z, Reps.frz h2 hp q t⟩
theorem Reps.frz {P : Addr → Prop} {G G2 : Gp} {H : Hp} {p : Addr} {ds : List D} (h2 : ∀ a, G a = none → G2 a = none) (hp : Rep K H G2 P (.lst ds) (.ref p)) : ∀ {es : List D} {vs : List V}, RefIns G2 (frzs p ds es) → Reps K H G P es vs → Reps K H G2 P (frzs p ds es) vs
  | [], _, _, h => by unfold frzs; unfold Reps at h ⊢; exact h
  | d :: es, _, q, h => by
    unfold frzs at q ⊢
    simp only [RefIns] at q
    unfold Reps at h ⊢
    obtain ⟨x, r, rfl, h1, h3⟩ := h
    exact ⟨x, r, rfl, Rep.frz h2 hp q.1 h1, Reps.frz h2 hp q.2 h3⟩
end
end
theorem fz_frz {G0 G' G2 : Gp} {p : Addr} {ds : List D} {d : D} (h1 : ∀ a o, G2 a = some o → G' a = some o) (h0 : ∀ a o, G0 a = some o → ∃ o', G2 a = some o') (hc : ∀ a o, G2 a = some o → RefO G2 o ∨ G0 a = some o) (e : G' p = some (.lst ds)) (n : G2 p = none) (hd : RefIns G2 ds) (hr : RefIn G2 (frz p ds d)) : Fz G0 d G' (frz p ds d) G2 := fun K P H0 H v w0 st w r => by
  have h2 : ∀ a, G' a = none → G2 a = none := fun a e => by
    cases q : G2 a with
    | none => rfl
    | some o => rw [h1 a o q] at e; cases e
  obtain ⟨a1, a2, a3⟩ := fz_lstS (p := p) h1 h0 hc e n hd K P H0 H (.ref p) w0 st w (by unfold Rep; exact ⟨rfl, _, e⟩)
  exact ⟨a1, a2, Rep.frz h2 a3 hr r⟩
theorem fin_frz {G0 G' G2 : Gp} {Q : DK} {p : Addr} {ds : List D} {d : D} (h1 : ∀ a o, G2 a = some o → G' a = some o) (h0 : ∀ a o, G0 a = some o → ∃ o', G2 a = some o') (hc : ∀ a o, G2 a = some o → RefO G2 o ∨ G0 a = some o) (e : G' p = some (.lst ds)) (n : G2 p = none) (hd : RefIns G2 ds) (hr : RefIn G2 (frz p ds d)) (q : Q (frz p ds d) G2) : (fin G0 Q).rt d G' := ⟨_, G2, fz_frz h1 h0 hc e n hd hr, q⟩
end DL
set_option Elab.async false
set_option linter.all false
set_option maxRecDepth 100000
set_option maxHeartbeats 4000000
namespace DL
open PySem PySem.Spec PyProof.Rows L2
abbrev Paper := List (Int × Int)
def qD (x : Int × Int) : D := .tup [.int x.1, .int x.2]
structure POk (pp : Paper) : Prop where
  len : pp.length ≤ 48
  up : pp.Pairwise fun x y => x.1 < y.1
  lo : ∀ x ∈ pp, -1000000000000 ≤ x.1
  hi : ∀ x ∈ pp, x.1 ≤ 999999999999
  p1 : ∀ x ∈ pp, 1 ≤ x.2
  p2 : ∀ x ∈ pp, x.2 ≤ 10000000000000
def toll (s : Stretch) (pp : Paper) : Int := ((pp.filter fun x => over s x.1).map (·.2)).sum
def restOf (s : Stretch) (pp : Paper) : Int := if s.w - toll s pp > 0 then s.w - toll s pp else 0
def claimOf (bk : List Stretch) (n : Int) (pp : Paper) : Int := n * (pp.map (·.2)).sum + (bk.map fun s => restOf s pp).sum
theorem stays_of {G : Gp} {x : D} {ds : List D} (h : lkL G x = some ds) : stays x ds G := by
  cases x with
  | ref a =>
    simp only [lkL] at h
    simp only [stays]
    split at h
    · rename_i e; rw [e]; cases h; rfl
    · cases h
  | _ => exact True.intro
theorem intsD_g {α : Type} {f : α → Int} : ∀ l : List α, intsD (l.map fun i => D.int (f i)) = some (l.map f)
  | [] => rfl
  | x :: l => by rw [List.map_cons, intsD, intsD_g l]; rfl
def kK (kv : List (Int × Int)) : List Key := kv.map fun p => .inl p.1
def kW (kv : List (Int × Int)) : List D := kv.map fun p => .int p.2
def putI (kv : List (Int × Int)) (k v : Int) : List (Int × Int) := if k ∈ kv.map (·.1) then kv.map (fun p => if p.1 = k then (p.1, v) else p) else kv ++ [(k, v)]
theorem inl_eq {a b : Int} : ((Sum.inl a : Key) = Sum.inl b) ↔ a = b := ⟨fun h => Sum.inl.inj h, fun h => h ▸ rfl⟩
theorem hasK_kK (k : Int) : ∀ kv : List (Int × Int), hasK (kK kv) (.inl k) = decide (k ∈ kv.map (·.1))
  | [] => rfl
  | p :: kv => by
    have := hasK_kK k kv
    unfold hasK kK at this ⊢
    rw [List.map_cons, List.any_cons, this]
    by_cases h : p.1 = k
    · simp [h]
    · have h2 : ¬ k = p.1 := fun q => h q.symm
      simp [inl_eq, h, h2]
theorem putKs_kK (kv : List (Int × Int)) (k v : Int) : putKs (kK kv) (.inl k) = kK (putI kv k v) := by
  unfold putKs putI
  rw [hasK_kK]
  by_cases h : k ∈ kv.map (·.1)
  · rw [if_pos (decide_eq_true h), if_pos h]
    unfold kK
    rw [List.map_map]
    apply List.map_congr_left
    intro p _
    simp only [Function.comp]
    split <;> rfl
  · rw [if_neg (by simpa using h), if_neg h]
    simp [kK]
theorem putDs_kW (k v : Int) : ∀ kv : List (Int × Int), putDs (kK kv) (kW kv) (.inl k) (.int v) = kW (kv.map fun p => if p.1 = k then (p.1, v) else p)
  | [] => rfl
  | p :: kv => by
    have := putDs_kW k v kv
    unfold kK kW at this ⊢
    simp only [List.map_cons, putDs, this, inl_eq]
    congr 1
    split <;> rfl
theorem putVs_kW (kv : List (Int × Int)) (k v : Int) : putVs (kK kv) (kW kv) (.inl k) (.int v) = kW (putI kv k v) := by
  unfold putVs putI
  rw [hasK_kK]
  by_cases h : k ∈ kv.map (·.1)
  · rw [if_pos (decide_eq_true h), if_pos h, putDs_kW]
  · rw [if_neg (by simpa using h), if_neg h]
    simp [kW]
def getI (kv : List (Int × Int)) (k : Int) : Option Int := (kv.find? fun p => decide (p.1 = k)).map (·.2)
theorem valD_kK (k : Int) : ∀ kv : List (Int × Int), valD (kK kv) (kW kv) (.inl k) = (getI kv k).map D.int
  | [] => rfl
  | p :: kv => by
    have := valD_kK k kv
    unfold kK kW at this ⊢
    simp only [List.map_cons, valD, inl_eq, this]
    unfold getI
    rw [List.find?_cons]
    by_cases h : p.1 = k <;> simp [h]
theorem getI_some {kv : List (Int × Int)} {k : Int} (h : k ∈ kv.map (·.1)) : ∃ v, getI kv k = some v ∧ (k, v) ∈ kv := by
  unfold getI
  cases e : kv.find? fun p => decide (p.1 = k) with
  | none =>
    rw [List.find?_eq_none] at e
    obtain ⟨p, hp, rfl⟩ := List.mem_map.mp h
    exact absurd (e p hp) (by simp)
  | some p =>
    have h1 := List.find?_some e
    have h2 := List.mem_of_find?_eq_some e
    simp at h1
    exact ⟨p.2, rfl, by rw [← h1]; exact h2⟩
theorem intKs_kK (kv : List (Int × Int)) : intKs (kK kv) = some (kv.map (·.1)) := by
  have := intKs_map (kv.map (·.1))
  rw [List.map_map] at this
  exact this
theorem putI_keys {kv : List (Int × Int)} {k v : Int} : (putI kv k v).map (·.1) = if k ∈ kv.map (·.1) then kv.map (·.1) else kv.map (·.1) ++ [k] := by
  unfold putI
  split
  · rw [List.map_map]
    apply List.map_congr_left
    intro p _
    simp only [Function.comp]
    split <;> rfl
  · simp
theorem putI_nodup {kv : List (Int × Int)} {k v : Int} (h : (kv.map (·.1)).Nodup) : ((putI kv k v).map (·.1)).Nodup := by
  rw [putI_keys]
  split
  · exact h
  · rename_i hk
    rw [List.nodup_append]
    exact ⟨h, by simp, fun a ha b hb e => by simp at hb; subst hb; subst e; exact hk ha⟩
theorem putI_mem {kv : List (Int × Int)} {k v : Int} {p : Int × Int} (h : p ∈ putI kv k v) : p ∈ kv ∨ p = (k, v) := by
  unfold putI at h
  split at h
  · obtain ⟨q, hq, rfl⟩ := List.mem_map.mp h
    split
    · rename_i e; exact .inr (by rw [e])
    · exact .inl hq
  · rcases List.mem_append.mp h with q | q
    · exact .inl q
    · simp at q; exact .inr q
theorem putI_len {kv : List (Int × Int)} {k v : Int} : (putI kv k v).length ≤ kv.length + 1 := by
  unfold putI
  split <;> simp
/-- the paper of sorted keys -/
def paperD (kv : List (Int × Int)) (ms : List Int) : Paper := ms.map fun m => (m, (getI kv m).getD 0)
end DL
set_option Elab.async false
set_option linter.all false
set_option maxRecDepth 100000
set_option maxHeartbeats 4000000
namespace DL
open PySem PySem.Spec PyProof.Rows L2
end DL
set_option Elab.async false
set_option linter.all false
set_option maxRecDepth 100000
set_option maxHeartbeats 4000000
namespace DL
open PySem PySem.Spec PyProof.Rows L2
/-- the greatest of some ints that is no more than m -/
theorem max_le (L : List Int) (m : Int) : (∀ x ∈ L, m < x) ∨ ∃ a ∈ L, a ≤ m ∧ ∀ x ∈ L, ¬ (a < x ∧ x ≤ m) := by
  induction L with
  | nil => exact .inl (by simp)
  | cons y L ih =>
    rcases ih with h | ⟨a, ha, h1, h2⟩
    · by_cases hy : y ≤ m
      · refine .inr ⟨y, List.mem_cons_self, hy, fun x hx q => ?_⟩
        rcases List.mem_cons.mp hx with z | z
        · omega
        · have := h x z; omega
      · refine .inl fun x hx => ?_
        rcases List.mem_cons.mp hx with z | z
        · omega
        · exact h x z
    · by_cases hy : a < y ∧ y ≤ m
      · refine .inr ⟨y, List.mem_cons_self, hy.2, fun x hx q => ?_⟩
        rcases List.mem_cons.mp hx with z | z
        · omega
        · exact h2 x z ⟨by omega, q.2⟩
      · refine .inr ⟨a, List.mem_cons_of_mem _ ha, h1, fun x hx q => ?_⟩
        rcases List.mem_cons.mp hx with z | z
        · subst z; exact hy q
        · exact h2 x z q
theorem atI_lastG {α : Type} {l : List α} {d : α} (h : l.getLast? = some d) : atI l (-1) = some d := by
  obtain ⟨ys, rfl⟩ := List.getLast?_eq_some_iff.mp h
  have e : ixN (ys ++ [d]).length (-1) = some ys.length := by
    unfold ixN
    simp
    omega
  unfold atI
  rw [e]
  simp
end DL
set_option Elab.async false
set_option linter.all false
set_option maxRecDepth 100000
set_option maxHeartbeats 4000000
namespace DL
open PySem PySem.Spec PyProof.Rows L2
end DL
set_option Elab.async false
set_option linter.all false
set_option maxRecDepth 100000
set_option maxHeartbeats 4000000
namespace DL
open PySem PySem.Spec PyProof.Rows L2
theorem sum_le {α : Type} {f g : α → Int} : ∀ {l : List α}, (∀ x ∈ l, f x ≤ g x) → (l.map f).sum ≤ (l.map g).sum
  | [], _ => by simp
  | x :: l, h => by
    have h1 := h x List.mem_cons_self
    have h2 := sum_le (f := f) (g := g) (l := l) fun y hy => h y (List.mem_cons_of_mem _ hy)
    simp; omega
theorem sum_add {α : Type} {f g : α → Int} : ∀ {l : List α}, (l.map fun x => f x + g x).sum = (l.map f).sum + (l.map g).sum
  | [] => by simp
  | x :: l => by
    have := sum_add (f := f) (g := g) (l := l)
    simp only [List.map_cons, List.sum_cons, this]; omega
theorem sum_sub_le {α : Type} {f : α → Int} {a b : List α} (h : a.Sublist b) (hf : ∀ x ∈ b, 0 ≤ f x) : (a.map f).sum ≤ (b.map f).sum := by
  induction h with
  | slnil => simp
  | cons x _ ih =>
    have h1 := hf x List.mem_cons_self
    have h2 := ih fun y hy => hf y (List.mem_cons_of_mem _ hy)
    simp; omega
  | cons_cons x _ ih =>
    have h2 := ih fun y hy => hf y (List.mem_cons_of_mem _ hy)
    simp; omega
theorem rest_nonneg (s : Stretch) (pp : Paper) : 0 ≤ restOf s pp := by unfold restOf; split <;> omega
theorem rest_ge (s : Stretch) (pp : Paper) : s.w ≤ restOf s pp + toll s pp := by unfold restOf; split <;> omega
theorem some_sub {n : Nat} {l : List Nat} (h : Some n l) : l.Sublist (List.range n) := by
  have e : l = (List.range n).filter fun i => decide (i ∈ l) := up_uniqN h.up (List.Pairwise.filter _ List.pairwise_lt_range) fun i => by
    simp
    exact fun hi => h.lt i hi
  rw [e]
  exact List.filter_sublist
theorem map_range_st (bk : List Stretch) : (List.range bk.length).map (st bk) = bk := by
  apply List.ext_getElem (by simp)
  intro i h1 h2
  simp [st, List.getD_eq_getElem?_getD, List.getElem?_eq_getElem h2]
theorem toll_eq (s : Stretch) : ∀ pp : Paper, toll s pp = (pp.map fun x => if over s x.1 = true then x.2 else 0).sum
  | [] => rfl
  | x :: pp => by
    have ih := toll_eq s pp
    unfold toll at ih ⊢
    by_cases h : over s x.1 = true
    · rw [List.filter_cons_of_pos (by simpa using h)]; simp [h, ih]
    · rw [List.filter_cons_of_neg (by simpa using h)]; simp [h, ih]
theorem load_cons {bk : List Stretch} {i : Nat} {l : List Nat} {m : Int} : (loadAt bk (i :: l) m : Int) = (if over (st bk i) m = true then 1 else 0) + (loadAt bk l m : Int) := by
  unfold loadAt
  by_cases h : over (st bk i) m = true
  · rw [List.filter_cons_of_pos (by simpa using h)]; simp [h]; omega
  · rw [List.filter_cons_of_neg (by simpa using h)]; simp [h]
/-- tolls by moments -/
theorem toll_swap (bk : List Stretch) (pp : Paper) : ∀ (l : List Nat), (l.map fun i => toll (st bk i) pp).sum = (pp.map fun x => x.2 * (loadAt bk l x.1 : Int)).sum
  | [] => by
    have e : (pp.map fun x => x.2 * (loadAt bk [] x.1 : Int)) = pp.map fun _ => (0 : Int) := List.map_congr_left fun x _ => by simp [loadAt]
    rw [e]
    have z : ∀ l : Paper, (l.map fun _ => (0 : Int)).sum = 0 := fun l => by
      induction l with
      | nil => rfl
      | cons x l ih => rw [List.map_cons, List.sum_cons, ih]; rfl
    rw [z]; rfl
  | i :: l => by
    have ih := toll_swap bk pp l
    rw [List.map_cons, List.sum_cons, ih, toll_eq, ← sum_add]
    congr 1
    apply List.map_congr_left
    intro x _
    rw [load_cons, Int.mul_add]
    congr 1
    split <;> simp
theorem worth_le_rest {bk : List Stretch} {l : List Nat} {pp : Paper} (h : Some bk.length l) : worthOf bk l ≤ (bk.map fun s => restOf s pp).sum + (pp.map fun x => x.2 * (loadAt bk l x.1 : Int)).sum := by
  have h1 : worthOf bk l ≤ (l.map fun i => restOf (st bk i) pp).sum + (l.map fun i => toll (st bk i) pp).sum := by
    rw [← sum_add]
    exact sum_le fun i _ => rest_ge _ _
  have h2 : (l.map fun i => restOf (st bk i) pp).sum ≤ (bk.map fun s => restOf s pp).sum := by
    have := sum_sub_le (f := fun i => restOf (st bk i) pp) (some_sub h) fun i _ => rest_nonneg _ _
    have e : (List.range bk.length).map (fun i => restOf (st bk i) pp) = bk.map fun s => restOf s pp := by
      conv => rhs; rw [← map_range_st bk]
      rw [List.map_map]; rfl
    rw [e] at this
    exact this
  rw [toll_swap] at h1
  omega
theorem sum_mul (n : Int) : ∀ l : Paper, (l.map fun x => n * x.2).sum = n * (l.map (·.2)).sum
  | [] => by simp
  | x :: l => by rw [List.map_cons, List.sum_cons, sum_mul n l, List.map_cons, List.sum_cons, Int.mul_add]
/-- .. nor on so many benches -/
theorem weak {bk : List Stretch} {n : Int} {l : List Nat} {pp : Paper} (h : Some bk.length l) (hk : ∀ m, (loadAt bk l m : Int) ≤ n) (hp : ∀ x ∈ pp, 0 ≤ x.2) : worthOf bk l ≤ claimOf bk n pp := by
  have h1 := worth_le_rest (pp := pp) h
  have h2 : (pp.map fun x => x.2 * (loadAt bk l x.1 : Int)).sum ≤ (pp.map fun x => n * x.2).sum := sum_le fun x hx => by
    rw [Int.mul_comm n]; exact Int.mul_le_mul_of_nonneg_left (hk x.1) (hp x hx)
  rw [sum_mul] at h2
  unfold claimOf
  omega
end DL
set_option Elab.async false
set_option linter.all false
set_option maxRecDepth 100000
set_option maxHeartbeats 4000000
namespace DL
open PySem PySem.Spec PyProof.Rows L2
def F_is_whole : Sf := fun ds G Q => ∃ (d : D) (n : String) (a b : Bool), ds = [d] ∧ tyD G d = some n ∧ kitB n "int" = some a ∧ kitB n "bool" = some b ∧ Q (.bl (a && !b)) G
def r_is_whole : ES :=
  (sRet (eAndT (eCB cIsi (eCons (eVar 0) (eCons (eC (.ty "int")) eNil))) (eNotT (eCB cIsi (eCons (eVar 0) (eCons (eC (.ty "bool")) eNil))))))
theorem d_is_whole (ds : List D) (G : Gp) (Q : DK) (h : F_is_whole ds G Q) : r_is_whole (fin G Q) (startD 1 ds) G := by
  obtain ⟨d, n, a, b, rfl, e1, e2, e3, k⟩ := h
  simp [r_is_whole, startD, e1, e2, e3]
  cases a with
  | true => simp at k ⊢; exact fin_id k
  | false => simp at k ⊢; exact fin_id k
theorem whole_int {i : Int} {G : Gp} {Q : DK} (h : Q (.bl true) G) : F_is_whole [.int i] G Q := ⟨.int i, "int", true, false, rfl, rfl, kit_int_int, kit_int_bool, h⟩
end DL
set_option Elab.async false
set_option linter.all false
set_option maxRecDepth 100000
set_option maxHeartbeats 4000000
namespace DL
open PySem PySem.Spec PyProof.Rows L2
structure RSOk (n : Int) (s : Stretch) : Prop where
  nm : NameOk s.name
  b0 : 0 ≤ s.b
  b1 : s.b < n
  e1 : 1 ≤ s.e
  e2 : s.e ≤ n
  w0 : 0 ≤ s.w
  w1 : s.w ≤ 1000000000000
structure RgOk (n : Int) (rs : List Stretch) : Prop where
  n1 : 1 ≤ n
  n2 : n ≤ 40
  len : rs.length ≤ 24
  all : ∀ s ∈ rs, RSOk n s
  nd : (rs.map Stretch.name).Nodup
def ringD (n : Int) (rs : List Stretch) : D := .tup [.int n, .lst (rs.map Stretch.d)]
@[simp ↓ high] theorem ixr_0 {n : Int} {rs : List Stretch} {G : Gp} {Q : DK} : oIx (ringD n rs) (.int 0) G Q = Q (.int n) G := by simp [ringD, atI, ixN]
@[simp ↓ high] theorem ixr_1 {n : Int} {rs : List Stretch} {G : Gp} {Q : DK} : oIx (ringD n rs) (.int 1) G Q = Q (.lst (rs.map Stretch.d)) G := by simp [ringD, atI, ixN]
def overR (n : Int) (s : Stretch) (m : Int) : Bool := decide ((m - s.b) % n < s.e)
def loadOn (n : Int) (rs : List Stretch) (l : List Nat) (m : Int) : Nat := (l.filter fun i => overR n (st rs i) m).length
def F_is_over_ring : Sf := fun ds G Q => ∃ (n : Int) (rs : List Stretch) (i : Nat) (m : Int), ds = [ringD n rs, .int (i : Nat), .int m] ∧ 0 < n ∧ i < rs.length ∧ Q (.bl (overR n (st rs i) m)) G
def F_load_on : Sf := fun ds G Q => ∃ (n : Int) (rs : List Stretch) (l : List Nat) (m : Int), ds = [ringD n rs, .lst (nD l), .int m] ∧ 0 < n ∧ (∀ i ∈ l, i < rs.length) ∧ Q (.int (loadOn n rs l m : Nat)) G
def F__law_ring : Sf := fun ds G Q => ∃ a most x y z, ds = [.ref a, .int most] ∧ G a = some (stO x y z) ∧ Ok3 x y z ∧ 0 ≤ most ∧ most ≤ 24 ∧ ∀ n rs x' y' z', Ok3 x' y' z' → RgOk n rs → (rs.length : Int) ≤ most → Q (ringD n rs) (gput G a (stO x' y' z'))
def r_is_over_ring : ES :=
  (sSeq (sAsg (eOp oIx (eOp oIx (eVar 0) (eC (.int 1))) (eVar 1)) (.tp [3, 4, 5, 6]))
  (sRet (eOp oLt (eOp oMod (eOp oSub (eVar 2) (eVar 4)) (eOp oIx (eVar 0) (eC (.int 0)))) (eVar 5))))
def r_load_on : ES :=
  (sRet (eCB cLen (eCons (eLc (iL (eVar 1)) (.nm 3) (eTru (eCall F_is_over_ring (eCons (eVar 0) (eCons (eVar 3) (eCons (eVar 2) eNil))))) (eVar 3) [3]) eNil)))
def r__law_ring_L1 : ES :=
  (sSeq (sAsg (eCall F__law_take (eCons (eVar 0) (eCons (eVar 2) eNil))) (.nm 5))
  (sSeq (sAsg (eOp oAdd (eC (.int 1)) (eCall F__law_take (eCons (eVar 0) (eCons (eOp oIx (eLst (eCons (eVar 2) (eCons (eOp oAdd (eC (.int 1)) (eOp oDivW (eVar 2) (eC (.int 3)))) eNil))) (eCall F__law_take (eCons (eVar 0) (eCons (eC (.int 2)) eNil)))) eNil)))) (.nm 6))
  (sSeq (sIf (eAnd (eT (eOp oGt (eVar 4) (eC (.int 0)))) (eT (eOp oEq (eCall F__law_take (eCons (eVar 0) (eCons (eC (.int 6)) eNil))) (eC (.int 0))))) (sAsg (eSlT (eOp oIx (eVar 3) (eUn oNeg (eC (.int 1)))) (ePart (eC (.int 1))) (ePart (eC (.int 3)))) (.tp [5, 6])) sNext)
  (sSeq (sAsg (eCall F__law_take (eCons (eVar 0) (eCons (eOp oIx (eLst (eCons (eC (.int 4)) (eCons (eC (.int 12)) (eCons (eC (.int 100)) (eCons (eOp oAdd (eOp oPow (eC (.int 10)) (eC (.int 12))) (eC (.int 1))) eNil))))) (eCall F__law_take (eCons (eVar 0) (eCons (eC (.int 4)) eNil)))) eNil))) (.nm 7))
  (sDrop (eBm mApp (eVar 3) (eCons (eTup (eCons (eCall F__law_name (eCons (eVar 0) (eCons (eVar 4) eNil))) (eCons (eVar 5) (eCons (eCB cMin2 (eCons (eVar 2) (eCons (eVar 6) eNil))) (eCons (eVar 7) eNil))))) eNil)))))))
def r__law_ring : ES :=
  (sSeq (sAsg (eOp oAdd (eC (.int 1)) (eCall F__law_take (eCons (eVar 0) (eCons (eOp oIx (eLst (eCons (eC (.int 1)) (eCons (eC (.int 4)) (eCons (eC (.int 9)) (eCons (eC (.int 40)) eNil))))) (eCall F__law_take (eCons (eVar 0) (eCons (eC (.int 4)) eNil)))) eNil)))) (.nm 2))
  (sSeq (sAsg (eLstO eNil) (.nm 3))
  (sSeq (sFor (iR1 (eCons (eCall F__law_take (eCons (eVar 0) (eCons (eOp oAdd (eVar 1) (eC (.int 1))) eNil))) eNil)) (.nm 4) r__law_ring_L1)
  (sRet (eTup (eCons (eVar 2) (eCons (eVar 3) eNil)))))))
theorem d_is_over_ring (ds : List D) (G : Gp) (Q : DK) (h : F_is_over_ring ds G Q) : r_is_over_ring (fin G Q) (startD 7 ds) G := by
  obtain ⟨n, rs, i, m, rfl, hn, hi, k⟩ := h
  refine seq_gen fun W hW => ?_
  simp [startD, bk_at hi]
  simp [Stretch.d]
  refine hW _ _ ?_
  simp
  exact ⟨hn, fin_id k⟩
theorem over_ring_ok {n : Int} {rs : List Stretch} {i : Nat} {m : Int} {G : Gp} {Q : DK} (hn : 0 < n) (hi : i < rs.length) (h : Q (.bl (overR n (st rs i) m)) G) : F_is_over_ring [ringD n rs, .int (i : Nat), .int m] G Q := ⟨n, rs, i, m, rfl, hn, hi, h⟩
theorem d_load_on (ds : List D) (G : Gp) (Q : DK) (h : F_load_on ds G Q) : r_load_on (fin G Q) (startD 4 ds) G := by
  obtain ⟨n, rs, l, m, rfl, hn, hl, k⟩ := h
  simp [r_load_on, startD]
  refine compW_map (p := fun i => overR n (st rs i) m) (f := fun (i : Nat) => D.int (i : Int)) (g := fun (i : Nat) => D.int (i : Int)) True.intro l [] (fun i hi => ⟨_, rfl, fun R r => ?_, fun _ R r => r⟩) ?_
  · simp
    exact over_ring_ok hn (hl i hi) (by simpa using r)
  · simp
    exact fin_id k
theorem load_on_ok {n : Int} {rs : List Stretch} {l : List Nat} {m : Int} {G : Gp} {Q : DK} (hn : 0 < n) (hl : ∀ i ∈ l, i < rs.length) (h : Q (.int (loadOn n rs l m : Nat)) G) : F_load_on [ringD n rs, .lst (nD l), .int m] G Q := ⟨n, rs, l, m, rfl, hn, hl, h⟩
theorem d__law_ring (ds : List D) (G : Gp) (Q : DK) (h : F__law_ring ds G Q) : r__law_ring (fin G Q) (startD 8 ds) G := by
  obtain ⟨a, most, x, y, z, rfl, hG, ok, h0, h1, k⟩ := h
  refine seq_gen fun W hW => ?_
  simp [startD]
  refine ⟨by decide, take_ok hG ok (wd_of (by decide) (by decide)) fun i x y z ok i0 i1 => ?_⟩
  obtain ⟨c, ec, hc⟩ := ints_at (l := [1, 4, 9, 40]) i0 (by simpa using i1)
  simp only [List.map_cons, List.map_nil] at ec
  simp [ec]
  have hc2 : 0 < c ∧ c ≤ 40 := by simp at hc; omega
  refine take_ok gput_same ok (wd_of (by omega) (by omega)) fun n x y z ok n0 n1 => ?_
  simp [gput_gput]
  refine hW _ _ (seq_gen fun W2 hW2 => ?_)
  have hn1 : 1 ≤ 1 + n := by omega
  have hn2 : 1 + n ≤ 40 := by omega
  generalize 1 + n = n at *
  simp
  intro q hq
  have hqa : q ≠ a := fun e => by subst e; rw [gput_same] at hq; cases hq
  rw [gput_ne hqa] at hq
  have swp : ∀ (x y z x' y' z' : Int) (o : GO), gput (gput (gput G a (stO x y z)) q o) a (stO x' y' z') = gput (gput G a (stO x' y' z')) q o := fun x y z x' y' z' o => gput_swap hqa
  have hat : ∀ (x y z : Int) (o : GO), gput (gput G a (stO x y z)) q o a = some (stO x y z) := fun x y z o => by rw [gput_ne hqa.symm, gput_same]
  refine hW2 _ _ (seq_gen fun W3 hW3 => ?_)
  simp
  refine take_ok (hat _ _ _ _) ok (wd_of (by omega) (by omega)) fun many x y z ok m0 m1 => ?_
  simp [swp]
  refine ⟨by omega, by omega, ?_⟩
  have loop : ∀ (m j : Nat) (rs : List Stretch) (x y z : Int) (o4 o5 o6 o7 : Option D), rs.length = j → (j : Int) + m ≤ most → Ok3 x y z → (∀ s ∈ rs, RSOk n s) → LastAt rs →
      forW (.nm 4) r__law_ring_L1 (fun _ => True) { nx := W3, rt := (fin G Q).rt, bk := (fin G Q).bk, ct := (fin G Q).ct, xr := (fin G Q).xr } (rngD (j : Nat) m) [some (.ref a), some (.int most), some (.int n), some (.ref q), o4, o5, o6, o7] (gput (gput G a (stO x y z)) q (.lst (rs.map Stretch.d))) := by
    intro m
    induction m with
    | zero =>
      intro j rs x y z o4 o5 o6 o7 hj hm ok hr hla
      rw [rngD_zero]
      refine ⟨trivial, hW3 _ _ ?_⟩
      simp
      refine ⟨by decide, ?_⟩
      have ef : frz q (rs.map Stretch.d) (.tup [.int n, .ref q]) = ringD n rs := by simp [frz, frzs, ringD]
      refine fin_frz (G2 := gput G a (stO x y z)) (p := q) (ds := rs.map Stretch.d) ?_ ?_ ?_ gput_same (by rw [gput_ne hqa]; exact hq) (refIns_plain (plain_book rs)) ?_ ?_
      · intro b u e
        by_cases hbq : b = q
        · subst hbq; rw [gput_ne hqa, hq] at e; cases e
        · rw [gput_ne hbq]; exact e
      · intro b u e
        by_cases hba : b = a
        · subst hba; exact ⟨_, gput_same⟩
        · exact ⟨u, by rw [gput_ne hba]; exact e⟩
      · intro b u e
        by_cases hba : b = a
        · subst hba; rw [gput_same] at e; cases e; exact .inl (by simp [RefO, stO, RefIns, RefIn])
        · rw [gput_ne hba] at e; exact .inr e
      · rw [ef]; exact refIn_plain (by simp [ringD, plainD, plainDs]; exact plain_book rs)
      · rw [ef]; exact k n rs x y z ok ⟨hn1, hn2, by omega, hr, last_nodup hla⟩ (by omega)
    | succ m ih =>
      intro j rs x y z o4 o5 o6 o7 hj hm ok hr hla
      rw [rngD_succ]
      refine ⟨trivial, seq_gen fun W4 hW4 => ?_⟩
      simp
      refine take_ok (hat _ _ _ _) ok (wd_of (by omega) (by omega)) fun b x y z ok b0 b1 => ?_
      simp [swp]
      refine hW4 _ _ (seq_gen fun W5 hW5 => ?_)
      simp
      refine ⟨⟨by decide, by decide⟩, by decide, take_ok (hat _ _ _ _) ok (wd_of (by decide) (by decide)) fun i x y z ok i0 i1 => ?_⟩
      obtain ⟨c, ec, hc⟩ := ints_at (l := [n, 1 + n / 3]) i0 (by simpa using i1)
      simp only [List.map_cons, List.map_nil] at ec
      simp [ec, swp]
      have hc2 : 0 < c ∧ c ≤ 40 := by simp at hc; omega
      refine take_ok (hat _ _ _ _) ok (wd_of (by omega) (by omega)) fun e x y z ok e0 e1 => ?_
      simp [swp]
      refine hW5 _ _ (seq_gen fun W6 hW6 => ?_)
      -- the tail, whatever begin and span
      have tail : ∀ (b e x y z : Int), Ok3 x y z → 0 ≤ b → b < n → 1 ≤ e → W6 [some (.ref a), some (.int most), some (.int n), some (.ref q), some (.int (j : Nat)), some (.int b), some (.int e), o7] (gput (gput G a (stO x y z)) q (.lst (rs.map Stretch.d))) := by
        intro b e x y z ok b0 b1 e1
        refine hW6 _ _ (seq_gen fun W7 hW7 => ?_)
        simp
        refine ⟨⟨by decide, by decide, by decide⟩, by decide, take_ok (hat _ _ _ _) ok (wd_of (by decide) (by decide)) fun i x y z ok i0 i1 => ?_⟩
        obtain ⟨c, ec, hc⟩ := ints_at (l := [4, 12, 100, 1000000000001]) i0 (by simpa using i1)
        simp only [List.map_cons, List.map_nil] at ec
        simp [ec, swp]
        have hc2 : 0 < c ∧ c ≤ 1000000000001 := by simp at hc; omega
        refine take_ok (hat _ _ _ _) ok (wd_of (by omega) (by omega)) fun w x y z ok w0 w1 => ?_
        simp [swp]
        refine hW7 _ _ ?_
        simp [gput_same]
        refine ⟨a, (j : Int), x, y, z, rfl, hat _ _ _ _, ok, by omega, by omega, fun nm x y z ok hnm hlast => ?_⟩
        simp [swp, gput_same, gput_gput]
        refine ⟨by decide, Nat.lt_of_le_of_lt (by omega : rs.length ≤ 100) (by decide), ?_⟩
        have := ih (j + 1) (rs ++ [⟨nm, b, if e < n then e else n, w⟩]) x y z (some (.int (j : Nat))) (some (.int b)) (some (.int e)) (some (.int w)) (by simp [hj]) (by omega) ok ?_ ?_
        · simpa [Stretch.d] using this
        · intro s hs
          rcases List.mem_append.mp hs with t | t
          · exact hr s t
          · simp at t
            subst t
            exact ⟨hnm, b0, b1, by simp only; split <;> omega, by simp only; split <;> omega, by simp only; omega, by simp only; omega⟩
        · intro i s es
          rcases Nat.lt_or_ge i rs.length with t | t
          · rw [List.getElem?_append_left t] at es; exact hla i s es
          · rw [List.getElem?_append_right t] at es
            have : i = rs.length := by
              rcases Nat.lt_or_ge 0 (i - rs.length) with u | u
              · rw [List.getElem?_eq_none (by simp; omega)] at es; cases es
              · omega
            subst this
            simp at es
            subst es
            simp [hj] at hlast ⊢
            exact hlast
      simp
      by_cases hj0 : 0 < j
      · simp [hj0]
        refine take_ok (hat _ _ _ _) ok (wd_of (by decide) (by decide)) fun t x y z ok t0 t1 => ?_
        simp [swp]
        split
        · obtain ⟨s, hs⟩ : ∃ s, rs.getLast? = some s := by
            have : rs ≠ [] := fun e => by subst e; simp at hj; omega
            rw [List.getLast?_eq_some_getLast this]; exact ⟨_, rfl⟩
          have hat2 : atI (rs.map Stretch.d) (-1) = some s.d := atI_lastG (by rw [List.getLast?_map, hs]; rfl)
          have hsm : s ∈ rs := List.mem_of_getLast? hs
          have hso := hr s hsm
          simp [gput_same, hat2]
          have ecut : ∀ d1 d2 d3 d4 : D, cutD [d1, d2, d3, d4] (some 1) (some 3) = [d2, d3] := fun _ _ _ _ => rfl
          simp [Stretch.d, ecut]
          exact ⟨by decide, tail s.b s.e x y z ok hso.b0 hso.b1 hso.e1⟩
        · exact tail b (1 + e) x y z ok b0 b1 (by omega)
      · simp [hj0]
        exact tail b (1 + e) x y z ok b0 b1 (by omega)
  have := loop many.toNat 0 [] x y z none none none none rfl (by omega) ok (by simp) (fun j s e => by simp at e)
  simpa using this
end DL
set_option Elab.async false
set_option linter.all false
set_option maxRecDepth 100000
set_option maxHeartbeats 4000000
namespace DL
open PySem PySem.Spec PyProof.Rows L2
end DL
set_option Elab.async false
set_option linter.all false
set_option maxRecDepth 100000
set_option maxHeartbeats 4000000
namespace L2
open PySem PySem.Spec PyProof.Rows
end L2
namespace DL
open PySem PySem.Spec PyProof.Rows L2
@[simp] def eChain3 (r r' r'' : OD) (ta tb tc td : EE) : EE := fun s G Q => ta s G fun x G1 => tb s G1 fun y G2 => r x y G2 fun z G3 => match z with
  | .bl k => if k = true then tc s G3 fun w G4 => r' y w G4 fun z' G5 => (match z' with
    | .bl k' => if k' = true then td s G5 fun v G6 => r'' w v G6 Q else Q (.bl false) G5
    | _ => False) else Q (.bl false) G3
  | _ => False
section
variable {X : Cx} {K : PySem.W.Frag} {a b c d : Expr} {ea eb ec ed : EE} {pos : Pos}
/-- lists joined: a new one, owned -/
@[simp] def oAddO : OD := fun x y G Q => match lkL G x, lkL G y with
  | some ds, some es => (∀ ns, x ≠ .scr ns) ∧ (∀ ns, y ≠ .scr ns) ∧ ds.length + es.length ≤ sizeLine ∧ ∀ p, G p = none → Q (.ref p) (gput G p (.lst (ds ++ es)))
  | _, _ => False
/-- tuples joined -/
@[simp] def oCatT : OD := fun x y G Q => match x, y with
  | .tup ds, .tup es => ds.length + es.length ≤ sizeLine ∧ Q (.tup (ds ++ es)) G
  | _, _ => False
/-- a list so many times -/
@[simp] def oRep : OD := fun x y G Q => match lkL G x, y with
  | some ds, .int k => (∀ ns, x ≠ .scr ns) ∧ -(2 ^ 63) ≤ k ∧ k < 2 ^ 63 ∧ ds.length * k.toNat ≤ sizeLine ∧ Q (.lst (List.replicate k.toNat ds).flatten) G
  | _, _ => False
theorem reps_rep {P : Addr → Prop} {G : Gp} {H : Hp} {ds : List D} {xs : List V} (q : Reps K H G P ds xs) : ∀ n, Reps K H G P (List.replicate n ds).flatten (List.replicate n xs).flatten
  | 0 => reps_nil
  | n + 1 => by rw [List.replicate_succ, List.replicate_succ, List.flatten_cons, List.flatten_cons]; exact q.append (reps_rep q n)
/-- a text's slice -/
@[simp] def eSlS (te : EE) (tl th : EO) : EE := fun s G Q => te s G fun x G1 => tl s G1 fun l G2 => th s G2 fun u G3 => match x with
  | .str z => z.length ≤ sizeLine ∧ Q (.str (Txt.slice z l u)) G3
  | _ => False
/-- tuple(x) of a list or a tuple -/
@[simp] def cTuple : CD := fun xs G Q => match xs with
  | [.tup ds] => Q (.tup ds) G
  | [x] => (match lkL G x with
    | some ds => Q (.tup ds) G
    | none => False)
  | _ => False
end
end DL
set_option Elab.async false
set_option linter.all false
set_option maxRecDepth 100000
set_option maxHeartbeats 4000000
namespace L2
open PySem PySem.Spec PyProof.Rows
section
variable {X : Cx}
def repS (z : Str) (n : Nat) : Str := ⟨(List.replicate n z.cps).foldl (· ++ ·) #[]⟩
end
end L2
namespace DL
open PySem PySem.Spec PyProof.Rows L2
@[simp] def oRepS : OD := fun x y G Q => match x, y with
  | .str z, .int k => 2 ≤ k ∧ k ≤ 1000 ∧ 0 < z.length ∧ z.length ≤ 1000 ∧ Q (.str (repS z k.toNat)) G
  | _, _ => False
end DL
set_option Elab.async false
set_option linter.all false
set_option maxRecDepth 100000
set_option maxHeartbeats 4000000
namespace DL
open PySem PySem.Spec PyProof.Rows L2
@[simp] theorem sizeLine_lit : sizeLine = 16777216 := by decide
@[simp] theorem cpow_10 {n : Int} : CPow 10 n ↔ 0 ≤ n ∧ n ≤ 1000000 := by
  unfold CPow
  exact ⟨fun h => ⟨h.1, h.2.1⟩, fun h => ⟨h.1, h.2, by decide⟩⟩
end DL
set_option Elab.async false
set_option linter.all false
set_option maxRecDepth 100000
set_option maxHeartbeats 4000000
namespace PySem
end PySem
namespace L2
open PySem PySem.Spec PyProof.Rows
end L2
namespace DL
open PySem PySem.Spec PyProof.Rows L2
/-- max(xs, default=d) -/
@[simp] def eMaxD (te td : EE) : EE := fun s G Q => te s G fun x G1 => td s G1 fun d G2 => match (lkL G2 x).bind intsD with
  | some ns => (ns = [] → Q d G2) ∧ (ns ≠ [] → ∀ m, m ∈ ns → (∀ y, y ∈ ns → y ≤ m) → Q (.int m) G2)
  | none => False
end DL
set_option Elab.async false
set_option linter.all false
set_option maxRecDepth 100000
set_option maxHeartbeats 4000000
namespace L2
open PySem PySem.Spec PyProof.Rows PySem.W
end L2
namespace DL
open PySem PySem.Spec PyProof.Rows L2 PySem.W
/-- sorted(xs), xs alike data: a new list, frozen -/
@[simp] def cSrtD : CD := fun xs G Q => match xs with
  | [x] => (match lkL G x with
    | some ds => (match toPys G ds with
      | some ps => AllAlike ps ∧ Sortable ps ∧ (∀ p ∈ ps, p.depth ≤ 40) ∧ Q (.lst (((ds.zip ps).mergeSort (dataLe false (fun z : D × PyData => z.2))).map (·.1))) G
      | none => False)
    | none => False)
  | _ => False
end DL
set_option Elab.async false
set_option linter.all false
set_option maxRecDepth 100000
set_option maxHeartbeats 4000000
namespace DL
open PySem PySem.Spec PyProof.Rows L2
theorem ofStr_injective {a b : String} (h : Str.ofString a = Str.ofString b) : a = b := by
  rw [Str.ofString_eq_toList, Str.ofString_eq_toList] at h
  simp only [Str.mk.injEq] at h
  have h2 := congrArg Array.toList h
  simp only [List.toList_toArray] at h2
  have h3 : a.toList = b.toList := (List.map_inj_right (fun x y e => Char.toNat_inj.mp e)).mp h2
  exact String.toList_inj.mp h3
@[simp] theorem ofStr_eq {a b : String} : Str.ofString a = Str.ofString b ↔ a = b := ⟨ofStr_injective, fun h => by rw [h]⟩
@[simp] def lkF (f : Str) : List Str → List D → Option D
  | k :: ks, d :: ds => if k = f then some d else lkF f ks ds
  | _, _ => none
@[simp] def putFk (f : Str) : List Str → List Str
  | [] => [f]
  | k :: ks => if k = f then k :: ks else k :: putFk f ks
@[simp] def putFv (f : Str) (y : D) : List Str → List D → List D
  | k :: ks, d :: ds => if k = f then y :: ds else d :: putFv f y ks ds
  | _, _ => [y]
section
variable {X : Cx} {Y : Wx} {K : PySem.W.Frag} {P : Addr → Prop} {G : Gp} {H : Hp} {C f : Str}
theorem lkF_look : ∀ {ks : List Str} {ds : List D} {xs : List V} {d : D}, Reps K H G P ds xs → lkF f ks ds = some d → ∃ v, (ks.zip xs).lookup f = some v ∧ Rep K H G P d v
  | [], _, _, _, _, e => by simp at e
  | _ :: _, [], _, _, _, e => by simp at e
  | k :: ks, d :: ds, _, d', h, e => by
    unfold Reps at h
    obtain ⟨x, r, rfl, h1, h2⟩ := h
    unfold lkF at e
    by_cases hk : k = f
    · subst hk
      rw [if_pos rfl] at e
      cases e
      exact ⟨x, by simp [List.lookup], h1⟩
    · rw [if_neg hk] at e
      obtain ⟨v, e1, e2⟩ := lkF_look h2 e
      refine ⟨v, ?_, e2⟩
      have : (f == k) = false := by simp; exact fun z => hk z.symm
      simp [List.lookup, this, e1]
theorem put_F {y : D} {v : V} (hy : Rep K H G P y v) : ∀ {ks : List Str} {ds : List D} {xs : List V}, Reps K H G P ds xs → ks.length = ds.length → ∃ ys, putF f v (ks.zip xs) = (putFk f ks).zip ys ∧ (putFk f ks).length = (putFv f y ks ds).length ∧ Reps K H G P (putFv f y ks ds) ys
  | [], [], _, h, _ => by unfold Reps at h; subst h; exact ⟨[v], rfl, rfl, reps_cons hy reps_nil⟩
  | [], _ :: _, _, _, e => by simp at e
  | _ :: _, [], _, _, e => by simp at e
  | k :: ks, d :: ds, _, h, e => by
    unfold Reps at h
    obtain ⟨x, r, rfl, h1, h2⟩ := h
    by_cases hk : k = f
    · refine ⟨v :: r, by simp [putF, hk], by simpa [hk] using e, ?_⟩
      simp [hk]
      exact reps_cons hy h2
    · obtain ⟨ys, e1, e2, e3⟩ := put_F hy h2 (by simpa using e)
      refine ⟨x :: ys, by simp [putF, hk, e1], by simpa [hk] using e2, ?_⟩
      simp [hk]
      exact reps_cons h1 e3
theorem look_none : ∀ {ks : List Str} {xs : List V}, f ∉ ks → (ks.zip xs).lookup f = none
  | [], _, _ => rfl
  | _ :: _, [], _ => rfl
  | k :: ks, x :: xs, h => by
    simp only [List.mem_cons, not_or] at h
    have : (f == k) = false := by simp; exact h.1
    simp [List.lookup, this, look_none h.2]
/-- o.f, an instance of the class named C -/
@[simp] def eFld (C f : Str) (te : EE) : EE := fun s G Q => te s G fun x G1 => match x with
  | .ref a => (match G1 a with
    | some (.ins C' _ ks ds) => C' = C ∧ (match lkF f ks ds with
      | some d => Q d G1
      | none => False)
    | _ => False)
  | _ => False
theorem j_fld {o : Expr} {te : EE} {pos : Pos} (c : Cls X.K (He.ga X.K C)) (n : NoAttr X.K (He.ga X.K C) f) (ho : JE X o te) (hb : attributeBase o f X.env (eval o X.env) = eval o X.env := by rfl) : JE X (.Attribute o f pos) (eFld C f te) :=
  ⟨pe_fld ho.pe hb, fun P s G Q σ H R h r k => by
    refine ho.le P s G _ σ H _ h r fun x G1 u H1 s1 w1 r1 h1 => ?_
    split at h1
    · rename_i a
      split at h1
      · rename_i C' dx ks ds e
        obtain ⟨rfl, h1⟩ := h1
        split at h1
        · rename_i d e2
          unfold Rep at r1
          obtain ⟨rfl, _⟩ := r1
          obtain ⟨ho', e3, xs, rfl, z, q⟩ := w1.own a _ e
          obtain ⟨v, e4, r4⟩ := lkF_look q e2
          exact ⟨a, _, dx, _, v, rfl, e3, c, n, e4, k _ G1 _ H1 s1 w1 r4 h1⟩
        · exact h1.elim
      · exact h1.elim
    · exact h1.elim⟩
/-- o.f = e -/
@[simp] def sFldD (C f : Str) (te to : EE) : ES := fun N s G => te s G fun v G1 => to s G1 fun o G2 => match o with
  | .ref a => (match G2 a with
    | some (.ins C' dx ks ds) => C' = C ∧ ks.length < 1000 ∧ N.nx s (gput G2 a (.ins C dx (putFk f ks) (putFv f v ks ds)))
    | _ => False)
  | _ => False
theorem js_fld {o e : Expr} {eo ee : EE} {p' pos : Pos} (c : Cls X.K (He.ga X.K C)) (n : NoAttr X.K (He.ga X.K C) f) (ho : JE X o eo) (he : JE X e ee) (hs : swapsWith e (some (.Attribute o f p')) pos.line X.env = pure false := by rfl) :
    JS X Y (.Assign [.Attribute o f p'] e pos) (sFldD C f ee eo) :=
  ⟨ps_fld ho.pe he.pe hs, fun P s G N σ H M h r k => by
    refine he.le P s G _ σ H _ h r fun v G1 u H1 s1 w1 r1 h1 => ?_
    refine ho.le P s G1 _ σ H1 _ h1 (r.step s1 w1) fun od G2 ov H2 s2 w2 r2 h2 => ?_
    split at h2
    · rename_i a
      split at h2
      · rename_i C' dx ks ds e
        obtain ⟨rfl, hl, h2⟩ := h2
        unfold Rep at r2
        obtain ⟨rfl, _⟩ := r2
        obtain ⟨ho', e3, xs, rfl, z, q⟩ := w2.own a _ e
        obtain ⟨ys, e4, z4, q4⟩ := put_F (f := f) (r1.step s2) q z
        refine ⟨a, _, dx, _, rfl, e3, c, n, by rw [List.length_zip]; exact Nat.lt_of_le_of_lt (Nat.min_le_left _ _) hl, ?_⟩
        rw [e4]
        have st : Step G2 H2 (gput G2 a (.ins C' dx (putFk f ks) (putFv f v ks ds))) (upd H2 a (.ins (He.ga X.K C') dx ((putFk f ks).zip ys))) := Step.chg e
        have sA := (s1.trans s2).trans st
        exact k.nx s _ σ _ sA (r.step sA (w2.chg e ⟨_, rfl, z4, q4.step st⟩)) h2
      · exact h2.elim
    · exact h2.elim⟩
/-- an instance of the class named C without a field m of its own -/
@[simp] def isIns (C m : Str) (G : Gp) : D → Prop
  | .ref a => (match G a with
    | some (.ins C' _ ks _) => C' = C ∧ m ∉ ks
    | _ => False)
  | _ => False
/-- o.m(..) -/
@[simp] def eMeth (C m : Str) (F : Sf) (to : EE) (t : EA) : EE := fun s G Q => to s G fun x G1 => isIns C m G1 x ∧ t s G1 fun xs G2 => F (x :: xs) G2 Q
/-- C(..) -/
@[simp] def eMake (C : Str) (F : Sf) (t : EA) : EE := fun s G Q => t s G fun xs G1 => ∀ x dx, G1 x = none → F (.ref x :: xs) (gput G1 x (.ins C dx [] [])) fun d G2 => d = .non ∧ Q (.ref x) G2
theorem is_ins {x : D} {u : V} (w : Wo K P G H) {m : Str} (r : Rep K H G P x u) (h : isIns C m G x) : ∃ a dx fs, u = .ref a ∧ H a = some (.ins (He.ga K C) dx fs) ∧ fs.lookup m = none := by
  unfold isIns at h
  split at h
  · rename_i a
    split at h
    · rename_i C' dx ks ds e
      obtain ⟨rfl, hm⟩ := h
      unfold Rep at r
      obtain ⟨rfl, _⟩ := r
      obtain ⟨ho', e3, xs, rfl, z, q⟩ := w.own a _ e
      exact ⟨a, dx, _, rfl, e3, look_none hm⟩
    · exact h.elim
  · exact h.elim
theorem le_meth {n : Nat} {m : Str} {F : Sf} {E : XK} {to : TE} {eo : EE} {t : TA} {ea : EA} (ho : LE K to eo) (ha : LA K n t ea) : LE K (tMeth (He.ga K C) m (Lf K (n + 1) F) [] E to t) (eMeth C m F eo ea) := fun P s G Q σ H R h rl k => by
  refine ho P s G _ σ H _ h rl fun x G1 u H1 s1 w1 r1 h1 => ?_
  obtain ⟨a, dx, fs, rfl, e1, e2⟩ := is_ins w1 r1 h1.1
  refine ⟨a, dx, fs, rfl, e1, e2, ?_⟩
  refine ha P s G1 _ σ H1 _ h1.2 (rl.step s1 w1) fun xs G2 us H2 s2 w2 r2 hn h2 => ?_
  refine ⟨?_, P, x :: xs, G2, Q, w2, reps_cons (r1.step s2) (by rw [List.append_nil]; exact r2), h2, fun d G' v H' st w' r' q' => k d G' v H' ((s1.trans s2).trans st) w' r' q'⟩
  rw [List.append_nil, List.length_cons, ← r2.length, hn]
/-- a method of the text: it keeps the promise F -/
structure CalM (P : Program) (w : World) (K : PySem.W.Frag) (mg : Str → Option Value) (base : Heap) (k : Nat) (C m : Str) (ps : List Str) (F : Sf) : Prop where
  ex : ∃ fd, FK P w K mg base k (He.ma K (He.ga K C) m) fd ps F ∧ Cls K (He.ga K C) ∧ Meth K (He.ga K C) m (He.ma K (He.ga K C) m) ∧ Binds K fd ps []
theorem j_meth {k : Nat} {m : Str} {ps : List Str} {F : Sf} {o e : Expr} {es : List Expr} {eo : EE} {ea : EA} {apos pos : Pos} {pl : Sem Bool} (c : CalM X.prog X.w K X.mg X.base k C m ps F) (hr : Room k X.A) (ho : JE X o eo) (ha : JA X (e :: es) ea) (hK : X.K = K := by rfl) (hlen : (e :: es).length + 1 = ps.length := by rfl)
    (hst : starEach (e :: es) X.env = (false, eval e X.env) :: starEach es X.env := by rfl) (hpl : (backTo pos (starEach es X.env)).any (·.1) = false := by rfl)
    (ht : eval (.Call (.Attribute o m apos) (e :: es) [] pos) X.env = (do let ov ← eval o X.env; standAt apos.atName; let (f, first) ← holding [ov] (getMethod ov m pl); callWith pos f first (backTo pos (starEach (e :: es) X.env)) (backToKw pos (keywordEach [] X.env))) := by rfl) :
    JE X (.Call (.Attribute o m apos) (e :: es) [] pos) (eMeth C m F eo ea) := by
  subst hK
  obtain ⟨fd, h1, h2, h3, h4⟩ := c.ex
  have h1' := h1
  unfold FK at h1'
  rw [← hlen] at h1'
  exact ⟨pe_meth ho.pe h2 h3 h1' hr h4 .nil pass0 ha.pa hst hpl ht, le_meth (E := fun _ _ _ => False) ho.le ha.la⟩
theorem le_make {n : Nat} {F : Sf} {E : XK} {t : TA} {ea : EA} (ha : LA K n t ea) : LE K (tMake (He.ga K C) (Lf K (n + 1) F) [] E t) (eMake C F ea) := fun P s G Q σ H R h rl k => by
  refine ha P s G _ σ H _ h rl fun xs G1 us H1 s1 w1 r1 hn h1 => ?_
  intro x dx hx hdx ne
  have nx : x ≠ dx := fun z => ne z.symm
  have w2 : Wo K P G1 (upd H1 dx (.own x)) := w1.new hdx
  have st2 : Step G1 H1 G1 (upd H1 dx (.own x)) := Step.new hdx
  have hx2 : upd H1 dx (.own x) x = none := by rw [upd_ne nx]; exact hx
  have st3 : Step G1 (upd H1 dx (.own x)) (gput G1 x (.ins C dx [] [])) (upd (upd H1 dx (.own x)) x (.ins (He.ga K C) dx [])) := Step.newOwn w2 hx2
  have w3 : Wo K P (gput G1 x (.ins C dx [] [])) (upd (upd H1 dx (.own x)) x (.ins (He.ga K C) dx [])) := w2.newOwn hx2 ⟨[], rfl, rfl, reps_nil⟩
  refine ⟨by rw [List.append_nil, List.length_cons, ← r1.length, hn], P, .ref x :: xs, _, _, w3, reps_cons (by unfold Rep; exact ⟨rfl, _, gput_same⟩) (by rw [List.append_nil]; exact r1.step (st2.trans st3)), h1 x dx (w1.fresh hx).1, fun d G' v H' st w' r' q' => ?_⟩
  obtain ⟨rfl, q'⟩ := q'
  have sA := (s1.trans (st2.trans st3)).trans st
  refine ⟨rep_n r', k _ G' _ H' sA w' ?_ q'⟩
  unfold Rep
  exact ⟨rfl, st.own x _ gput_same⟩
/-- a class of the text, made by its __init__ -/
structure CalK (P : Program) (w : World) (K : PySem.W.Frag) (mg : Str → Option Value) (base : Heap) (k : Nat) (C : Str) (ps : List Str) (F : Sf) : Prop where
  ex : ∃ fd, FK P w K mg base k (He.ma K (He.ga K C) "__init__") fd ps F ∧ Mk K (He.ga K C) (He.ma K (He.ga K C) "__init__") ∧ Binds K fd ps [] ∧ mg C = some (.ref (He.ga K C))
theorem j_make {k : Nat} {ps : List Str} {F : Sf} {e : Expr} {es : List Expr} {ea : EA} {p pos : Pos} (c : CalK X.prog X.w K X.mg X.base k C ps F) (hr : Room (k + 1) X.A) (hg : Gl X C) (ha : JA X (e :: es) ea) (hK : X.K = K := by rfl) (hlen : (e :: es).length + 1 = ps.length := by rfl)
    (hdb : (C == ("__debug__" : Str)) = false := by decide) (he : starEach (e :: es) X.env = (false, eval e X.env) :: starEach es X.env := by rfl) (hpl : (backTo pos (starEach es X.env)).any (·.1) = false := by rfl) : JE X (.Call (.Name C p) (e :: es) [] pos) (eMake C F ea) := by
  subst hK
  obtain ⟨fd, h1, h2, h3, h4⟩ := c.ex
  have h1' := h1
  unfold FK at h1'
  rw [← hlen] at h1'
  exact ⟨pe_make h2 h1' hr hg h4 h3 .nil pass0 ha.pa hdb he hpl, le_make (E := fun _ _ _ => False) ha.la⟩
/-- a method as it stands behind the top -/
structure DfM (K : PySem.W.Frag) (C m q : Str) (st : Stmt) : Prop where
  ex : ∃ fd, FunD K m q (defArgs st) (defBody st) (defScope st) [] [] (He.ma K (He.ga K C) m) fd
theorem fk_meth {P : Program} {w : World} {mg : Str → Option Value} {base : Heap} {m q : Str} {st : Stmt} {N ps : List Str} {k : Nat} {F : Sf} {es : ES} (D : DfM K C m q st) (S : FnScope N ps (defScope st))
    (hb : ∀ (kV doc pm : Value) (an : Option Addr) (cdv ct : Value) (us : List Value), us.length = ps.length → bindArgs (PySem.W.fnOf m q (defArgs st) (defBody st) (defScope st) .none kV doc pm an cdv ct) ⟨us, []⟩ = pure (ps.zip us))
    (hJ : ∀ (f : Addr) (cdv : Value) (A : Around) (outer : List Env) (s : Shared) (H : Hp) (E : XK), Room k (A.deeper (envOfC q (defScope st) s.heap.objs.size f cdv)) → JSs (cxOf CX0 P w K mg base N q (defScope st) f cdv A outer s H E).nox y0 (defBody st) es)
    (hR : ∀ ds G Q, F ds G Q → es (fin G Q) (startD N.length ds) G) : ∃ fd, FK P w K mg base (k + 1) (He.ma K (He.ga K C) m) fd ps F ∧ Binds K fd ps [] := by
  obtain ⟨fd, h1⟩ := D.ex
  exact ⟨fd, fk_ok h1 S (hJ _) hR, h1.bindsN hb⟩
theorem calM_ok {P : Program} {w : World} {mg : Str → Option Value} {base : Heap} {m : Str} {ps : List Str} {k : Nat} {F : Sf} (c : Cls K (He.ga K C)) (hm : Meth K (He.ga K C) m (He.ma K (He.ga K C) m)) (h : ∃ fd, FK P w K mg base k (He.ma K (He.ga K C) m) fd ps F ∧ Binds K fd ps []) : CalM P w K mg base k C m ps F :=
  let ⟨fd, a, b⟩ := h; ⟨fd, a, c, hm, b⟩
theorem calK_ok {P : Program} {w : World} {mg : Str → Option Value} {base : Heap} {ps : List Str} {k : Nat} {F : Sf} (hm : Mk K (He.ga K C) (He.ma K (He.ga K C) "__init__")) (hg : mg C = some (.ref (He.ga K C))) (h : ∃ fd, FK P w K mg base k (He.ma K (He.ga K C) "__init__") fd ps F ∧ Binds K fd ps []) : CalK P w K mg base k C ps F :=
  let ⟨fd, a, b⟩ := h; ⟨fd, a, hm, b, hg⟩
end
end DL
set_option Elab.async false
set_option linter.all false
set_option maxRecDepth 100000
set_option maxHeartbeats 4000000
namespace LN
/-- sums over 0 .. n - 1 -/
def sumN : Nat → (Nat → Int) → Int
  | 0, _ => 0
  | n + 1, f => sumN n f + f n
def fup {α : Type} (f : Nat → α) (i : Nat) (x : α) : Nat → α := fun j => if j = i then x else f j
structure Sp3 where
  b : Nat
  e : Nat
  w : Int
inductive Kd where
  | idle | fill | unidle | unfill | take | leave
  deriving DecidableEq
structure Arc where
  u : Nat
  v : Nat
  g : Int
  k : Kd
  i : Nat
/-- the line's state -/
structure LS where
  n : Nat
  m : Nat
  sp : Nat → Sp3
  must : Nat → Int
  filled : Nat → Int
  idle : Nat → Int
  taken : Nat → Bool
  great : Int
abbrev Gn := Nat → Option Int
abbrev La := Nat → Option Arc
/-- one arc looked at; whether anything changed -/
structure RS where
  g : Gn
  l : La
  ch : Bool
/-- what a change makes less -/
def nones (n : Nat) (g : Gn) : Int := sumN n fun v => if g v = none then 1 else 0
def gap (n : Nat) (p : Nat → Int) (g : Gn) : Int := sumN n fun v => match g v with
  | none => 0
  | some x => p v - p 0 - x
def Less (n : Nat) (p : Nat → Int) (g' g : Gn) : Prop := nones n g' < nones n g ∨ (nones n g' = nones n g ∧ gap n p g' < gap n p g)
theorem Less.trans {n : Nat} {p : Nat → Int} {a b c : Gn} (h : Less n p a b) (k : Less n p b c) : Less n p a c := by
  unfold Less at *; omega
def start : RS := ⟨fup (fun _ => none) 0 (some 0), fun _ => none, true⟩
def go (S : LS) (a : Arc) : LS := match a.k with
  | .idle => { S with idle := fup S.idle a.i (S.idle a.i + 1) }
  | .unidle => { S with idle := fup S.idle a.i (S.idle a.i - 1) }
  | .fill => { S with filled := fup S.filled a.i (S.filled a.i + 1) }
  | .unfill => { S with filled := fup S.filled a.i (S.filled a.i - 1) }
  | .take => { S with taken := fup S.taken a.i true }
  | .leave => { S with taken := fup S.taken a.i false }
/-- the gain of all that was sent -/
def val (S : LS) : Int := sumN S.m (fun i => if S.taken i = true then (S.sp i).w else 0) + sumN S.n S.filled * S.great
end LN
set_option Elab.async false
set_option linter.all false
set_option maxRecDepth 100000
set_option maxHeartbeats 4000000
namespace DL
open PySem PySem.Spec PyProof.Rows L2 LN
def fnL (n : Nat) (f : Nat → D) : List D := (List.range n).map f
@[simp] theorem fnL_len {n : Nat} {f : Nat → D} : (fnL n f).length = n := by simp [fnL]
def kdS : Kd → Str
  | .idle => "idle"
  | .fill => "fill"
  | .unidle => "unidle"
  | .unfill => "unfill"
  | .take => "take"
  | .leave => "leave"
def arcD (a : Arc) : D := .tup [.int (a.u : Nat), .int (a.v : Nat), .int a.g, .str (kdS a.k), .int (a.i : Nat)]
def sp3D (s : Sp3) : D := .tup [.int (s.b : Nat), .int (s.e : Nat), .int s.w]
@[simp ↓ high] theorem ixa_0 {a : Arc} {G : Gp} {Q : DK} : oIx (arcD a) (.int 0) G Q = Q (.int (a.u : Nat)) G := by simp [arcD, atI, ixN]
@[simp ↓ high] theorem ixa_1 {a : Arc} {G : Gp} {Q : DK} : oIx (arcD a) (.int 1) G Q = Q (.int (a.v : Nat)) G := by simp [arcD, atI, ixN]
@[simp ↓ high] theorem ixa_2 {a : Arc} {G : Gp} {Q : DK} : oIx (arcD a) (.int 2) G Q = Q (.int a.g) G := by simp [arcD, atI, ixN]
def lineKs : List Str := ["own_spans", "own_must", "filled", "idle", "taken", "great"]
def lineDs (S : LN.LS) (af ai at_ : Addr) : List D := [.lst (fnL S.m fun i => sp3D (S.sp i)), .lst (fnL S.n fun k => .int (S.must k)), .ref af, .ref ai, .ref at_, .int S.great]
def lineO (S : LN.LS) (dx af ai at_ : Addr) : GO := .ins "Line" dx lineKs (lineDs S af ai at_)
section
variable {S : LN.LS} {af ai at_ : Addr}
@[simp] theorem lf_spans : lkF "own_spans" lineKs (lineDs S af ai at_) = some (.lst (fnL S.m fun i => sp3D (S.sp i))) := by simp [lineKs, lineDs]
@[simp] theorem lf_must : lkF "own_must" lineKs (lineDs S af ai at_) = some (.lst (fnL S.n fun k => .int (S.must k))) := by simp [lineKs, lineDs]
@[simp] theorem lf_filled : lkF "filled" lineKs (lineDs S af ai at_) = some (.ref af) := by simp [lineKs, lineDs]
@[simp] theorem lf_idle : lkF "idle" lineKs (lineDs S af ai at_) = some (.ref ai) := by simp [lineKs, lineDs]
@[simp] theorem lf_taken : lkF "taken" lineKs (lineDs S af ai at_) = some (.ref at_) := by simp [lineKs, lineDs]
@[simp] theorem lf_great : lkF "great" lineKs (lineDs S af ai at_) = some (.int S.great) := by simp [lineKs, lineDs]
@[simp] theorem lm_1 : ("piece_arcs" : Str) ∉ lineKs := by simp [lineKs]
@[simp] theorem lm_2 : ("span_arc" : Str) ∉ lineKs := by simp [lineKs]
@[simp] theorem lm_3 : ("arcs_left" : Str) ∉ lineKs := by simp [lineKs]
@[simp] theorem lm_4 : ("roads_told" : Str) ∉ lineKs := by simp [lineKs]
@[simp] theorem lm_5 : ("go_along" : Str) ∉ lineKs := by simp [lineKs]
@[simp] theorem lm_6 : ("send_unit" : Str) ∉ lineKs := by simp [lineKs]
@[simp] theorem lm_7 : ("greatest_over" : Str) ∉ lineKs := by simp [lineKs]
@[simp] theorem lm_8 : ("prices_now" : Str) ∉ lineKs := by simp [lineKs]
@[simp] theorem lm_9 : ("taken_now" : Str) ∉ lineKs := by simp [lineKs]
end
/-- a line stands at x -/
structure LnA (G : Gp) (x dx af ai at_ : Addr) (S : LN.LS) : Prop where
  ob : G x = some (lineO S dx af ai at_)
  fi : G af = some (.lst (fnL S.n fun k => .int (S.filled k)))
  id : G ai = some (.lst (fnL S.n fun k => .int (S.idle k)))
  tk : G at_ = some (.lst (fnL S.m fun i => .bl (S.taken i)))
  n1 : af ≠ ai
  n2 : af ≠ at_
  n3 : ai ≠ at_
  zn : S.n ≤ 1000
  zm : S.m ≤ 1000
end DL
set_option Elab.async false
set_option linter.all false
set_option maxRecDepth 100000
set_option maxHeartbeats 4000000
namespace DL
open PySem PySem.Spec PyProof.Rows L2 LN
theorem LnA.mono {G G' : Gp} {x dx af ai at_ : Addr} {S : LN.LS} (L : LnA G x dx af ai at_ S) (h : ∀ a o, G a = some o → G' a = some o) : LnA G' x dx af ai at_ S := ⟨h _ _ L.ob, h _ _ L.fi, h _ _ L.id, h _ _ L.tk, L.n1, L.n2, L.n3, L.zn, L.zm⟩
end DL
set_option Elab.async false
set_option linter.all false
set_option maxRecDepth 100000
set_option maxHeartbeats 4000000
namespace DL
open PySem PySem.Spec PyProof.Rows L2 LN
end DL
set_option Elab.async false
set_option linter.all false
set_option maxRecDepth 100000
set_option maxHeartbeats 4000000
namespace DL
open PySem PySem.Spec PyProof.Rows L2 LN
end DL
set_option Elab.async false
set_option linter.all false
set_option maxRecDepth 100000
set_option maxHeartbeats 4000000
namespace DL
open PySem PySem.Spec PyProof.Rows L2 LN
end DL
set_option Elab.async false
set_option linter.all false
set_option maxRecDepth 100000
set_option maxHeartbeats 4000000
namespace DL
open PySem PySem.Spec PyProof.Rows L2
mutual
def frzD (G : Gp) : D → Option D
  | .ref a => match G a with
    | some (.lst es) => if plainDs es = true then some (.lst es) else none
    | _ => none
  | .lst ds => (frzDs G ds).map .lst
  | .tup ds => (frzDs G ds).map .tup
  | .dct ks ds => (frzDs G ds).map (.dct ks)
  | .non => some .non
  | .bl b => some (.bl b)
  | .int b => some (.int b)
  | .str b => some (.str b)
  | .ty b => some (.ty b)
  | .cl b => some (.cl b)
  | .exc _ _ _ _ => none
  | .scr b => some (.scr b)
def frzDs (G : Gp) : List D → Option (List D)
  | [] => some []
  | d :: ds => match frzD G d, frzDs G ds with
    | some a, some r => some (a :: r)
    | _, _ => none
end
mutual
def flatT : D → Bool
  | .non => true
  | .bl _ => true
  | .int _ => true
  | .str _ => true
  | .tup ds => flatTs ds
  | _ => false
def flatTs : List D → Bool
  | [] => true
  | d :: ds => flatT d && flatTs ds
end
mutual
def resT : D → Bool
  | .non => true
  | .bl _ => true
  | .int _ => true
  | .str _ => true
  | .ref _ => true
  | .tup ds => resTs ds
  | _ => false
def resTs : List D → Bool
  | [] => true
  | d :: ds => resT d && resTs ds
end
def flatO : GO → Bool
  | .lst ds => flatTs ds
  | _ => false
def gmerge (G G' : Gp) : Gp := fun a => match G' a with
  | some o => some o
  | none => G a
@[simp] theorem gmerge_none {G : Gp} : gmerge G (fun _ => none) = G := rfl
@[simp] theorem gmerge_put {G G' : Gp} {a : Addr} {o : GO} : gmerge G (gput G' a o) = gput (gmerge G G') a o := by
  funext b
  unfold gmerge
  by_cases h : b = a
  · subst h; rw [gput_same, gput_same]
  · rw [gput_ne h, gput_ne h]
@[simp] def eCallB (F : Sf) (ea : EA) : EE := fun s G Q => ea s G fun ds G1 => match frzDs G1 ds with
  | some ds' => F ds' (fun _ => none) fun d G' => resT d = true ∧ (∀ a o, G' a = some o → flatO o = true) ∧ ((∀ a o, G' a = some o → G1 a = none) → Q d (gmerge G1 G'))
  | none => False
section
variable {K : PySem.W.Frag} {P : Addr → Prop} {G : Gp} {H : Hp}
mutual
theorem Rep.bare (w : Wo K P G H) : ∀ {d : D} {v : V}, plainD d = true → Rep K H G P d v → Rep K H (fun _ => none) P d v
  | .non, _, _, h => by unfold Rep at h ⊢; exact h
  | .bl _, _, _, h => by unfold Rep at h ⊢; exact h
  | .int _, _, _, h => by unfold Rep at h ⊢; exact h
  | .str _, _, _, h => by unfold Rep at h ⊢; exact h
  | .ty _, _, _, h => by unfold Rep at h ⊢; exact h
  | .cl _, _, _, h => by unfold Rep at h ⊢; exact h
  | .ref a, _, q, h => by simp [plainD] at q
  | .exc a dd f e, _, q, h => by simp [plainD] at q
  | .scr ns, _, _, h => by
    unfold Rep at h ⊢
    obtain ⟨a, rfl, z, ⟨⟨o, h⟩, g⟩ | ⟨h, g, pp⟩ | h⟩ := h
    · exact ⟨a, rfl, z, .inl ⟨⟨o, h⟩, rfl⟩⟩
    · exact ⟨a, rfl, z, .inr (.inl ⟨h, rfl, pp⟩)⟩
    · exact ⟨a, rfl, z, .inr (.inr h)⟩
  | .lst ds, _, q, h => by
    unfold Rep at h ⊢
    obtain ⟨a, xs, rfl, g, p, r, z, t⟩ := h
    simp only [plainD] at q
    exact ⟨a, xs, rfl, rfl, p, r, z, Reps.bare w q t⟩
  | .tup ds, _, q, h => by
    unfold Rep at h ⊢
    obtain ⟨a, xs, rfl, g, p, r, z, t⟩ := h
    simp only [plainD] at q
    exact ⟨a, xs, rfl, rfl, p, r, z, Reps.bare w q t⟩
  | .dct ks ds, _, q, h => by
    unfold Rep at h ⊢
    obtain ⟨a, xs, rfl, g, p, r, z, t⟩ := h
    simp only [plainD] at q
    exact ⟨a, xs, rfl, rfl, p, r, z, Reps.bare w q t⟩
theorem Reps.bare (w : Wo K P G H) : ∀ {ds : List D} {vs : List V}, plainDs ds = true → Reps K H G P ds vs → Reps K H (fun _ => none) P ds vs
  | [], _, _, h => by unfold Reps at h ⊢; exact h
  | d :: ds, _, q, h => by
    unfold Reps at h ⊢
    obtain ⟨x, r, rfl, h1, h2⟩ := h
    simp only [plainDs, Bool.and_eq_true] at q
    exact ⟨x, r, rfl, Rep.bare w q.1 h1, Reps.bare w q.2 h2⟩
end
end
@[simp] theorem frzDs_nil {G : Gp} : frzDs G [] = some [] := by simp only [frzDs]
@[simp] theorem frzDs_cons {G : Gp} {d : D} {ds : List D} : frzDs G (d :: ds) = match frzD G d, frzDs G ds with
    | some a, some r => some (a :: r)
    | _, _ => none := by rw [frzDs]
@[simp] theorem frzD_int {G : Gp} {i : Int} : frzD G (.int i) = some (.int i) := by simp only [frzD]
@[simp] theorem frzD_bl {G : Gp} {i : Bool} : frzD G (.bl i) = some (.bl i) := by simp only [frzD]
@[simp] theorem frzD_str {G : Gp} {i : Str} : frzD G (.str i) = some (.str i) := by simp only [frzD]
@[simp] theorem frzD_non {G : Gp} : frzD G .non = some .non := by simp only [frzD]
@[simp] theorem frzD_tup {G : Gp} {ds : List D} : frzD G (.tup ds) = (frzDs G ds).map .tup := by rw [frzD]
end DL
set_option Elab.async false
set_option linter.all false
set_option maxRecDepth 100000
set_option maxHeartbeats 4000000
namespace DL
open PySem PySem.Spec PyProof.Rows L2
section
variable {X : Cx} {K : PySem.W.Frag} {P : Addr → Prop} {G : Gp} {H : Hp} {tg : Expr}
/-- what is walked: a tuple -/
@[simp] def iT (t : EE) : EI := fun s G Q => t s G fun x G1 => match x with
  | .tup ds => Q ds (fun _ => True) G1
  | _ => False
/-- xs.pop(i) -/
@[simp] def mPopAt : MD := fun x xs G Q => match x, xs with
  | .ref p, [.int i] => (match G p with
    | some (.lst ds) => 0 ≤ i ∧ i < 2 ^ 62 ∧ (match ds[i.toNat]? with
      | some d => Q d (gput G p (.lst (ds.eraseIdx i.toNat)))
      | none => False)
    | _ => False)
  | _, _ => False
end
end DL
set_option Elab.async false
set_option linter.all false
set_option maxRecDepth 100000
set_option maxHeartbeats 4000000
namespace DL
open PySem PySem.Spec PyProof.Rows L2 LN
end DL
set_option Elab.async false
set_option linter.all false
set_option maxRecDepth 100000
set_option maxHeartbeats 4000000
namespace DL
open PySem PySem.Spec PyProof.Rows L2 LN
theorem bk_split {bk : List Stretch} {i : Nat} (h : i < bk.length) : bk = bk.take i ++ st bk i :: bk.drop (i + 1) := by
  have e : bk.drop i = st bk i :: bk.drop (i + 1) := by
    rw [List.drop_eq_getElem_cons h]
    congr 1
    unfold st
    rw [List.getD_eq_getElem?_getD, List.getElem?_eq_getElem h]; rfl
  rw [← e, List.take_append_drop]
end DL
set_option Elab.async false
set_option linter.all false
set_option maxRecDepth 100000
set_option maxHeartbeats 4000000
namespace DL
open PySem PySem.Spec PyProof.Rows L2 LN
theorem plain_nD (l : List Nat) : plainDs (nD l) = true := plainDs_map (fun _ => rfl) _
end DL
set_option Elab.async false
set_option linter.all false
set_option maxRecDepth 100000
set_option maxHeartbeats 4000000
namespace DL
open PySem PySem.Spec PyProof.Rows L2 LN
end DL
set_option Elab.async false
set_option linter.all false
set_option maxRecDepth 100000
set_option maxHeartbeats 4000000
namespace DL
open PySem PySem.Spec PyProof.Rows L2
def sqP : PyData → Option (List PyData)
  | .list xs => some xs
  | .tuple xs => some xs
  | _ => none
variable {K : PySem.W.Frag}
/-- x in xs, of any data -/
@[simp] def oInD (neg : Bool) : OD := fun x y G Q => match toPy G x, toPy G y with
  | some a, some b => match sqP b with
    | some ds => SeqAt.shaped a = true ∧ a.depth ≤ 60 ∧ SeqAt.shaped b = true ∧ Q (.bl (if neg then !(ds.any fun z => PyData.eqv z a) else ds.any fun z => PyData.eqv z a)) G
    | none => False
  | _, _ => False
@[simp] theorem sqP_list {xs : List PyData} : sqP (.list xs) = some xs := rfl
@[simp] theorem sqP_tuple {xs : List PyData} : sqP (.tuple xs) = some xs := rfl
end DL
set_option Elab.async false
set_option linter.all false
set_option maxRecDepth 100000
set_option maxHeartbeats 4000000
namespace DL
open PySem PySem.Spec PyProof.Rows L2 LN
end DL
set_option Elab.async false
set_option linter.all false
set_option maxRecDepth 100000
set_option maxHeartbeats 4000000
namespace DL
open PySem PySem.Spec PyProof.Rows L2 LN
end DL
set_option Elab.async false
set_option linter.all false
set_option maxRecDepth 100000
set_option maxHeartbeats 4000000
namespace DL
open PySem PySem.Spec PyProof.Rows L2
/-- sorted(xs, reverse=True) of ints -/
@[simp] def eSrtR (te td : EE) : EE := fun s G Q => te s G fun x G1 => td s G1 fun d G2 => match d with
  | .bl true => (match (lkL G2 x).bind intsD with
    | some ns => ∀ ms : List Int, ms.Perm ns → ms.Pairwise (· ≥ ·) → Q (.lst (ms.map D.int)) G2
    | none => False)
  | _ => False
end DL
set_option Elab.async false
set_option linter.all false
set_option maxRecDepth 100000
set_option maxHeartbeats 4000000
namespace DL
open PySem PySem.Spec PyProof.Rows L2 LN
theorem cut_1 (xs : List D) : cutD xs (some 1) none = xs.drop 1 := by
  unfold cutD
  simp [HT.sIx]
  cases xs with
  | nil => simp
  | cons x xs => simp
theorem zip_tail (pp : Paper) : List.zipWith (fun d e => D.tup [d, e]) (pp.map qD) ((pp.map qD).drop 1) = (pp.zip (pp.drop 1)).map fun z => D.tup [qD z.1, qD z.2] := by
  rw [← List.map_drop, List.zipWith_map, List.zip, List.map_zipWith]
end DL
set_option Elab.async false
set_option linter.all false
set_option maxRecDepth 100000
set_option maxHeartbeats 4000000
namespace DL
open PySem PySem.Spec PyProof.Rows L2 LN
def putF (f : Nat → Addr) (u : Nat) (a : Addr) : Nat → Addr := fun v => if v = u then a else f v
end DL
set_option Elab.async false
set_option linter.all false
set_option maxRecDepth 100000
set_option maxHeartbeats 4000000
namespace DL
open PySem PySem.Spec PyProof.Rows L2 LN
end DL
set_option Elab.async false
set_option linter.all false
set_option maxRecDepth 100000
set_option maxHeartbeats 4000000
namespace DL
open PySem PySem.Spec PyProof.Rows L2 LN
end DL
set_option Elab.async false
set_option linter.all false
set_option maxRecDepth 100000
set_option maxHeartbeats 4000000
namespace DL
open PySem PySem.Spec PyProof.Rows L2 LN
end DL
set_option Elab.async false
set_option linter.all false
set_option maxRecDepth 100000
set_option maxHeartbeats 4000000
namespace DL
open PySem PySem.Spec PyProof.Rows L2
section
variable {X : Cx} {K : PySem.W.Frag} {a b : Expr} {ea eb : EE} {pos : Pos}
@[simp] def oRepO : OD := fun x y G Q => match lkL G x, y with
  | some ds, .int k => (∀ ns, x ≠ .scr ns) ∧ -(2 ^ 63) ≤ k ∧ k < 2 ^ 63 ∧ ds.length * k.toNat ≤ sizeLine ∧ ∀ p, G p = none → Q (.ref p) (gput G p (.lst (List.replicate k.toNat ds).flatten))
  | _, _ => False
theorem lo_repO : LO K rRep oRepO := fun P G H x y u v Q R h w rx ry k => by
  unfold oRepO at h
  split at h
  · rename_i ds kk e1
    obtain ⟨n1, k1, k2, z, q⟩ := h
    rw [rep_i ry]
    obtain ⟨a, xs, rfl, r1, q1, z1⟩ := lk_hp w rx e1 n1
    refine ⟨a, kk, xs, rfl, rfl, r1, k1, k2, by rw [← q1.length]; exact z, fun p hp => ?_⟩
    obtain ⟨st, w', r'⟩ := own_lst w hp (reps_rep q1 kk.toNat) (by simp [List.length_flatten]; rw [Nat.mul_comm]; exact z)
    exact k _ _ _ _ st w' r' (q p (w.fresh hp).1)
  · exact h.elim
theorem j_repO (ha : JE X a ea) (hb : JE X b eb) : JE X (.BinOp a .Mult b pos) (eOp oRepO ea eb) := j_bin op_rep lo_repO ha hb
/-- list(d): its keys, ints; frozen -/
@[simp] def cListDI : CD := fun xs G Q => match xs with
  | [x] => (match (lkD G x).bind fun p => intKs p.1 with
    | some ns => ns.length ≤ 1000 ∧ Q (.lst (ns.map D.int)) G
    | none => False)
  | _ => False
/-- a, b = e, e's value a list -/
@[simp] def sAsgL (te : EE) (is : List Nat) : ES := fun N s G => te s G fun d G1 => match lkL G1 d with
  | some ds => (match setAll s is ds with
    | some s' => N.nx s' G1
    | none => False)
  | none => False
theorem setAll_len : ∀ (is : List Nat) (ds : List D) (s s' : Sd), setAll s is ds = some s' → ds.length = is.length := by
  intro is
  induction is with
  | nil => intro ds s s' e; cases ds with
    | nil => rfl
    | cons => cases e
  | cons i is ih => intro ds s s' e; cases ds with
    | nil => cases e
    | cons d ds => rw [List.length_cons, List.length_cons, ih ds _ _ e]
theorem js_asgL {Y : Wx} {e : Expr} {ee : EE} {es : List Expr} {is : List Nat} {n k : Nat} {tpos : Pos} (he : JE X e ee) (hc : X.calm = true) (h : JGs X es is) (hl : is.length = n := by rfl) (hn : (assignEach es X.env).length = n := by rfl) (hst : (assignEach es X.env).findIdx? (·.1) = none := by rfl)
    (hs : swapsWithSole [.Tuple es k tpos] e pos.line X.env = pure false := by rfl) (hw : swappedStores [.Tuple es k tpos] e X.env = pure none := by rfl) (h1 : (assignEach [.Tuple es k tpos] X.env).map (·.2) = [assign (.Tuple es k tpos) X.env] := by rfl) :
    JS X Y (.Assign [.Tuple es k tpos] e pos) (sAsgL ee is) :=
  ⟨ps_asg he.pe (pg_unl hc h.pg hn hst) hs hw h1, fun P s G N σ H M q r kk => by
    unfold sAsgL at q
    refine he.le P s G _ σ H _ q r fun d G' v H' st w rp q => ?_
    split at q
    · rename_i ds e1
      split at q
      · rename_i s' e2
        obtain ⟨a, xs, rfl, sq, rs, z⟩ := lk_sq w rp e1
        refine ⟨a, xs, rfl, sq, by rw [← rs.length, setAll_len _ _ _ _ e2, hl], ?_⟩
        exact h.lg P s s' G' σ H' ds xs _ e2 (r.step st w) rs fun σ' r' _ => kk.nx s' G' σ' H' st r' q
      · exact q.elim
    · exact q.elim⟩
end
end DL
set_option Elab.async false
set_option linter.all false
set_option maxRecDepth 100000
set_option maxHeartbeats 4000000
namespace L2
open PySem PySem.Spec PyProof.Rows
end L2
namespace DL
open PySem PySem.Spec PyProof.Rows L2
@[simp] def oNeNil : OD := fun x y G Q => match lkL G x, lkL G y with
  | some ds, some [] => Q (.bl (!ds.isEmpty)) G
  | _, _ => False
end DL
set_option Elab.async false
set_option linter.all false
set_option maxRecDepth 100000
set_option maxHeartbeats 4000000
namespace L2
open PySem PySem.Spec PyProof.Rows
end L2
namespace DL
open PySem PySem.Spec PyProof.Rows L2
section
variable {K : PySem.W.Frag}
@[simp] def cListX : CD := fun xs G Q => match xs with
  | [.str z] => z.length ≤ sizeLine ∧ Q (.lst (sgnD z)) G
  | _ => False
@[simp] def cTupX : CD := fun xs G Q => match xs with
  | [.str z] => z.length ≤ sizeLine ∧ Q (.tup (sgnD z)) G
  | _ => False
end
end DL
set_option Elab.async false
set_option linter.all false
set_option maxRecDepth 100000
set_option maxHeartbeats 4000000
namespace DL
open PySem PySem.Spec PyProof.Rows L2
/-- as FnOk, where no repr is under way -/
structure FnG (P : Program) (w : World) (K : PySem.W.Frag) (mg : Str → Option Value) (base : Heap) (k : Nat) (f : Addr) (fd : FuncData) (ps : List Str) (sp : Sp) : Prop where
  ln : ∀ vs H Q E, sp vs H Q E → vs.length = ps.length
  go : ∀ (A : Around) (l : List Env) (s : Shared) (H : Hp) (ar : Args) (us : List Value) (vs : List V) (Q : VK) (E : XK), Room k A → A.guards = some [] → Env0 P w K mg base A l s H → BindsTo s fd ar (ps.zip us) → Vals vs us → sp vs H Q E → codeAny (model P w) A (.call (.ref f) ar) (CR CX0 l P w H s Q E) s
theorem fnG_ok {P : Program} {w : World} {K : PySem.W.Frag} {mg : Str → Option Value} {base : Heap} {x qual : Str} {params : Arguments} {body : List Stmt} {scope : Scope} {kws : List (Str × V)} {dvs : List V} {f : Addr} {fd : FuncData} {N ps : List Str} {k : Nat} {sp : Sp}
    (FF : FunD K x qual params body scope dvs kws f fd) (S : FnScope N ps scope) (ln : ∀ vs H Q E, sp vs H Q E → vs.length = ps.length)
    (hb : ∀ (cdv : Value) (A : Around) (l : List Env) (s : Shared) (H : Hp) (vs : List V) (Q : VK) (E : XK), Room k (A.deeper (envOfC qual scope s.heap.objs.size f cdv)) → A.guards = some [] → sp vs H Q E → ∃ t, PSs (cxOf CX0 P w K mg base N qual scope f cdv A l s H E) body t ∧ t { nx := fun _ H' => Q .non H', rt := Q } (L2.start N vs) H) :
    FnG P w K mg base (k + 1) f fd ps sp := by
  obtain ⟨oc, od, dV, kV, doc, pm, an, cdv, ct, osl, rfl, lk, hcd, _, _⟩ := FF.ex
  refine ⟨ln, fun A l s H ar us vs Q E room gd e0 bt rel hs => ?_⟩
  have hl := ln _ _ _ _ hs
  have kin := e0.mod.kin.keeps fun b o e => (e0.bs b o e).1
  have lim := e0.mod.nolimit.keeps fun b o e => (e0.bs b o e).1
  refine codeAny_call_function room.depth (kin _ _ lk) rfl S.co S.gen rfl (PySem.W.codeRec_of kin hcd) (bt _ _ _ _ ?_)
  refine wpAny_newFunctionEnv_cells S.kind (fun y hy => ?_) fun env he s1 ic => ?_
  · rcases S.par y.1 (List.of_mem_zip (a := y.1) (b := y.2) hy).1 with q | q
    · exact .inl q
    · exact .inr ⟨q, PySem.W.cellsFrom_some _ _ _ (.inl q)⟩
  subst he
  obtain ⟨t, pt, tq⟩ := hb cdv A l s H vs Q E (room.deeper _) gd hs
  refine ⟨lim.keeps ic.toInCall.keep, codeAny_func (wpAny_mono (pt.run [] s1 (L2.start N vs) H _ (inv_start S room.hd e0 hl rel ic) tq) (fun fl s' out => ?_) fun _ _ z => z)⟩
  cases fl with
  | ret u => exact let ⟨v, _, H', J, rv, q⟩ := out; ⟨v, H', J.os, J.bare, J.base, J.hok, rv, q⟩
  | next => exact let ⟨_, H', J, q⟩ := out; ⟨V.non, H', J.os, J.bare, J.base, J.hok, rfl, q⟩
  | brk => exact let ⟨_, _, _, q⟩ := out; q.elim
  | cont => exact let ⟨_, _, _, q⟩ := out; q.elim
abbrev FKG (P : Program) (w : World) (K : PySem.W.Frag) (mg : Str → Option Value) (base : Heap) (k : Nat) (f : Addr) (fd : FuncData) (ps : List Str) (F : Sf) : Prop := FnG P w K mg base k f fd ps (Lf K ps.length F)
/-- the rule for such a def -/
theorem fkG_ok {P : Program} {w : World} {K : PySem.W.Frag} {mg : Str → Option Value} {base : Heap} {x qual : Str} {params : Arguments} {body : List Stmt} {scope : Scope} {kws : List (Str × V)} {dvs : List V} {f : Addr} {fd : FuncData} {N ps : List Str} {k : Nat} {F : Sf} {es : ES}
    (FF : FunD K x qual params body scope dvs kws f fd) (S : FnScope N ps scope)
    (hJ : ∀ (cdv : Value) (A : Around) (outer : List Env) (s : Shared) (H : Hp) (E : XK), Room k (A.deeper (envOfC qual scope s.heap.objs.size f cdv)) → A.guards = some [] → JSs (cxOf CX0 P w K mg base N qual scope f cdv A outer s H E).nox y0 body es)
    (hR : ∀ ds G Q, F ds G Q → es (fin G Q) (startD N.length ds) G) : FKG P w K mg base (k + 1) f fd ps F := by
  refine fnG_ok FF S (fun vs H Q E h => h.1) fun cdv A outer s H vs Q E hr gd h => ?_
  obtain ⟨_, P', ds, G, Q', wo, r, hf, kk⟩ := h
  have j := hJ cdv A outer s H E hr gd
  refine ⟨_, PSs.nox j.ps, j.ls P' (startD N.length ds) G (fin G Q') (L2.start N vs) H _ (hR ds G Q' hf) (rl_start wo r) ⟨fun s' G' σ' H' st rl hq => ?_, fun d G' v H' st w' rp hq => ?_, fun _ _ _ _ _ _ hq => hq.elim, fun _ _ _ _ _ _ hq => hq.elim, fun _ _ _ _ _ _ _ _ _ _ hq => hq.elim⟩⟩
  · obtain ⟨d2, G2, fz, q2⟩ := hq
    obtain ⟨b1, b2, b3⟩ := fz K P' H H' .non wo st rl.wo rep_non
    exact kk d2 G2 .non H' b1 b2 b3 q2
  · obtain ⟨d2, G2, fz, q2⟩ := hq
    obtain ⟨b1, b2, b3⟩ := fz K P' H H' v wo st w' rp
    exact kk d2 G2 v H' b1 b2 b3 q2
structure CalG (P : Program) (w : World) (K : PySem.W.Frag) (mg : Str → Option Value) (base : Heap) (k : Nat) (x : Str) (ps : List Str) (F : Sf) : Prop where
  ex : ∃ f fd, FKG P w K mg base k f fd ps F ∧ mg x = some (.ref f) ∧ PySem.W.keepIn K (.ref f) = true ∧ Binds K fd ps []
theorem calG_ok {P : Program} {w : World} {K : PySem.W.Frag} {mg : Str → Option Value} {base : Heap} {x : Str} {st : Stmt} {N ps : List Str} {k : Nat} {F : Sf} {es : ES} (D : Df K mg x st) (S : FnScope N ps (defScope st))
    (hb : ∀ (kV doc pm : Value) (an : Option Addr) (cdv ct : Value) (us : List Value), us.length = ps.length → bindArgs (PySem.W.fnOf x x (defArgs st) (defBody st) (defScope st) .none kV doc pm an cdv ct) ⟨us, []⟩ = pure (ps.zip us))
    (hJ : ∀ (f : Addr) (cdv : Value) (A : Around) (outer : List Env) (s : Shared) (H : Hp) (E : XK), Room k (A.deeper (envOfC x (defScope st) s.heap.objs.size f cdv)) → A.guards = some [] → JSs (cxOf CX0 P w K mg base N x (defScope st) f cdv A outer s H E).nox y0 (defBody st) es)
    (hR : ∀ ds G Q, F ds G Q → es (fin G Q) (startD N.length ds) G) : CalG P w K mg base (k + 1) x ps F := by
  obtain ⟨f, fd, h1, h2⟩ := D.ex
  exact ⟨f, fd, fkG_ok h1 S (hJ f) hR, h2, h1.kp, h1.bindsN hb⟩
section
variable {X : Cx}
/-- the callee runs -/
theorem pe_callG {k : Nat} {f : Addr} {fd : FuncData} {ps : List Str} {sp : Sp} {x : Str} {p pos : Pos} {e : Expr} {es : List Expr} {t : TA} (F : FnG X.prog X.w X.K X.mg X.base k f fd ps sp) (room : Room k X.A) (gd : X.A.guards = some []) (hg : Gl X x) (hm : X.mg x = some (.ref f))
    (hk : PySem.W.keepIn X.K (.ref f) = true) (hb : Binds X.K fd ps []) (ha : PA X (e :: es) t) (hdb : (x == ("__debug__" : Str)) = false := by decide) (he : starEach (e :: es) X.env = (false, eval e X.env) :: starEach es X.env := by rfl) (hpl : (backTo pos (starEach es X.env)).any (·.1) = false := by rfl) :
    PE X (.Call (.Name x p) (e :: es) [] pos) (tCall sp [] (fun _ _ _ => False) t) := by
  refine ⟨fun pins s σ H Q I h => wpAny_Call_Name_kw (ld_glob I hg hm ?_ hdb)⟩
  refine PySem.W.callWith_K (h₀ := X.base) I.ok.mod.kin hk (thn (ha.run pos pins s σ H _ I h) fun us s1 z => ⟨z.choose_spec.choose_spec.1.kIn, ?_⟩) he hpl
  obtain ⟨vs, H1, I1, r, q⟩ := z
  rw [List.append_nil] at q
  have hl : us.length = ps.length := by rw [← r.length]; exact F.ln _ _ _ _ q
  have bt := hb s1 us I1.kIn (by rw [List.append_nil]; exact hl)
  rw [List.append_nil] at bt
  refine wpAny_call (codeAny_mono (F.go X.A X.stack s1 H1 ⟨us, []⟩ us vs Q _ room gd I1.env0 bt r q) fun fl s' out => ?_)
  cases fl with
  | error e => exact pass0 pins σ H1 s1 e s' I1 out
  | ok fl =>
    cases fl with
    | ret u => exact I1.after out
    | next => exact out.elim
    | brk => exact out.elim
    | cont => exact out.elim
theorem j_calG {K : PySem.W.Frag} {k : Nat} {ps : List Str} {F : Sf} {x : Str} {p pos : Pos} {e : Expr} {es : List Expr} {ea : EA} (c : CalG X.prog X.w K X.mg X.base k x ps F) (hr : Room k X.A) (gd : X.A.guards = some []) (hg : Gl X x)
    (ha : JA X (e :: es) ea) (hK : X.K = K := by rfl) (hlen : (e :: es).length = ps.length := by rfl) (hdb : (x == ("__debug__" : Str)) = false := by decide) (he : starEach (e :: es) X.env = (false, eval e X.env) :: starEach es X.env := by rfl) (hpl : (backTo pos (starEach es X.env)).any (·.1) = false := by rfl) : JE X (.Call (.Name x p) (e :: es) [] pos) (eCall F ea) := by
  subst hK
  obtain ⟨f, fd, h1, h2, h3, h4⟩ := c.ex
  exact ⟨pe_callG h1 hr gd hg h2 h3 h4 ha.pa hdb he hpl, le_call (t := upA X.K (e :: es).length ea) (hlen ▸ ha.la)⟩
end
/-- what the law's call leaves -/
def Good (s₁ : Shared) (r : Result) (s' : Shared) : Prop := r = .ok (.ret (.bool true)) ∧ OldK s₁.heap s'.heap ∧ s'.os = s₁.os ∧ AllBare s'.gens
section
variable {P : Program} {w : World} {K : PySem.W.Frag} {mg mb : Str → Option Value} {k : Nat} {fa a : Addr} {fd : FuncData} {x : Str} {F : Sf} {s₁ : Shared} {vs : List Value} {ns : List Int}
/-- from an abstract heap that tracks at most the script -/
theorem lawG_at {H : Hp} (KX : K.In s₁.heap) (hns : s₁.heap.Ns mainGlobals mg) (hb : s₁.heap.Ns builtinsNs mb) (hbb : ∀ x : Str, x ≠ "__name__" → mb x = bootBuiltins x) (hlim : s₁.heap.NoLimit) (hsy : ∃ m, s₁.heap.Ns sysModules m) (hg : s₁.gens = #[])
    (ha : s₁.heap.get? a = some { cls := .type "list", data := .seq vs.toArray }) (room : Room k callerA) (hF : ∀ base : Heap, K.In base → base.Ns mainGlobals mg → (∃ m, base.Ns sysModules m) → FKG P w K mg base k fa fd [x] F) (hbind : ∀ (s : Shared) (u : Value), BindsTo s fd ⟨[u], []⟩ [(x, u)])
    (hsp : Lf K 1 F [.ref a] H (fun v _ => v = .bl true) fun _ _ _ => False) (hO : Only H) (hok : HOk P w H s₁.heap) (hA : ∀ b, H b ≠ none → b = a) (hK : H a ≠ none → K.lookup a = none) : codeAny (model P w) callerA (.call (.ref fa) ⟨[.ref a], []⟩) (Good s₁) s₁ := by
  have un : ∀ {b : Addr} {u : HO}, H b = some u → b = a ∧ K.lookup a = none := fun {b u} q => by
    have e := hA b (by rw [q]; simp)
    subst e
    exact ⟨rfl, hK (by rw [q]; simp)⟩
  have free : ∀ {b : Addr}, (b ≠ a ∨ K.lookup a ≠ none) → H b = none := fun {b} h => by
    cases q : H b with
    | none => rfl
    | some u => exact h.elim (fun z => absurd (un q).1 z) fun z => absurd (un q).2 z
  have nsk : ∀ {b : Addr} {m : Str → Option Value}, s₁.heap.Ns b m → (hidT s₁.heap H).Ns b m := fun {b m} z => by
    obtain ⟨o, es, ep, e, d, r⟩ := z
    refine ⟨o, es, ep, hidT_get e (free (.inl fun q => ?_)), d, r⟩
    subst q
    rw [ha] at e
    cases e
    exact nomatch d
  have kb : K.In (hidT s₁.heap H) := fun b o e => hidT_get (KX b o e) (by
    by_cases q : b = a
    · subst q; exact free (.inr (by rw [e]; simp))
    · exact free (.inl q))
  have e0 : Env0 P w K mg (hidT s₁.heap H) callerA [] s₁ H := ⟨rfl, ⟨kb, nsk hns, ⟨mb, nsk hb, hbb⟩, let ⟨mc, h1, h2⟩ := hlim; ⟨mc, nsk h1, h2⟩⟩, fun b o e => of_hidT e, Nat.le_of_eq (hidT_size _ _), trivial, fun b z => (nomatch (show b ∈ ([] : List Addr) from z)), hok, .of_eq hg⟩
  refine codeAny_mono ((hF _ kb (nsk hns) (let ⟨m, h⟩ := hsy; ⟨m, nsk h⟩)).go callerA [] s₁ H ⟨[.ref a], []⟩ [.ref a] [.ref a] _ _ room rfl e0 (hbind s₁ (.ref a)) (.cons rfl .nil) hsp) fun r s' out => ?_
  cases r with
  | error e => exact out.elim
  | ok fl =>
    cases fl with
    | next => exact out.elim
    | brk => exact out.elim
    | cont => exact out.elim
    | ret u =>
      obtain ⟨v, H', os, bare, grown, hok', rv, ev⟩ := out
      have ev' : v = .bl true := ev
      subst ev'
      obtain rfl : u = Value.bool true := rv
      refine ⟨rfl, OldK.of_keep fun b o e => ?_, os, bare⟩
      rcases hO b with z | ⟨ob, xs, z⟩
      · exact grown.keep b o e z (fun q => nomatch (show b ∈ ([] : List Addr) from q)) (by simp)
      · have g1 := (hok b _ z).1
        rw [e] at g1
        cases g1
        exact (hok' b _ (grown.frzs b o _ z)).1
theorem lawG (KX : K.In s₁.heap) (hns : s₁.heap.Ns mainGlobals mg) (hb : s₁.heap.Ns builtinsNs mb) (hbb : ∀ x : Str, x ≠ "__name__" → mb x = bootBuiltins x) (hlim : s₁.heap.NoLimit) (hsy : ∃ m, s₁.heap.Ns sysModules m) (hg : s₁.gens = #[])
    (ha : s₁.heap.get? a = some { cls := .type "list", data := .seq vs.toArray }) (hi : IntsAre vs ns) (hl : ns.length ≤ sizeLine) (room : Room k callerA) (hF : ∀ base : Heap, K.In base → base.Ns mainGlobals mg → (∃ m, base.Ns sysModules m) → FKG P w K mg base k fa fd [x] F) (hbind : ∀ (s : Shared) (u : Value), BindsTo s fd ⟨[u], []⟩ [(x, u)])
    (hsp : ∀ H : Hp, Only H → SqL K H a (ns.map V.int) → Lf K 1 F [.ref a] H (fun v _ => v = .bl true) fun _ _ _ => False) : codeAny (model P w) callerA (.call (.ref fa) ⟨[.ref a], []⟩) (Good s₁) s₁ := by
  have rel := vals_ints hi
  cases hk : K.lookup a with
  | some o =>
    have e := KX a o hk
    rw [ha] at e
    cases e
    have hO : Only (fun _ => none) := fun _ => .inl rfl
    exact lawG_at KX hns hb hbb hlim hsy hg ha room hF hbind (hsp _ hO (.inr ⟨_, vs.toArray, _, hk, rfl, rfl, rfl, by rw [List.size_toArray, hi.length]; exact hl, by simpa using rel⟩)) hO (fun _ _ z => nomatch z) (fun _ z => absurd rfl z) fun z => absurd rfl z
  | none =>
    obtain ⟨H, hH⟩ : ∃ H : Hp, H = fun b => if b = a then some (.frz { cls := .type "list", data := .seq vs.toArray } (.lst (ns.map V.int))) else none := ⟨_, rfl⟩
    have at_ : H a = some (.frz { cls := .type "list", data := .seq vs.toArray } (.lst (ns.map V.int))) := by rw [hH]; exact if_pos rfl
    have no : ∀ b, b ≠ a → H b = none := fun b n => by rw [hH]; exact if_neg n
    have hO : Only H := fun b => by
      by_cases q : b = a
      · subst q; exact .inr ⟨_, _, at_⟩
      · exact .inl (no b q)
    refine lawG_at KX hns hb hbb hlim hsy hg ha room hF hbind (hsp H hO (.inl (.inr ⟨_, at_⟩))) hO (fun b u z => ?_) (fun b z => ?_) fun _ => hk
    · by_cases q : b = a
      · subst q
        rw [at_] at z
        cases z
        exact ⟨ha, by rw [List.length_map]; exact hl, vs, _, rel, ha⟩
      · rw [no b q] at z; cases z
    · by_cases q : b = a
      · exact q
      · exact absurd (no b q) z
end
/-- a law's end -/
theorem walkG {l : PySem.W.OpenLaw} {n k : Nat} {q : Program} {loose : List Str} {XP : (Str → Option Value) → Heap → Prop} {YP : World → Heap → Prop} {d : DefRec} {x : Str} (hn : l.most = some n) (hn2 : n ≤ sizeLine) (hdf : d.params.defaults = []) (room : Room k callerA)
    (F : ∀ (w : World) (mg : Str → Option Value) (fa : Addr) (h : Heap), YP w h → h.Ns mainGlobals mg → mg d.name = some (.ref fa) → ∃ (K : PySem.W.Frag) (fd : FuncData), K.In h ∧ (∀ (s : Shared) (u : Value), BindsTo s fd ⟨[u], []⟩ [(x, u)]) ∧
      ∀ base : Heap, K.In base → base.Ns mainGlobals mg → (∃ m, base.Ns sysModules m) → FKG l.prog w K mg base k fa fd [x] (lawF n)) (hi : importsNone q = true) : PySem.W.WalkO q loose XP YP l.row.toRowW d [] (fun f vs => PySem.call f vs) := by
  refine Att.attach_call hn hdf fun w s₀ s₁ mg mb fa o pm cd doc a vs ns G Y ho hd hcd hmg hobj hints hlen hg => ?_
  obtain ⟨K, fd, KX, hb, hF⟩ := F w mg fa _ Y G.T.g hmg
  exact lawG KX G.T.g G.T.b G.T.builtins G.T.nolimit (let ⟨m, h, _⟩ := (G.T.seer hi).mods; ⟨m, h⟩) hg hobj hints (Nat.le_trans hlen hn2) room hF hb fun H hO hS => law_sp hn2 hlen hO hS
end DL
set_option Elab.async false
set_option linter.all false
set_option maxRecDepth 100000
set_option maxHeartbeats 4000000
namespace L2
open PySem PySem.Spec PyProof.Rows PySem.W
end L2
namespace DL
open PySem PySem.Spec PyProof.Rows L2 PySem.W
@[simp] def cRepr : CD := fun xs G Q => match xs with
  | [x] => (match toPy G x with
    | some p => p.showable = true ∧ p.hasDict = false ∧ p.depth ≤ 40 ∧ p.shown.length ≤ sizeLine ∧ Q (.str p.shown) G
    | none => False)
  | _ => False
@[simp] def boxD : D → Bool
  | .lst _ => true
  | .tup _ => true
  | .ref _ => true
  | .scr _ => true
  | _ => false
@[simp] def cStrD : CD := fun xs G Q => match xs with
  | [.int i] => i.natAbs.log2 < 1920 ∧ Q (.str (toString i)) G
  | [.str z] => Q (.str z) G
  | [x] => boxD x = true ∧ (match toPy G x with
    | some p => p.showable = true ∧ p.hasDict = false ∧ p.depth ≤ 40 ∧ p.shown.length ≤ sizeLine ∧ Q (.str p.shown) G
    | none => False)
  | _ => False
@[simp] def cStrI : CD := fun xs G Q => match xs with
  | [.int i] => i.natAbs.log2 < 1920 ∧ Q (.str (toString i)) G
  | _ => False
def Asc (t : Str) : Prop := ∀ c ∈ t.cps.toList, c < 1114112
theorem asc_of (s : String) : Asc (Str.ofString s) := fun c hc => by
  rw [Str.ofString_eq_toList] at hc
  simp at hc
  obtain ⟨a, _, rfl⟩ := hc
  have := a.valid
  unfold UInt32.isValidChar Nat.isValidChar at this
  show a.val.toNat < _
  omega
theorem asc_app {a b : Str} (h : Asc a) (k : Asc b) : Asc (a ++ b) := fun c hc => by
  have e : (a ++ b).cps = a.cps ++ b.cps := rfl
  rw [e, Array.toList_append] at hc
  have this := hc
  rcases List.mem_append.mp this with q | q
  · exact h c q
  · exact k c q
theorem len_app (a b : Str) : (a ++ b).length = a.length + b.length := strLen_append a b
theorem asc_join {sep : Str} (hs : Asc sep) : ∀ {ts : List Str}, (∀ t ∈ ts, Asc t) → Asc (Str.join sep ts)
  | [], _ => fun c hc => by simp [Str.join, Str.empty] at hc
  | [x], h => h x List.mem_cons_self
  | x :: y :: r, h => asc_app (asc_app (h x List.mem_cons_self) hs) (asc_join hs fun t ht => h t (List.mem_cons_of_mem _ ht))
theorem asc_from : ∀ {ts : List Str} {k : Nat} {acc : Str}, Asc acc → (∀ t ∈ ts, Asc t) → Asc (textFrom k acc ts)
  | [], _, _, h, _ => h
  | t :: ts, k, acc, h, ht => asc_from (ts := ts) (k := k + 1) (acc := acc ++ (if k > 0 then ", " else "" : String) ++ t) (asc_app (asc_app h (asc_of _)) (ht t List.mem_cons_self)) fun u hu => ht u (List.mem_cons_of_mem _ hu)
structure Tx (n : Nat) (p : PyData) : Prop where
  sh : p.showable = true
  nd : p.hasDict = false
  asc : Asc p.shown
  len : p.shown.length ≤ n
theorem log_small {n : Nat} (h : n < 10 ^ 60) : n.log2 < 1920 := by
  by_cases z : n = 0
  · subst z; decide
  · rw [Nat.log2_lt z]
    exact Nat.lt_trans h (by decide +kernel)
theorem tx_int {i : Int} (h : i.natAbs < 10 ^ 60) : Tx 61 (.int i) := by
  refine ⟨?_, rfl, asc_of _, ?_⟩
  · simp only [PyData.showable]
    exact decide_eq_true (log_small h)
  · have := int_text_length_le10 (a := i) (k := 60) (by decide) h
    simp only [PyData.shown]
    rw [PySem.ofString_length]
    exact this
theorem asc_char {q c : Nat} (hc : c < 1114112) : ∀ d ∈ Builtin.Str.reprChar q c, d < 1114112 := by
  have hx : ∀ w : Nat, ∀ d ∈ List.replicate (w - ((Nat.toDigits 16 c).map Char.toNat).length) 48 ++ (Nat.toDigits 16 c).map Char.toNat, d < 1114112 := fun w d hd => by
    rcases List.mem_append.mp hd with z | z
    · have := List.eq_of_mem_replicate z; omega
    · obtain ⟨a, _, rfl⟩ := List.mem_map.mp z
      have := a.valid
      unfold UInt32.isValidChar Nat.isValidChar at this
      show a.val.toNat < _
      omega
  intro d hd
  unfold Builtin.Str.reprChar at hd
  dsimp only at hd
  have two : ∀ a b : Nat, a < 1114112 → b < 1114112 → d ∈ [a, b] → d < 1114112 := fun a b ha hb h => by
    simp at h
    rcases h with rfl | rfl <;> assumption
  have app : ∀ (a b : Nat) (w : Nat), a < 1114112 → b < 1114112 → d ∈ [a, b] ++ (List.replicate (w - ((Nat.toDigits 16 c).map Char.toNat).length) 48 ++ (Nat.toDigits 16 c).map Char.toNat) → d < 1114112 := fun a b w ha hb h => by
    rcases List.mem_append.mp h with z | z
    · exact two a b ha hb z
    · exact hx w d z
  repeat' split at hd
  · exact two _ _ (by decide) hc hd
  · exact two _ _ (by decide) (by decide) hd
  · exact two _ _ (by decide) (by decide) hd
  · exact two _ _ (by decide) (by decide) hd
  · simp at hd; subst hd; exact hc
  · exact app _ _ _ (by decide) (by decide) hd
  · exact app _ _ _ (by decide) (by decide) hd
  · exact app _ _ _ (by decide) (by decide) hd
theorem asc_fold {q : Nat} : ∀ {l : List Nat} {acc : Array Nat}, (∀ c ∈ l, c < 1114112) → (∀ c ∈ acc.toList, c < 1114112) → ∀ c ∈ (l.foldl (fun out c => out ++ (Builtin.Str.reprChar q c).toArray) acc).toList, c < 1114112
  | [], _, _, h => h
  | x :: l, acc, hl, h => by
    rw [List.foldl_cons]
    refine asc_fold (fun c hc => hl c (List.mem_cons_of_mem _ hc)) fun c hc => ?_
    rw [Array.toList_append] at hc
    rcases List.mem_append.mp hc with z | z
    · exact h c z
    · exact asc_char (hl x List.mem_cons_self) c (by simpa using z)
theorem asc_repr {x : Str} (h : Asc x) : Asc (reprText x) := fun c hc => by
  have hq : reprQuote x < 1114112 := by unfold reprQuote; split <;> decide
  unfold reprText at hc
  rw [Array.toList_push, ← Array.foldl_toList] at hc
  rcases List.mem_append.mp hc with z | z
  · exact asc_fold h (by simpa using hq) c z
  · simp at z; subst z; exact hq
theorem tx_str {x : Str} {n : Nat} (h : Asc x) (hn : x.length ≤ n) : Tx (10 * n + 2) (.str x) := by
  refine ⟨rfl, rfl, asc_repr h, ?_⟩
  have := StrLaws.reprText_len x fun c hc => by have := h c hc; omega
  simp only [PyData.shown]
  omega
theorem shownAll_map : ∀ xs : List PyData, PyData.shownAll xs = xs.map PyData.shown
  | [] => rfl
  | x :: xs => by simp [PyData.shownAll, shownAll_map xs]
theorem showableAll_of : ∀ {xs : List PyData}, (∀ x ∈ xs, x.showable = true) → PyData.showableAll xs = true
  | [], _ => by simp [PyData.showableAll]
  | x :: xs, h => by simp [PyData.showableAll, h x List.mem_cons_self, showableAll_of fun y hy => h y (List.mem_cons_of_mem _ hy)]
theorem noDictAll_of : ∀ {xs : List PyData}, (∀ x ∈ xs, x.hasDict = false) → PyData.hasDictAll xs = false
  | [], _ => by simp [PyData.hasDictAll]
  | x :: xs, h => by simp [PyData.hasDictAll, h x List.mem_cons_self, noDictAll_of fun y hy => h y (List.mem_cons_of_mem _ hy)]
theorem piled_le {n : Nat} : ∀ {ts : List Str}, (∀ t ∈ ts, t.length ≤ n) → piled ts ≤ ts.length * (n + 2)
  | [], _ => by simp [piled]
  | t :: ts, h => by
    rw [piled_cons, List.length_cons, Nat.succ_mul]
    have := h t List.mem_cons_self
    have := piled_le (ts := ts) fun y hy => h y (List.mem_cons_of_mem _ hy)
    omega
theorem listText_le : ∀ ts : List Str, (listText ts).length ≤ piled ts + 2
  | [] => by decide
  | t :: r => by
    unfold listText
    rw [len_app]
    have h := textFrom_length_pos r 1 (("[" : Str) ++ (if (0 : Nat) > 0 then ", " else "" : String) ++ t) (Nat.succ_pos 0)
    have e : ((("[" : Str) ++ (if (0 : Nat) > 0 then ", " else "" : String) ++ t)).length = 1 + t.length := by rw [len_app, len_app]; rfl
    show (textFrom 1 (("[" : Str) ++ (if (0 : Nat) > 0 then ", " else "" : String) ++ t) r).length + 1 ≤ _
    rw [h, e, piled_cons]
    omega
theorem tupleText_le (ts : List Str) : (tupleText ts).length ≤ piled ts + 4 := by
  unfold tupleText
  rw [len_app, len_app]
  have e1 : ((("(" : String) : Str)).length = 1 := rfl
  have e3 : (((if ts.length == 1 then ",)" else ")" : String) : Str)).length ≤ 2 := by split <;> decide
  have e2 : (Str.join ", " ts).length ≤ piled ts := by
    cases ts with
    | nil => decide
    | cons a b => have := join_length_add (a :: b) (by simp); omega
  omega
theorem tx_list {n m : Nat} {xs : List PyData} (h : ∀ x ∈ xs, Tx n x) (hm : xs.length ≤ m) : Tx (m * (n + 2) + 2) (.list xs) := by
  refine ⟨by simp only [PyData.showable]; exact showableAll_of fun x hx => (h x hx).sh, by simp only [PyData.hasDict]; exact noDictAll_of fun x hx => (h x hx).nd, ?_, ?_⟩
  · simp only [PyData.shown, shownAll_map]
    exact asc_app (asc_from (asc_of _) fun t ht => by obtain ⟨x, hx, rfl⟩ := List.mem_map.mp ht; exact (h x hx).asc) (asc_of _)
  · simp only [PyData.shown, shownAll_map]
    have h1 := listText_le (xs.map PyData.shown)
    have h2 := piled_le (n := n) (ts := xs.map PyData.shown) fun t ht => by obtain ⟨x, hx, rfl⟩ := List.mem_map.mp ht; exact (h x hx).len
    rw [List.length_map] at h2
    have h3 : xs.length * (n + 2) ≤ m * (n + 2) := Nat.mul_le_mul_right _ hm
    omega
theorem tx_tuple {n m : Nat} {xs : List PyData} (h : ∀ x ∈ xs, Tx n x) (hm : xs.length ≤ m) : Tx (m * (n + 2) + 4) (.tuple xs) := by
  refine ⟨by simp only [PyData.showable]; exact showableAll_of fun x hx => (h x hx).sh, by simp only [PyData.hasDict]; exact noDictAll_of fun x hx => (h x hx).nd, ?_, ?_⟩
  · simp only [PyData.shown, shownAll_map]
    exact asc_app (asc_app (asc_of _) (asc_join (asc_of _) fun t ht => by obtain ⟨x, hx, rfl⟩ := List.mem_map.mp ht; exact (h x hx).asc)) (asc_of _)
  · simp only [PyData.shown, shownAll_map]
    have h1 := tupleText_le (xs.map PyData.shown)
    have h2 := piled_le (n := n) (ts := xs.map PyData.shown) fun t ht => by obtain ⟨x, hx, rfl⟩ := List.mem_map.mp ht; exact (h x hx).len
    rw [List.length_map] at h2
    have h3 : xs.length * (n + 2) ≤ m * (n + 2) := Nat.mul_le_mul_right _ hm
    omega
theorem Tx.mono {n m : Nat} {p : PyData} (h : Tx n p) (hm : n ≤ m) : Tx m p := ⟨h.sh, h.nd, h.asc, Nat.le_trans h.len hm⟩
theorem Tx.shp {n m : Nat} {p : PyData} (h : Tx n p) : Shp m (.str p.shown) := shp_str h.asc
end DL
set_option Elab.async false
set_option linter.all false
set_option maxRecDepth 100000
set_option maxHeartbeats 4000000
namespace L2
open PySem PySem.Spec PyProof.Rows PySem.W
def encK : Key → PyData
  | .inl i => .int i
  | .inr x => .str x
mutual
inductive DpX (K : PySem.W.Frag) (H : Hp) : V → PyData → Prop
  | non : DpX K H .non .none
  | bl (b : Bool) : DpX K H (.bl b) (.bool b)
  | int (i : Int) : DpX K H (.int i) (.int i)
  | str (x : Str) : DpX K H (.str x) (.str x)
  | lst {a : Addr} {xs : List V} {ds : List PyData} : SqL K H a xs → DpXs K H xs ds → DpX K H (.ref a) (.list ds)
  | tup {a : Addr} {xs : List V} {ds : List PyData} : SqT K H a xs → DpXs K H xs ds → DpX K H (.ref a) (.tuple ds)
  | dct {a : Addr} {kvs : List (Key × V)} {ds : List PyData} : H a = some (.dK kvs) → DpXs K H (kvs.map (·.2)) ds → DpX K H (.ref a) (.dict ((kvs.map fun p => encK p.1).zip ds))
inductive DpXs (K : PySem.W.Frag) (H : Hp) : List V → List PyData → Prop
  | nil : DpXs K H [] []
  | cons {v : V} {vs : List V} {d : PyData} {ds : List PyData} : DpX K H v d → DpXs K H vs ds → DpXs K H (v :: vs) (d :: ds)
end
section
variable {X : Cx} {pins : List (Addr × Obj)} {σ : L2.St} {H : Hp} {s : Shared}
theorem trk_ne (I : Inv X pins σ H s) (hsy : ∃ m, X.base.Ns sysModules m) {a : Addr} {o : HO} (h : H a = some o) : sysModules ≠ a := fun e => by
  subst e
  obtain ⟨m, o', es, ep, e1, _⟩ := hsy
  have := (I.bs _ _ e1).2
  rw [h] at this
  cases this
theorem sq_ne (I : Inv X pins σ H s) (hsy : ∃ m, X.base.Ns sysModules m) {a : Addr} {xs : List V} (h : SqL X.K H a xs) : sysModules ≠ a := by
  rcases h with (h | ⟨o, h⟩) | ⟨o, its, n, hk, hc, hd, hs, _⟩
  · exact trk_ne I hsy h
  · exact trk_ne I hsy h
  · intro e
    subst e
    obtain ⟨m, o', es, ep, e1, d1, _⟩ := hsy
    have := I.ok.mod.kin _ _ hk
    rw [e1] at this
    cases this
    rw [hs] at d1
    cases d1
theorem kv_vals : ∀ {kvs : List (Key × V)} {vs : List (Key × Value)}, KV kvs vs → Vals (kvs.map (·.2)) (vs.map (·.2))
  | _, _, .nil => .nil
  | _, _, .cons h t => .cons h.2 (kv_vals t)
theorem kv_pairs {h : Heap} : ∀ {kvs : List (Key × V)} {vs : List (Key × Value)} {ds : List PyData} {as : List Addr}, KV kvs vs → ReadsAll h (vs.map (·.2)) ds as → PyProof.V.PairsRead h encK vs ((kvs.map fun p => encK p.1).zip ds) as
  | _, _, _, _, .nil, r => by cases r; exact .nil
  | _, _, _, _, .cons (a := p) (b := q) e t, r => by
    obtain ⟨k, v⟩ := q
    cases r with
    | cons r1 r2 =>
      have := kv_pairs t r2
      obtain ⟨e1, _⟩ := e
      simp only [List.map_cons, List.zip_cons_cons, e1]
      exact .cons r1 this
mutual
theorem readsX (I : Inv X pins σ H s) (hsy : ∃ m, X.base.Ns sysModules m) : ∀ {v : V} {d : PyData} {u : Value}, DpX X.K H v d → RelV v u → ∃ as, Reads s.heap u d as ∧ sysModules ∉ as
  | _, _, _, .non, r => by cases r; exact ⟨_, Reads.none, by simp⟩
  | _, _, _, .bl b, r => by cases r; exact ⟨_, Reads.bool b, by simp⟩
  | _, _, _, .int i, r => by obtain ⟨t, rfl⟩ := r; exact ⟨_, Reads.int i t, by simp⟩
  | _, _, _, .str i, r => by obtain ⟨t, rfl⟩ := r; exact ⟨_, Reads.str i t, by simp⟩
  | _, _, _, .lst hs ha, r => by
    cases r
    obtain ⟨its, rv, ⟨o, n, ho, hc, _, hd⟩, _⟩ := I.list hs
    obtain ⟨as, hr, hn⟩ := readsXs I hsy ha rv
    exact ⟨_, Reads.list ho hc hd hr, by simp [sq_ne I hsy hs, hn]⟩
  | _, _, _, .tup hs ha, r => by
    cases r
    obtain ⟨its, rv, ⟨o, ho, hc, n, hd⟩, _⟩ := I.tuple hs
    obtain ⟨as, hr, hn⟩ := readsXs I hsy ha rv
    exact ⟨_, Reads.tuple ho hc hd hr, hn⟩
  | _, _, _, .dct (kvs := kvs) (ds := ds) hs ha, r => by
    cases r
    obtain ⟨_, _, vs, kv, hd⟩ := dk_of I.hok hs
    obtain ⟨bs, hr, hn⟩ := readsXs I hsy ha (kv_vals kv)
    have hp := kv_pairs kv hr
    exact ⟨_, PyProof.V.reads_dictOf (fun k key hk => by
      rcases keyIs_shape hk with ⟨i, t, rfl, rfl⟩ | ⟨x, t, rfl, rfl⟩
      · exact Reads.int i t
      · exact Reads.str x t) hd hp, by simp [trk_ne I hsy hs, hn]⟩
theorem readsXs (I : Inv X pins σ H s) (hsy : ∃ m, X.base.Ns sysModules m) : ∀ {vs : List V} {ds : List PyData} {us : List Value}, DpXs X.K H vs ds → Vals vs us → ∃ as, ReadsAll s.heap us ds as ∧ sysModules ∉ as
  | _, _, _, .nil, r => by cases r; exact ⟨_, ReadsAll.nil, by simp⟩
  | _, _, _, .cons h1 h2, r => by
    cases r with
    | cons r1 r2 =>
      obtain ⟨as, q1, n1⟩ := readsX I hsy h1 r1
      obtain ⟨bs, q2, n2⟩ := readsXs I hsy h2 r2
      exact ⟨_, ReadsAll.cons q1 q2, by simp [n1, n2]⟩
end
def rStrX (K : PySem.W.Frag) : List V → Hp → VK → Prop := fun vs H Q => (∃ (a : Addr) (p : PyData), vs = [.ref a] ∧ DpX K H (.ref a) p ∧ p.showable = true ∧ p.depth ≤ 40 ∧ p.shown.length ≤ sizeLine ∧ Q (.str p.shown) H) ∨ (∃ i, vs = [.int i] ∧ i.natAbs.log2 < 1920 ∧ Q (.str (toString i)) H) ∨ (∃ z, vs = [.str z] ∧ Q (.str z) H) ∨ (∃ b, vs = [.bl b] ∧ Q (.str (if b then "True" else "False")) H) ∨ (vs = [.non] ∧ Q (.str "None") H)
end
end L2
namespace DL
open PySem PySem.Spec PyProof.Rows L2 PySem.W
mutual
@[simp] def toPx (G : Gp) : D → Option PyData
  | .non => some .none
  | .bl b => some (.bool b)
  | .int i => some (.int i)
  | .str x => some (.str x)
  | .lst ds => (toPxs G ds).map .list
  | .tup ds => (toPxs G ds).map .tuple
  | .dct ks ds => (toPxs G ds).map fun ps => .dict ((ks.map encK).zip ps)
  | .scr ns => some (.list (ns.map .int))
  | .ref a => toPy G (.ref a)
  | _ => none
@[simp] def toPxs (G : Gp) : List D → Option (List PyData)
  | [] => some []
  | d :: ds => match toPx G d, toPxs G ds with
    | some a, some r => some (a :: r)
    | _, _ => none
end
section
variable {K : PySem.W.Frag} {P : Addr → Prop} {G : Gp} {H : Hp}
mutual
theorem dpx_dp : ∀ {v : V} {p : PyData}, Dp K H v p → DpX K H v p
  | _, _, .non => .non
  | _, _, .bl b => .bl b
  | _, _, .int b => .int b
  | _, _, .str b => .str b
  | _, _, .lst a b => .lst a (dpxs_dp b)
  | _, _, .tup a b => .tup a (dpxs_dp b)
theorem dpxs_dp : ∀ {vs : List V} {ps : List PyData}, DpAll K H vs ps → DpXs K H vs ps
  | _, _, .nil => .nil
  | _, _, .cons a b => .cons (dpx_dp a) (dpxs_dp b)
end
mutual
theorem dpx_of (w : Wo K P G H) : ∀ (d : D) {v : V} {p : PyData}, Rep K H G P d v → toPx G d = some p → DpX K H v p
  | .non, v, p, h, e => by rw [toPx] at e; cases e; rw [rep_n h]; exact .non
  | .bl b, v, p, h, e => by rw [toPx] at e; cases e; rw [rep_b h]; exact .bl b
  | .int b, v, p, h, e => by rw [toPx] at e; cases e; rw [rep_i h]; exact .int b
  | .str b, v, p, h, e => by rw [toPx] at e; cases e; rw [rep_s h]; exact .str b
  | .ty n, v, p, h, e => by simp [toPx] at e
  | .cl n, v, p, h, e => by simp [toPx] at e
  | .exc a dd f x, v, p, h, e => by simp [toPx] at e
  | .scr ns, v, p, h, e => dpx_dp (dp_of w (.scr ns) h (by simpa using e))
  | .ref a, v, p, h, e => dpx_dp (dp_of w (.ref a) h (by rw [toPx] at e; exact e))
  | .lst ds, v, p, h, e => by
    rw [toPx] at e
    obtain ⟨ps, e1, rfl⟩ := opt_map e
    obtain ⟨a, xs, rfl, g, pp, r, z, q⟩ := rep_l h
    exact .lst (SqL.of r) (dpxs_of w ds q e1)
  | .tup ds, v, p, h, e => by
    rw [toPx] at e
    obtain ⟨ps, e1, rfl⟩ := opt_map e
    obtain ⟨a, xs, rfl, g, pp, r, z, q⟩ := rep_t h
    exact .tup (SqT.of r) (dpxs_of w ds q e1)
  | .dct ks ds, v, p, h, e => by
    rw [toPx] at e
    obtain ⟨ps, e1, rfl⟩ := opt_map e
    unfold Rep at h
    obtain ⟨a, xs, rfl, g, pp, r, z, q⟩ := h
    have hl : ks.length = xs.length := by rw [z, q.length]
    have e3 : (ks.zip xs).map (·.2) = xs := List.map_snd_zip (by omega)
    have e4 : (ks.zip xs).map (fun p => encK p.1) = ks.map encK := by
      have : (ks.zip xs).map (fun p => encK p.1) = ((ks.zip xs).map (·.1)).map encK := by rw [List.map_map]; rfl
      rw [this, List.map_fst_zip (by omega)]
    have := DpX.dct (K := K) r (ds := ps) (by rw [e3]; exact dpxs_of w ds q e1)
    rw [e4] at this
    exact this
theorem dpxs_of (w : Wo K P G H) : ∀ (ds : List D) {vs : List V} {ps : List PyData}, Reps K H G P ds vs → toPxs G ds = some ps → DpXs K H vs ps
  | [], _, _, h, e => by unfold Reps at h; subst h; rw [toPxs] at e; cases e; exact .nil
  | d :: ds, _, _, h, e => by
    unfold Reps at h
    obtain ⟨x, r, rfl, h1, h2⟩ := h
    rw [toPxs] at e
    split at e
    · rename_i a b ea eb
      cases e
      exact .cons (dpx_of w d h1 ea) (dpxs_of w ds h2 eb)
    · cases e
end
end
end DL
set_option Elab.async false
set_option linter.all false
set_option maxRecDepth 100000
set_option maxHeartbeats 4000000
namespace DL
open PySem PySem.Spec PyProof.Rows L2 LN
theorem tx_i {i : Int} (h1 : -1000000000000000000000000000000 ≤ i) (h2 : i ≤ 1000000000000000000000000000000) : Tx 61 (.int i) := tx_int (by
  have e : (10 : Nat) ^ 60 = 1000000000000000000000000000000000000000000000000000000000000 := by decide
  rw [e]; omega)
theorem tx_pair {a b : Int} (h1 : -1000000000000000000000000000000 ≤ a) (h2 : a ≤ 1000000000000000000000000000000) (h3 : -1000000000000000000000000000000 ≤ b) (h4 : b ≤ 1000000000000000000000000000000) : Tx 130 (.tuple [.int a, .int b]) :=
  (tx_tuple (n := 61) (m := 2) (fun x hx => by
    simp at hx
    rcases hx with rfl | rfl
    · exact tx_i h1 h2
    · exact tx_i h3 h4) (by simp)).mono (by decide)
theorem tx_paper {pp : Paper} (h : POk pp) : Tx 6338 (.list (pp.map fun x => PyData.tuple [.int x.1, .int x.2])) := (tx_list (n := 130) (m := 48) (fun x hx => by
  obtain ⟨y, hy, rfl⟩ := List.mem_map.mp hx
  have := h.lo y hy
  have := h.hi y hy
  have := h.p1 y hy
  have := h.p2 y hy
  exact tx_pair (by omega) (by omega) (by omega) (by omega)) (by simpa using h.len)).mono (by decide)
end DL
set_option Elab.async false
set_option linter.all false
set_option maxRecDepth 100000
set_option maxHeartbeats 4000000
namespace DL
open PySem PySem.Spec PyProof.Rows L2 LN
mutual
def anyD : D → Bool
  | .non => true
  | .bl _ => true
  | .int _ => true
  | .str _ => true
  | .lst ds => anyDs ds
  | .tup ds => anyDs ds
  | .dct _ ds => anyDs ds
  | _ => false
def anyDs : List D → Bool
  | [] => true
  | d :: ds => anyD d && anyDs ds
end
theorem anyDs_mem : ∀ {ds : List D}, anyDs ds = true ↔ ∀ d ∈ ds, anyD d = true
  | [] => by simp [anyDs]
  | d :: ds => by simp [anyDs, anyDs_mem (ds := ds)]
@[simp] def isI : D → Bool
  | .int _ => true
  | .bl _ => true
  | _ => false
@[simp] def isB : D → Bool
  | .bl _ => true
  | _ => false
@[simp] def isS : D → Bool
  | .str _ => true
  | _ => false
@[simp] def isL : D → Bool
  | .lst _ => true
  | _ => false
@[simp] def isT : D → Bool
  | .tup _ => true
  | _ => false
theorem isi_int {d : D} {G : Gp} {Q : DK} (h : anyD d = true) : cIsi [d, .ty "int"] G Q = Q (.bl (isI d)) G := by
  have k1 : kitB "NoneType" "int" = some false := by decide +kernel
  have k2 : kitB "bool" "int" = some true := by decide +kernel
  have k3 : kitB "str" "int" = some false := by decide +kernel
  have k4 : kitB "list" "int" = some false := by decide +kernel
  have k5 : kitB "tuple" "int" = some false := by decide +kernel
  have k6 : kitB "dict" "int" = some false := by decide +kernel
  cases d with
  | non => simp [tyD, k1]
  | bl b => simp [tyD, k2]
  | int b => simp [tyD]
  | str b => simp [tyD, k3]
  | lst b => simp [tyD, k4]
  | tup b => simp [tyD, k5]
  | dct b c => simp [tyD, k6]
  | _ => simp [anyD] at h
theorem isi_bool {d : D} {G : Gp} {Q : DK} (h : anyD d = true) : cIsi [d, .ty "bool"] G Q = Q (.bl (isB d)) G := by
  have k1 : kitB "NoneType" "bool" = some false := by decide +kernel
  have k3 : kitB "str" "bool" = some false := by decide +kernel
  have k4 : kitB "list" "bool" = some false := by decide +kernel
  have k5 : kitB "tuple" "bool" = some false := by decide +kernel
  have k6 : kitB "dict" "bool" = some false := by decide +kernel
  cases d with
  | non => simp [tyD, k1]
  | bl b => simp [tyD]
  | int b => simp [tyD]
  | str b => simp [tyD, k3]
  | lst b => simp [tyD, k4]
  | tup b => simp [tyD, k5]
  | dct b c => simp [tyD, k6]
  | _ => simp [anyD] at h
theorem isi_list {d : D} {G : Gp} {Q : DK} (h : anyD d = true) : cIsi [d, .ty "list"] G Q = Q (.bl (isL d)) G := by
  have k1 : kitB "NoneType" "list" = some false := by decide +kernel
  have k2 : kitB "bool" "list" = some false := by decide +kernel
  have k3 : kitB "int" "list" = some false := by decide +kernel
  have k4 : kitB "str" "list" = some false := by decide +kernel
  have k5 : kitB "tuple" "list" = some false := by decide +kernel
  have k6 : kitB "dict" "list" = some false := by decide +kernel
  cases d with
  | non => simp [tyD, k1]
  | bl b => simp [tyD, k2]
  | int b => simp [tyD, k3]
  | str b => simp [tyD, k4]
  | lst b => simp [tyD]
  | tup b => simp [tyD, k5]
  | dct b c => simp [tyD, k6]
  | _ => simp [anyD] at h
theorem isi_tuple {d : D} {G : Gp} {Q : DK} (h : anyD d = true) : cIsi [d, .ty "tuple"] G Q = Q (.bl (isT d)) G := by
  have k1 : kitB "NoneType" "tuple" = some false := by decide +kernel
  have k2 : kitB "bool" "tuple" = some false := by decide +kernel
  have k3 : kitB "int" "tuple" = some false := by decide +kernel
  have k4 : kitB "str" "tuple" = some false := by decide +kernel
  have k5 : kitB "list" "tuple" = some false := by decide +kernel
  have k6 : kitB "dict" "tuple" = some false := by decide +kernel
  cases d with
  | non => simp [tyD, k1]
  | bl b => simp [tyD, k2]
  | int b => simp [tyD, k3]
  | str b => simp [tyD, k4]
  | lst b => simp [tyD, k5]
  | tup b => simp [tyD]
  | dct b c => simp [tyD, k6]
  | _ => simp [anyD] at h
/-- is_whole of anything -/
@[simp] def whB : D → Bool
  | .int _ => true
  | _ => false
theorem whole_any {d : D} {G : Gp} {Q : DK} (h : anyD d = true) (q : Q (.bl (whB d)) G) : F_is_whole [d] G Q := by
  have e1 := isi_int (d := d) (G := G) (Q := fun x _ => x = .bl (isI d)) h
  have e2 := isi_bool (d := d) (G := G) (Q := fun x _ => x = .bl (isB d)) h
  simp only [cIsi, eq_iff_iff, iff_true] at e1 e2
  cases ty : tyD G d with
  | none => rw [ty] at e1; simp at e1
  | some m =>
    rw [ty] at e1 e2
    simp only [Option.bind_some] at e1 e2
    cases k1 : kitB m "int" with
    | none => rw [k1] at e1; simp at e1
    | some a =>
      cases k2 : kitB m "bool" with
      | none => rw [k2] at e2; simp at e2
      | some b =>
        rw [k1] at e1
        rw [k2] at e2
        have e1 : D.bl a = D.bl (isI d) := e1
        have e2 : D.bl b = D.bl (isB d) := e2
        refine ⟨d, m, a, b, rfl, ty, k1, k2, ?_⟩
        rw [D.bl.inj e1, D.bl.inj e2]
        have : (isI d && !isB d) = whB d := by cases d <;> rfl
        rw [this]; exact q
def Thg (k n : Nat) (d : D) : Prop := anyD d = true ∧ ∃ p, (∀ G, toPx G d = some p) ∧ p.showable = true ∧ p.depth ≤ k ∧ Asc p.shown ∧ p.shown.length ≤ n
theorem Thg.mono {k k' n n' : Nat} {d : D} (h : Thg k n d) (hk : k ≤ k') (hn : n ≤ n') : Thg k' n' d := by
  obtain ⟨h1, p, h2, h3, h4, h5, h6⟩ := h
  exact ⟨h1, p, h2, h3, by omega, h5, by omega⟩
theorem ix_at {L : List D} {i : Int} {d : D} {G : Gp} {Q : DK} (e : atI L i = some d) (q : Q d G) : oIx (.lst L) (.int i) G Q := by
  simp only [oIx, lkQ, lkL, e]; exact q
theorem add_ok {L M : List D} {G : Gp} {Q : DK} (h : L.length + M.length ≤ 16777216) (q : Q (.lst (L ++ M)) G) : oAdd (.lst L) (.lst M) G Q := by
  simp only [oAdd, lkL]; exact ⟨h, q⟩
theorem Thg.any {k n : Nat} {d : D} (h : Thg k n d) : anyD d = true := h.1
end DL
set_option Elab.async false
set_option linter.all false
set_option maxRecDepth 100000
set_option maxHeartbeats 4000000
namespace DL
open PySem PySem.Spec PyProof.Rows L2 LN
theorem forW_self {t : Tg} {tb : ES} {Kp : Gp → Prop} {N : En} (I : List D → Sd → Gp → Prop) (hK : ∀ xs s G, I xs s G → Kp G)
    (h : ∀ x xs s G (W : Sd → Gp → Prop), I (x :: xs) s G → (∀ s' G', I xs s' G' → W s' G') → match asg t x s with
      | some s' => tb { N with nx := W, ct := W, bk := N.nx } s' G
      | none => False) (k : ∀ s G, I [] s G → N.nx s G) (xs : List D) (s : Sd) (G : Gp) (h0 : I xs s G) : forW t tb Kp N xs s G := by
  have := forW_ind (g := fun d : D => d) I hK h k xs s G h0
  simpa using this
end DL
set_option Elab.async false
set_option linter.all false
set_option maxRecDepth 100000
set_option maxHeartbeats 4000000
namespace DL
open PySem PySem.Spec PyProof.Rows L2 LN
end DL
set_option Elab.async false
set_option linter.all false
set_option maxRecDepth 100000
set_option maxHeartbeats 4000000
namespace DL
open PySem PySem.Spec PyProof.Rows L2 LN
theorem perm_sum {a b : List Int} (h : a.Perm b) : a.sum = b.sum := by
  induction h with
  | nil => rfl
  | cons x _ ih => rw [List.sum_cons, List.sum_cons, ih]
  | swap x y l => simp only [List.sum_cons]; omega
  | trans _ _ h1 h2 => exact h1.trans h2
theorem getI_of {kv : List (Int × Int)} (nd : (kv.map (·.1)).Nodup) {x : Int × Int} (hx : x ∈ kv) : getI kv x.1 = some x.2 := by
  obtain ⟨v, e, m⟩ := getI_some (List.mem_map.mpr ⟨x, hx, rfl⟩)
  rw [e]
  have : ∀ {kv : List (Int × Int)}, (kv.map (·.1)).Nodup → x ∈ kv → (x.1, v) ∈ kv → v = x.2 := by
    intro kv
    induction kv with
    | nil => intro _ h; cases h
    | cons y kv ih =>
      intro nd h1 h2
      rw [List.map_cons, List.nodup_cons] at nd
      rcases List.mem_cons.mp h1 with rfl | h1
      · rcases List.mem_cons.mp h2 with e | h2
        · exact (congrArg Prod.snd e)
        · exact absurd (List.mem_map.mpr ⟨_, h2, rfl⟩) nd.1
      · rcases List.mem_cons.mp h2 with e | h2
        · exact absurd (List.mem_map.mpr ⟨_, h1, (by rw [← e])⟩) nd.1
        · exact ih nd.2 h1 h2
  rw [this nd hx m]
theorem paper_perm {kv : List (Int × Int)} {ms : List Int} (nd : (kv.map (·.1)).Nodup) (pm : ms.Perm (kv.map (·.1))) : (paperD kv ms).Perm kv := by
  have h : (paperD kv ms).Perm (paperD kv (kv.map (·.1))) := pm.map _
  have e : paperD kv (kv.map (·.1)) = kv := by
    unfold paperD
    rw [List.map_map]
    conv => rhs; rw [← List.map_id kv]
    refine List.map_congr_left fun x hx => ?_
    simp [getI_of nd hx]
  rw [e] at h
  exact h
/-- the end of a def that drew: plain data, other new things let go -/
theorem fin_stP {G G' : Gp} {Q : DK} {a : Addr} {x y z x' y' z' : Int} {d : D} (hG : G a = some (stO x y z)) (hG' : ∀ b u, gput G a (stO x' y' z') b = some u → G' b = some u) (pd : plainD d = true) (q : Q d (gput G a (stO x' y' z'))) : (fin G Q).rt d G' := by
  refine ⟨d, gput G a (stO x' y' z'), fz_sub hG' ?_ ?_ (refIn_plain pd), q⟩
  · intro b u e
    by_cases hba : b = a
    · subst hba; exact ⟨_, gput_same⟩
    · exact ⟨u, by rw [gput_ne hba]; exact e⟩
  · intro b u e
    by_cases hba : b = a
    · subst hba; rw [gput_same] at e; cases e; exact .inl (by simp [RefO, stO, RefIns, RefIn])
    · rw [gput_ne hba] at e; exact .inr e
/-- .. with one new thing beside -/
theorem fin_st1 {G G' : Gp} {Q : DK} {a p : Addr} {x y z x' y' z' : Int} {o : GO} {d : D} (hG : G a = some (stO x y z)) (hp : G p = none) (hG' : G' = gput (gput G a (stO x' y' z')) p o) (pd : plainD d = true) (q : Q d (gput G a (stO x' y' z'))) : (fin G Q).rt d G' := by
  refine fin_stP hG (fun b u e => ?_) pd q
  have hpa : p ≠ a := fun e => by subst e; rw [hG] at hp; cases hp
  by_cases hbp : b = p
  · subst hbp; rw [gput_ne hpa, hp] at e; cases e
  · rw [hG', gput_ne hbp]; exact e
/-- a paper told from a dict -/
theorem paper_compG {kv : List (Int × Int)} {ms : List Int} {s0 : Sd} {q : Addr} {G : Gp} {Q : List D → Gp → Prop} {i j : Nat} (hq : G q = some (.dct (kK kv) (kW kv))) (hs : i < s0.length) (hij : i ≠ j) (h7 : s0[j]? = some (some (.ref q))) (pm : ms.Perm (kv.map (·.1))) (hQ : Q ((paperD kv ms).map qD) G) : compW s0 (.nm i) eYes (eTup (eCons (eVar i) (eCons (eOp oDGet (eVar j) (eVar i)) eNil))) (fun _ => True) (ms.map D.int) [] G Q := by
  refine compW_all (f := fun m : Int => qD (m, (getI kv m).getD 0)) (g := D.int) True.intro ms [] (fun m hm => ⟨s0.set i (some (.int m)), by simp [asg], fun R r => ?_⟩) ?_
  · obtain ⟨v, e, _⟩ := getI_some (pm.mem_iff.mp hm)
    have h7' : (s0.set i (some (D.int m)))[j]? = some (some (.ref q)) := by rw [List.getElem?_set_ne hij]; exact h7
    have h9' : (s0.set i (some (D.int m)))[i]? = some (some (.int m)) := by rw [List.getElem?_set_self (by omega)]
    simp only [eTup, eCons, eNil, eVar, eOp, h7', h9', oDGet, lkD_ref, hq, keyD, valD_kK, e]
    rw [e] at r
    exact ⟨(by decide : 2 ≤ sizeLine), r⟩
  · simpa [paperD, Function.comp_def] using hQ
theorem gput_comm {G : Gp} {a p : Addr} {s l : GO} (h : p ≠ a) : gput (gput G p l) a s = gput (gput G a s) p l := by
  funext b
  unfold gput
  by_cases e : b = a
  · subst e; simp [Ne.symm h]
  · simp [e]
end DL
set_option Elab.async false
set_option linter.all false
set_option maxRecDepth 100000
set_option maxHeartbeats 4000000
namespace DL
open PySem PySem.Spec PyProof.Rows L2 LN
def momR (n : Int) (s : Stretch) : List Int := (List.range s.e.toNat).map fun (k : Nat) => (s.b + (k : Int)) % n
theorem momR_iff {n : Int} {s : Stretch} {m : Int} (hn : 0 < n) (m0 : 0 ≤ m) (m1 : m < n) : m ∈ momR n s ↔ overR n s m = true := by
  unfold momR overR
  simp only [List.mem_map, List.mem_range, decide_eq_true_eq]
  constructor
  · rintro ⟨k, hk, rfl⟩
    have e : ((s.b + (k : Int)) % n - s.b) % n = (k : Int) % n := by
      rw [Int.sub_emod, Int.emod_emod, ← Int.sub_emod]
      congr 1
      omega
    rw [e]
    have h1 := Int.emod_def (k : Int) n
    have h2 : 0 ≤ n * ((k : Int) / n) := Int.mul_nonneg (by omega) (Int.ediv_nonneg (by omega) (by omega))
    omega
  · intro h
    have h0 := Int.emod_nonneg (m - s.b) (show n ≠ 0 by omega)
    refine ⟨((m - s.b) % n).toNat, by omega, ?_⟩
    rw [Int.toNat_of_nonneg h0, Int.add_emod, Int.emod_emod, ← Int.add_emod]
    have : s.b + (m - s.b) = m := by omega
    rw [this]
    exact Int.emod_eq_of_lt m0 m1
def F__law_moments : Sf := fun ds G Q => ∃ (n : Int) (rs : List Stretch) (i : Nat), ds = [ringD n rs, .int (i : Nat)] ∧ RgOk n rs ∧ i < rs.length ∧ Q (.lst (iD (momR n (st rs i)))) G
def tollR (n : Int) (s : Stretch) (pp : Paper) : Int := ((pp.filter fun x => overR n s x.1).map (·.2)).sum
def restR (n : Int) (s : Stretch) (pp : Paper) : Int := if s.w - tollR n s pp > 0 then s.w - tollR n s pp else 0
theorem restR_nonneg (n : Int) (s : Stretch) (pp : Paper) : 0 ≤ restR n s pp := by unfold restR; split <;> omega
theorem restR_ge (n : Int) (s : Stretch) (pp : Paper) : s.w ≤ restR n s pp + tollR n s pp := by unfold restR; split <;> omega
theorem tollR_eq (n : Int) (s : Stretch) : ∀ pp : Paper, tollR n s pp = (pp.map fun x => if overR n s x.1 = true then x.2 else 0).sum
  | [] => rfl
  | x :: pp => by
    have ih := tollR_eq n s pp
    unfold tollR at ih ⊢
    by_cases h : overR n s x.1 = true
    · rw [List.filter_cons_of_pos (by simpa using h)]; simp [h, ih]
    · rw [List.filter_cons_of_neg (by simpa using h)]; simp [h, ih]
theorem loadR_cons {n : Int} {rs : List Stretch} {i : Nat} {l : List Nat} {m : Int} : (loadOn n rs (i :: l) m : Int) = (if overR n (st rs i) m = true then 1 else 0) + (loadOn n rs l m : Int) := by
  unfold loadOn
  by_cases h : overR n (st rs i) m = true
  · rw [List.filter_cons_of_pos (by simpa using h)]; simp [h]; omega
  · rw [List.filter_cons_of_neg (by simpa using h)]; simp [h]
theorem loadR_snoc {n : Int} {rs : List Stretch} {i : Nat} {l : List Nat} {m : Int} : loadOn n rs (l ++ [i]) m = loadOn n rs l m + if overR n (st rs i) m = true then 1 else 0 := by
  unfold loadOn
  rw [List.filter_append, List.length_append]
  by_cases h : overR n (st rs i) m = true <;> simp [h]
theorem tollR_swap (n : Int) (rs : List Stretch) (pp : Paper) : ∀ (l : List Nat), (l.map fun i => tollR n (st rs i) pp).sum = (pp.map fun x => x.2 * (loadOn n rs l x.1 : Int)).sum
  | [] => by
    have e : (pp.map fun x => x.2 * (loadOn n rs [] x.1 : Int)) = pp.map fun _ => (0 : Int) := List.map_congr_left fun x _ => by simp [loadOn]
    rw [e]
    have z : ∀ l : Paper, (l.map fun _ => (0 : Int)).sum = 0 := fun l => by
      induction l with
      | nil => rfl
      | cons x l ih => rw [List.map_cons, List.sum_cons, ih]; rfl
    rw [z]; rfl
  | i :: l => by
    have ih := tollR_swap n rs pp l
    rw [List.map_cons, List.sum_cons, ih, tollR_eq, ← sum_add]
    congr 1
    apply List.map_congr_left
    intro x _
    rw [loadR_cons, Int.mul_add]
    congr 1
    split <;> simp
theorem momR_nodup {n : Int} {s : Stretch} (hn : 0 < n) (he : s.e ≤ n) : (momR n s).Nodup := by
  unfold momR
  rw [List.nodup_iff_pairwise_ne, List.pairwise_map]
  have h : (List.range s.e.toNat).Pairwise fun i j => i < j ∧ j < s.e.toNat := by
    rw [List.pairwise_iff_getElem]
    intro i j hi hj hij
    simp at hi hj ⊢
    omega
  refine h.imp fun {i j} ⟨h1, h2⟩ e => ?_
  have h3 : (((s.b + (j : Int)) - (s.b + (i : Int))) % n) = 0 := by rw [Int.sub_emod, e]; simp
  have h4 : (s.b + (j : Int)) - (s.b + (i : Int)) = ((j - i : Nat) : Int) := by omega
  rw [h4, Int.emod_eq_of_lt (by omega) (by omega)] at h3
  omega
theorem momR_mem {n : Int} {s : Stretch} {m : Int} (hn : 0 < n) (h : m ∈ momR n s) : 0 ≤ m ∧ m < n := by
  unfold momR at h
  obtain ⟨k, -, rfl⟩ := List.mem_map.mp h
  exact ⟨Int.emod_nonneg _ (by omega), Int.emod_lt_of_pos _ hn⟩
end DL
set_option Elab.async false
set_option linter.all false
set_option maxRecDepth 100000
set_option maxHeartbeats 4000000
namespace DL
open PySem PySem.Spec PyProof.Rows L2 LN
end DL
set_option Elab.async false
set_option linter.all false
set_option maxRecDepth 100000
set_option maxHeartbeats 4000000
namespace DL
open PySem PySem.Spec PyProof.Rows L2 LN
theorem ix_ref {q : Addr} {L : List D} {i : Int} {d : D} {G : Gp} {Q : DK} (h : G q = some (.lst L)) (e : atI L i = some d) (k : Q d G) : oIx (.ref q) (.int i) G Q := by
  simp [h, e]
  exact k
end DL
set_option Elab.async false
set_option linter.all false
set_option maxRecDepth 100000
set_option maxHeartbeats 4000000
namespace DL
open PySem PySem.Spec PyProof.Rows L2
abbrev Ux := Xd → Gp → Prop
abbrev Sx := List D → Gp → DK → Ux → Prop
abbrev EX := Sd → Gp → DK → Ux → Prop
abbrev EAX := Sd → Gp → (List D → Gp → Prop) → Ux → Prop
def LfX (K : PySem.W.Frag) (n : Nat) (f : Sx) : Sp := fun vs H R E => vs.length = n ∧ ∃ (P : Addr → Prop) (ds : List D) (G : Gp) (Q : DK) (U : Ux), Wo K P G H ∧ Reps K H G P ds vs ∧ f ds G Q U ∧
  (∀ d G' v H', Step G H G' H' → Wo K P G' H' → Rep K H' G' P d v → Q d G' → R v H') ∧ (∀ x G' cls d H', Step G H G' H' → Wo K P G' H' → RepX K H' G' P x cls d → U x G' → E cls d H')
def LEx (K : PySem.W.Frag) (Y : Wx) (te : TE) (t : EX) : Prop := ∀ (P : Addr → Prop) (s : Sd) (G : Gp) (Q : DK) (U : Ux) (σ : L2.St) (H : Hp) (R : VK), t s G Q U → Rl K P s G σ H →
  (∀ d G' v H', Step G H G' H' → Wo K P G' H' → Rep K H' G' P d v → Q d G' → R v H') → (∀ x G' cls d H', Step G H G' H' → Wo K P G' H' → RepX K H' G' P x cls d → U x G' → Y.w cls d σ H') → te σ H R
def LAx (K : PySem.W.Frag) (Y : Wx) (n : Nat) (te : TA) (t : EAX) : Prop := ∀ (P : Addr → Prop) (s : Sd) (G : Gp) (Q : List D → Gp → Prop) (U : Ux) (σ : L2.St) (H : Hp) (R : List V → Hp → Prop), t s G Q U → Rl K P s G σ H →
  (∀ ds G' vs H', Step G H G' H' → Wo K P G' H' → Reps K H' G' P ds vs → ds.length = n → Q ds G' → R vs H') → (∀ x G' cls d H', Step G H G' H' → Wo K P G' H' → RepX K H' G' P x cls d → U x G' → Y.w cls d σ H') → te σ H R
inductive JEx (X : Cx) (Y : Wx) (e : Expr) (t : EX) : Prop where
  | mk {te : TE} (a : PE X e te) (b : LEx X.K Y te t) : JEx X Y e t
inductive JAx (X : Cx) (Y : Wx) (es : List Expr) (t : EAX) : Prop where
  | mk {te : TA} (a : PA X es te) (b : LAx X.K Y es.length te t) : JAx X Y es t
@[simp] def eXp (t : EE) : EX := fun s G Q _ => t s G Q
@[simp] def eXa (t : EA) : EAX := fun s G Q _ => t s G Q
@[simp] def eConsX (ta : EX) (tr : EAX) : EAX := fun s G Q U => ta s G (fun x G1 => tr s G1 (fun xs G2 => Q (x :: xs) G2) U) U
@[simp] def eCallX (F : Sx) (ta : EAX) : EX := fun s G Q U => ta s G (fun ds G1 => F ds G1 Q U) U
@[simp] def eCallN (F : Sf) (ta : EAX) : EX := fun s G Q U => ta s G (fun ds G1 => F ds G1 Q) U
@[simp] def eLstX (ta : EAX) : EX := fun s G Q U => ta s G (fun xs G1 => xs.length ≤ sizeLine ∧ Q (.lst xs) G1) U
@[simp] def eCBX (c : CD) (ta : EAX) : EX := fun s G Q U => ta s G (fun xs G1 => c xs G1 Q) U
section
variable {X : Cx} {Y : Wx} {K : PySem.W.Frag} {e : Expr} {es : List Expr} {pos : Pos}
theorem jax_of {t : EA} (h : JA X es t) : JAx X Y es (eXa t) := ⟨h.pa, fun P s G Q U σ H R h1 r k _ => h.la P s G Q σ H R h1 r k⟩
structure CalX (P : Program) (w : World) (K : PySem.W.Frag) (mg : Str → Option Value) (base : Heap) (k : Nat) (x : Str) (ps : List Str) (F : Sx) : Prop where
  ex : ∃ f fd, FnOk P w K mg base (L2.CX P w) k f fd ps (LfX K ps.length F) ∧ mg x = some (.ref f) ∧ PySem.W.keepIn K (.ref f) = true ∧ Binds K fd ps []
theorem lex_call {n : Nat} {F : Sx} {t : TA} {ea : EAX} (ha : LAx K Y n t ea) : LEx K Y (tCallS (LfX K n F) (WE Y.w) t) (eCallX F ea) := fun P s G Q U σ H R h r k kx => by
  refine ha P s G _ U σ H _ h r (fun ds G1 vs H1 s1 w1 r1 l1 h1 => ?_) kx
  exact ⟨by rw [← r1.length]; exact l1, P, ds, G1, Q, U, w1, r1, h1, fun d G' v H' st w rp q => k d G' v H' (s1.trans st) w rp q, fun x G' cls d H' st w rx u => kx x G' cls d H' (s1.trans st) w rx u⟩
theorem jx_cal {k : Nat} {ps : List Str} {F : Sx} {x : Str} {p : Pos} {ea : EAX} (c : CalX X.prog X.w K X.mg X.base k x ps F) (hr : Room k X.A) (tk : Takes X Y.w) (hg : Gl X x) (ha : JAx X Y (e :: es) ea) (hK : X.K = K := by rfl) (hlen : (e :: es).length = ps.length := by rfl)
    (hdb : (x == ("__debug__" : Str)) = false := by decide) (he : starEach (e :: es) X.env = (false, eval e X.env) :: starEach es X.env := by rfl) (hpl : (backTo pos (starEach es X.env)).any (·.1) = false := by rfl) : JEx X Y (.Call (.Name x p) (e :: es) [] pos) (eCallX F ea) := by
  subst hK
  obtain ⟨f, fd, h1, h2, h3, h4⟩ := c.ex
  obtain ⟨a, b⟩ := ha
  rw [← hlen] at h1
  exact ⟨pe_callS h1 hr hg h2 h3 h4 (fun σ => passAt tk σ) a hdb he hpl, lex_call b⟩
end
@[simp] def sDropX (te : EX) : ES := fun N s G => te s G (fun _ G1 => N.nx s G1) fun x G1 => N.xr x s G1
@[simp] def sRetX (te : EX) : ES := fun N s G => te s G N.rt fun x G1 => N.xr x s G1
@[simp] def sAsgX (te : EX) (t : Tg) : ES := fun N s G => te s G (fun d G1 => match asg t d s with
  | some s' => N.nx s' G1
  | none => False) fun x G1 => N.xr x s G1
@[simp] def sRaise (c : Str) : ES := fun N s G => N.xr ⟨c, none⟩ s G
@[simp] def sRaiseF (c f : Str) (te : EE) : ES := fun N s G => te s G fun d G1 => N.xr ⟨c, some (f, d)⟩ s G1
section
variable {X : Cx} {Y : Wx} {K : PySem.W.Frag} {e : Expr} {es : List Expr} {pos : Pos} {ee : EX}
theorem js_exprX (he : JEx X Y e ee) (hs : swapsWith e none pos.line X.env = pure false := by rfl) : JS X Y (.Expr e pos) (sDropX ee) := by
  obtain ⟨a, b⟩ := he
  exact ⟨ps_expr a hs, fun P s G N σ H M h r k => b P s G _ _ σ H _ h r (fun d G' v H' st w rp q => k.nx s G' σ H' st (r.step st w) q) fun x G' cls d H' st w rx u => k.xr x s G' cls d σ H' st (r.step st w) rx u⟩
theorem js_setX {i : Nat} {x : Str} {pos' : Pos} (hN : X.N.Nodup) (hi : X.N[i]? = some x) (hx : Loc X.env.scope x) (he : JEx X Y e ee) (hs : swapsWith e (some (.Name x pos')) pos.line X.env = pure false := by rfl)
    (hf : X.fn x = true ∨ X.env.scope.names.lookup x = some .local := by first | exact .inl rfl | exact .inr rfl | assumption) : JS X Y (.Assign [.Name x pos'] e pos) (sAsgX ee (.nm i)) := by
  obtain ⟨a, b⟩ := he
  refine ⟨ps_set hN hi hx a hs hf, fun P s G N σ H M h r k => b P s G _ _ σ H _ h r (fun d G' v H' st w rp q => ?_) fun x G' cls d H' st w rx u => k.xr x s G' cls d σ H' st (r.step st w) rx u⟩
  exact lg_nm P s _ G' σ H' d v _ rfl (r.step st w) rp fun σ' r' _ => k.nx _ G' σ' H' st r' q
def initSp (K : PySem.W.Frag) (f : Str) : Sp := fun vs H Q _ => ∃ (a C : Addr) (v : V), vs = [.ref a, v] ∧ OexC K C ∧ PySem.W.findIn K (.ref C) f = some none ∧ H a = some (exo a C none) ∧ ∀ dx, H dx = none → dx ≠ a → Q .non (upd (upd H dx (exd dx [(f, v)])) a (exo a C (some dx)))
/-- what is known of such a class -/
structure OxK (P : Program) (w : World) (K : PySem.W.Frag) (mg : Str → Option Value) (base : Heap) (c f : Str) : Prop where
  T : OexC K (He.ga K c)
  iC : PySem.W.findIn K (.ref (He.ga K c)) "__init__" = some (some (.ref (He.ma K (He.ga K c) "__init__")))
  tI : PySem.W.typeIn K (.ref (He.ma K (He.ga K c) "__init__")) = some (.type "function")
  nf : PySem.W.findIn K (.ref (He.ga K c)) f = some none
  gC : mg c = some (.ref (He.ga K c))
  fn : ∃ fd, FnOk P w K mg base CX0 1 (He.ma K (He.ga K c) "__init__") fd [("self" : Str), f] (initSp K f) ∧ Binds K fd [("self" : Str), f] []
theorem init_ok {P : Program} {w : World} {mg : Str → Option Value} {base : Heap} {C f q : Str} {st : Stmt} (D : DfM K C "__init__" q st) (S : FnScope [("self" : Str), f] [("self" : Str), f] (defScope st))
    (hb : ∀ (kV doc pm : Value) (an : Option Addr) (cdv ct : Value) (us : List Value), us.length = 2 → bindArgs (PySem.W.fnOf "__init__" q (defArgs st) (defBody st) (defScope st) .none kV doc pm an cdv ct) ⟨us, []⟩ = pure ([("self" : Str), f].zip us))
    (hp : ∀ (fA : Addr) (cdv : Value) (A : Around) (outer : List Env) (s : Shared) (H : Hp) (E : XK), PSs (cxOf CX0 P w K mg base [("self" : Str), f] q (defScope st) fA cdv A outer s H E) (defBody st) (tOst K f (tVar 0) (tVar 1))) :
    ∃ fd, FnOk P w K mg base CX0 1 (He.ma K (He.ga K C) "__init__") fd [("self" : Str), f] (initSp K f) ∧ Binds K fd [("self" : Str), f] [] := by
  obtain ⟨fd, h1⟩ := D.ex
  refine ⟨fd, h1.ok S (fun vs H Q E h => ?_) fun cdv A outer s H vs Q E hr h => ⟨_, hp _ cdv A outer s H E, ?_⟩, h1.bindsN hb⟩
  · obtain ⟨a, C, v, rfl, _⟩ := h
    rfl
  · obtain ⟨a, C, v, rfl, T, nf, e, k⟩ := h
    refine ⟨v, rfl, .ref a, rfl, a, C, rfl, T, nf, .inl ⟨e, fun dx h1 h2 => k dx h1 h2⟩⟩
theorem js_raiseF {x f : Str} {p pos2 : Pos} {k : Nat} {te : EE} (tk : Takes X Y.w) (o : OxK X.prog X.w K X.mg X.base x f) (hr : Room k X.A) (hk : 2 ≤ k) (hg : Gl X x) (hc : X.calm = true) (he : JE X e te) (hK : X.K = K := by rfl) (hdb : (x == ("__debug__" : Str)) = false := by decide)
    (hs : starEach (e :: []) X.env = (false, eval e X.env) :: starEach [] X.env := by rfl) (hpl : (backTo pos (starEach [] X.env)).any (·.1) = false := by rfl) :
    JS X Y (.Raise (some (.Call (.Name x p) [e] [] pos)) none pos2) (sRaiseF x f te) := by
  subst hK
  obtain ⟨fd, F1, B1⟩ := o.fn
  have ha : JA X [e] (eCons te eNil) := ja_cons he ja_nil hs
  refine ⟨ps_raise hc tk (pmk_oex o.T o.iC o.tI F1 (hr.mono hk) B1 .nil pass0 hg o.gC ha.pa hdb hs hpl), fun P s G N σ H M h r k => ?_⟩
  refine ha.la P s G (fun ds G1 => match ds with
    | [d] => N.xr ⟨x, some (f, d)⟩ s G1
    | _ => False) σ H _ h r fun ds G1 vs H1 s1 w1 r1 l1 h1 => ?_
  obtain ⟨d, rfl⟩ : ∃ d, ds = [d] := by
    match ds, l1 with
    | [d], _ => exact ⟨d, rfl⟩
  have h1 : N.xr ⟨x, some (f, d)⟩ s G1 := h1
  obtain ⟨v, rfl, rv⟩ := reps1 r1
  refine ⟨by simp, fun a ha => ?_⟩
  refine ⟨a, _, v, rfl, o.T, o.nf, upd_same, fun dx hd1 hd2 => ⟨rfl, dx, [(f, v)], upd_same, by rw [upd_ne hd2]; exact upd_same, ?_, ?_⟩⟩
  · rw [upd_ne hd2] at hd1
    exact hd1
  · have hd0 : H1 dx = none := by rw [upd_ne hd2] at hd1; exact hd1
    have eq : upd (del (upd (upd (upd H1 a (exo a (He.ga X.K x) none)) dx (exd dx [(f, v)])) a (exo a (He.ga X.K x) (some dx))) a) dx (.xd [(f, v)]) = upd H1 dx (.xd [(f, v)]) := by
      funext b
      by_cases q1 : b = dx
      · subst q1; rw [upd_same, upd_same]
      · rw [upd_ne q1, upd_ne q1]
        by_cases q2 : b = a
        · subst q2; rw [del_same, ha]
        · rw [del_ne q2, upd_ne q2, upd_ne q1, upd_ne q2]
    rw [eq]
    have st : Step G1 H1 G1 (upd H1 dx (.xd [(f, v)])) := Step.new hd0
    obtain ⟨f1, f2⟩ := w1.fresh hd0
    exact k.xr ⟨x, some (f, d)⟩ s G1 _ _ σ _ (s1.trans st) (r.step (s1.trans st) (w1.new hd0)) ⟨rfl, dx, v, rfl, f1, f2, upd_same, rv.step st⟩ h1
end
end DL
set_option Elab.async false
set_option linter.all false
set_option maxRecDepth 100000
set_option maxHeartbeats 4000000
namespace DL
open PySem PySem.Spec PyProof.Rows L2
/-- of the refusals' names -/
def isSub (x c : Str) : Bool := decide (x = c) || decide (c = "BenchError") || decide (c = "ValueError")
def dOf (dd : Addr) (x : Xd) : Option Addr := match x.f with
  | none => none
  | some _ => some dd
/-- except x, in a suite that raises nothing -/
def quiet (N : En) : En := { nx := N.nx, rt := N.rt, bk := N.bk, ct := N.ct }
def sTry (ns : List Str) (c : Str) (tb : ES) (ts : ES) : ES := fun N s G => tb { N with xr := fun x s' G' => x.c ∈ ns ∧ if isSub x.c c = true then ts (quiet N) s' G' else N.xr x s' G' } s G
section
variable {K : PySem.W.Frag} {P : Addr → Prop} {s : Sd} {G : Gp} {σ : L2.St} {H : Hp}
theorem Rl.none (r : Rl K P s G σ H) (i : Nat) : Rl K P (s.set i none) G (σ.set i none) H := by
  refine ⟨r.wo, by rw [List.length_set, List.length_set]; exact r.len, fun j e q => ?_⟩
  by_cases hj : i = j
  · subst hj
    by_cases hi : i < s.length
    · rw [List.getElem?_set_self hi] at q
      cases q
    · rw [List.getElem?_eq_none (by rw [List.length_set]; omega)] at q; cases q
  · rw [List.getElem?_set_ne hj] at q
    obtain ⟨w, e1, e2⟩ := r.at_ j e q
    exact ⟨w, by rw [List.getElem?_set_ne hj]; exact e1, e2⟩
end
section
variable {X : Cx} {Y : Wx} {body suite : List Stmt} {b₀ : Stmt} {x n : Str} {cv : Value} {i : Nat} {np pos pos' : Pos} {ns : List Str} {tb : ES} {ts : Addr → Addr → Xd → ES} {K : PySem.W.Frag}
theorem js_try {tsu : ES} (tk : Takes X Y.w) (hs : X.stack = X.env :: X.outer) (hf : X.env.frame = some X.env.locals) (hc : Names X x cv) (hm : ∀ m ∈ ns, PySem.W.exmOne K (.ref (He.ga K m)) cv = some (isSub m x))
    (hb : ∀ (W : WX) (pn : List (Addr × Obj)) (xe : Value → Shared → Prop), Takes (X.tr pn xe) W → PassesOwn (model X.prog X.w) X.A X.env xe → JSs (X.tr pn xe) ⟨W⟩ body tb)
    (hsu : ∀ (a : Addr) (oe : Obj) (pn : List (Addr × Obj)), JSs (X.suite a ((a, oe) :: pn)) y0 (b₀ :: suite) tsu) (hK : X.K = K := by rfl) :
    JS X Y (.Try body [.ExceptHandler (some (.Name x np)) none (b₀ :: suite) pos'] [] [] pos) (sTry ns x tb tsu) := by
  subst hK
  refine ⟨ps_try_only (ts := fun _ _ _ => upS X.K y0 tsu) (tb := fun W => upS X.K ⟨W⟩ tb) hs hf hc tk (fun W pn xe t po => (hb W pn xe t po).ps) (fun a oe cls d pn hz hv => (hsu a oe pn).ps), fun P s G N σ H M h r k => ?_⟩
  refine ⟨P, s, G, _, h, r, k.nx, k.rt, k.bk, k.ct, fun x s' G' cls d σ' H' st rl rx hx => ?_⟩
  obtain ⟨hx, h⟩ := hx
  refine ⟨isSub x.c _, by rw [rx.1]; exact hm x.c hx, fun e a ha => ?_, fun e => ?_⟩
  · rw [if_pos e] at h
    exact ⟨P, _, G', _, h, rl, (k.step st).nx, (k.step st).rt, (k.step st).bk, (k.step st).ct, fun _ _ _ _ _ _ _ _ _ _ q => q⟩
  · rw [if_neg (by rw [e]; exact Bool.false_ne_true)] at h
    exact k.xr x s' G' cls d σ' H' st rl rx h
end
def FzX (G0 : Gp) (x : Xd) (G' G2 : Gp) : Prop := ∀ (K : PySem.W.Frag) (P : Addr → Prop) (H0 H : Hp) (cls : Value) (d : Option Addr), Wo K P G0 H0 → Step G0 H0 G' H → Wo K P G' H → RepX K H G' P x cls d → Step G0 H0 G2 H ∧ Wo K P G2 H ∧ RepX K H G2 P x cls d
theorem fzx_id {G0 G' : Gp} {x : Xd} : FzX G0 x G' G' := fun _ _ _ _ _ _ _ s w r => ⟨s, w, r⟩
def refX (G : Gp) (x : Xd) : Prop := match x.f with
  | none => True
  | some (_, e) => RefIn G e
theorem fzx_sub {G0 G' G2 : Gp} {x : Xd} (h1 : ∀ a o, G2 a = some o → G' a = some o) (h0 : ∀ a o, G0 a = some o → ∃ o', G2 a = some o') (hc : ∀ a o, G2 a = some o → RefO G2 o ∨ G0 a = some o) (hd : refX G2 x) : FzX G0 x G' G2 := fun K P H0 H cls d w0 st w r => by
  obtain ⟨b1, b2, _⟩ := fz_sub (d := .non) h1 h0 hc (by simp only [RefIn]) K P H0 H .non w0 st w rep_non
  refine ⟨b1, b2, r.1, ?_⟩
  have r2 := r.2
  unfold refX at hd
  split
  · rename_i q
    rw [q] at r2
    exact r2
  · rename_i n e q
    rw [q] at r2 hd
    obtain ⟨a, v, e1, g, p, e2, rp⟩ := r2
    have n2 : ∀ a, G' a = none → G2 a = none := fun a ha => by
      cases q2 : G2 a with
      | none => rfl
      | some o => rw [h1 a o q2] at ha; cases ha
    exact ⟨a, v, e1, n2 a g, p, e2, rp.less n2 hd⟩
theorem fzx_back {G0 G' : Gp} {x : Xd} (h : ∀ a o, G0 a = some o → G' a = some o) (hd : refX G0 x) : FzX G0 x G' G0 := fzx_sub h (fun a o e => ⟨o, e⟩) (fun a o e => .inr e) hd
def finX (G0 : Gp) (Q : DK) (U : Ux) : En := { fin G0 Q with xr := fun x _ G' => ∃ G2, FzX G0 x G' G2 ∧ U x G2 }
theorem finX_id {G0 G' : Gp} {Q : DK} {U : Ux} {x : Xd} {s : Sd} (h : U x G') : (finX G0 Q U).xr x s G' := ⟨G', fzx_id, h⟩
theorem finX_back {G0 G' : Gp} {Q : DK} {U : Ux} {x : Xd} {s : Sd} (h : ∀ a o, G0 a = some o → G' a = some o) (hd : refX G0 x) (q : U x G0) : (finX G0 Q U).xr x s G' := ⟨G0, fzx_back h hd, q⟩
/-- what a def wishes of what leaves it -/
def wE (E : XK) : Wx := ⟨fun cls d _ H => E cls d H⟩
section
variable {P : Program} {w : World} {K : PySem.W.Frag} {mg : Str → Option Value} {base : Heap}
theorem fkX_ok {x qual : Str} {params : Arguments} {body : List Stmt} {scope : Scope} {kws : List (Str × V)} {dvs : List V} {f : Addr} {fd : FuncData} {N ps : List Str} {k : Nat} {F : Sx} {es : ES}
    (FF : FunD K x qual params body scope dvs kws f fd) (S : FnScope N ps scope)
    (hJ : ∀ (cdv : Value) (A : Around) (outer : List Env) (s : Shared) (H : Hp) (E : XK), Room k (A.deeper (envOfC qual scope s.heap.objs.size f cdv)) → Takes (cxOf (L2.CX P w) P w K mg base N qual scope f cdv A outer s H E) (wE E).w →
      PassesOwn (model P w) (A.deeper (envOfC qual scope s.heap.objs.size f cdv)) (envOfC qual scope s.heap.objs.size f cdv) (cxOf (L2.CX P w) P w K mg base N qual scope f cdv A outer s H E).xe → JSs (cxOf (L2.CX P w) P w K mg base N qual scope f cdv A outer s H E) (wE E) body es)
    (hR : ∀ ds G Q U, F ds G Q U → es (finX G Q U) (startD N.length ds) G) : FnOk P w K mg base (L2.CX P w) (k + 1) f fd ps (LfX K ps.length F) := by
  refine FF.ok S (fun vs H Q E h => h.1) (fun cdv A outer s H vs Q E hr h => ?_)
  obtain ⟨_, P', ds, G, Q', U, wo, r, hf, kk, kx⟩ := h
  have j := hJ cdv A outer s H E hr (takes_of rfl rfl rfl rfl) (passes_of rfl)
  refine ⟨_, j.ps, ?_⟩
  refine ⟨P', startD N.length ds, G, finX G Q' U, hR ds G Q' U hf, rl_start wo r, ?_, ?_, ?_, ?_, ?_⟩
  · intro s' G' σ' H' st rl hq
    obtain ⟨d2, G2, fz, q2⟩ := hq
    obtain ⟨b1, b2, b3⟩ := fz K P' H H' .non wo st rl.wo rep_non
    exact kk d2 G2 .non H' b1 b2 b3 q2
  · intro d G' v H' st w' rp hq
    obtain ⟨d2, G2, fz, q2⟩ := hq
    obtain ⟨b1, b2, b3⟩ := fz K P' H H' v wo st w' rp
    exact kk d2 G2 v H' b1 b2 b3 q2
  · intro s' G' σ' H' st rl hq
    exact hq.elim
  · intro s' G' σ' H' st rl hq
    exact hq.elim
  · intro x s' G' cls d σ' H' st rl rx hq
    obtain ⟨G2, fz, q2⟩ := hq
    obtain ⟨b1, b2, b3⟩ := fz K P' H H' cls d wo st rl.wo rx
    exact kx x G2 cls d H' b1 b2 b3 q2
theorem calX_ok {x : Str} {st : Stmt} {N ps : List Str} {k : Nat} {F : Sx} {es : ES} (D : Df K mg x st) (S : FnScope N ps (defScope st))
    (hb : ∀ (kV doc pm : Value) (an : Option Addr) (cdv ct : Value) (us : List Value), us.length = ps.length → bindArgs (PySem.W.fnOf x x (defArgs st) (defBody st) (defScope st) .none kV doc pm an cdv ct) ⟨us, []⟩ = pure (ps.zip us))
    (hJ : ∀ (f : Addr) (cdv : Value) (A : Around) (outer : List Env) (s : Shared) (H : Hp) (E : XK), Room k (A.deeper (envOfC x (defScope st) s.heap.objs.size f cdv)) → Takes (cxOf (L2.CX P w) P w K mg base N x (defScope st) f cdv A outer s H E) (wE E).w →
      PassesOwn (model P w) (A.deeper (envOfC x (defScope st) s.heap.objs.size f cdv)) (envOfC x (defScope st) s.heap.objs.size f cdv) (cxOf (L2.CX P w) P w K mg base N x (defScope st) f cdv A outer s H E).xe → JSs (cxOf (L2.CX P w) P w K mg base N x (defScope st) f cdv A outer s H E) (wE E) (defBody st) es)
    (hR : ∀ ds G Q U, F ds G Q U → es (finX G Q U) (startD N.length ds) G) : CalX P w K mg base (k + 1) x ps F := by
  obtain ⟨f, fd, h1, h2⟩ := D.ex
  exact ⟨f, fd, fkX_ok h1 S (hJ f) hR, h2, h1.kp, h1.bindsN hb⟩
end
@[simp] def eIsE (a dd : Addr) (x : Xd) (i : Nat) (b : Bool) : EE := fun s G Q => match s[i]? with
  | some (some (.cl a')) => a' = a ∧ dOf dd x = none ∧ Q (.bl b) G
  | some (some (.exc a' d' _ _)) => a' = a ∧ dOf dd x = some d' ∧ Q (.bl b) G
  | _ => False
@[simp] def eXf (a dd : Addr) (x : Xd) (i : Nat) (f : Str) : EE := fun s G Q => match s[i]? with
  | some (some (.exc a' d' n e)) => a' = a ∧ dOf dd x = some d' ∧ n = f ∧ Q e G
  | _ => False
def eqF (a b : Option (Option Value)) : Bool := decide (a = b)
def oexB (K : PySem.W.Frag) (C : Addr) : Bool := (match K.lookup C with
  | some ⟨.type "type", _, .cls cd, sl⟩ => (match cd.mro, sl.toList with
    | .ref C' :: bm, [_, _, _, _, some (.builtin n), _] => C' == C && n == "ValueError.__new__" && !cd.hasDel && PySem.HandSPX.refsVE bm && cd.hasDict
    | _, _ => false)
  | _ => false) && eqF (PySem.W.findIn K (.ref C) "__setattr__") (some (some (.builtin "object.__setattr__"))) && decide (PySem.W.subIn K (.ref C) (.type "BaseException") = some true) && decide (PySem.W.typeIn K (.ref C) = some (.type "type")) && PySem.W.keepIn K (.ref C)
theorem oexB_ok {K : PySem.W.Frag} {C : Addr} (h : oexB K C = true) : OexC K C := by
  unfold oexB eqF at h
  simp only [Bool.and_eq_true, decide_eq_true_eq] at h
  obtain ⟨⟨⟨⟨h1, h2⟩, h3⟩, h4⟩, h5⟩ := h
  refine ⟨?_, h2, h3, h4, h5⟩
  split at h1
  · rename_i dd cd sl ho
    split at h1
    · rename_i C' bm k0 k1 k2 k3 n k5 hm hs
      simp only [Bool.and_eq_true, beq_iff_eq, Bool.not_eq_true'] at h1
      obtain ⟨⟨⟨⟨rfl, rfl⟩, hdel⟩, ht⟩, hdc⟩ := h1
      obtain ⟨nm, bs, mro, ns, qn, hd, sn, sub, ab, col, del⟩ := cd
      dsimp only at hm hdel hdc
      subst hm hdel hdc
      have hsl : sl = #[k0, k1, k2, k3, some (.builtin "ValueError.__new__"), k5] := by
        obtain ⟨l⟩ := sl
        simp only at hs
        rw [hs]
      subst hsl
      exact ⟨nm, qn, ns, bs, bm, sn, sub, ab, col, dd, k0, k1, k2, k3, k5, ho, ht⟩
    · cases h1
  · cases h1
/-- an exception class with a field -/
def oxB (K : PySem.W.Frag) (c f : Str) : Bool := oexB K (He.ga K c) && eqF (PySem.W.findIn K (.ref (He.ga K c)) "__init__") (some (some (.ref (He.ma K (He.ga K c) "__init__")))) && decide (PySem.W.typeIn K (.ref (He.ma K (He.ga K c) "__init__")) = some (.type "function")) && eqF (PySem.W.findIn K (.ref (He.ga K c)) f) (some none)
theorem oxB_ok {P : Program} {w : World} {K : PySem.W.Frag} {mg : Str → Option Value} {base : Heap} {c f : Str} (h : oxB K c f = true) (g : mg c = some (.ref (He.ga K c))) (fn : ∃ fd, FnOk P w K mg base CX0 1 (He.ma K (He.ga K c) "__init__") fd [("self" : Str), f] (initSp K f) ∧ Binds K fd [("self" : Str), f] []) : OxK P w K mg base c f := by
  unfold oxB eqF at h
  simp only [Bool.and_eq_true, decide_eq_true_eq] at h
  obtain ⟨⟨⟨h1, h2⟩, h3⟩, h4⟩ := h
  exact ⟨oexB_ok h1, h2, h3, h4, g, fn⟩
/-- of each of some classes -/
def allB (K : PySem.W.Frag) (ns : List Str) (t : PySem.W.Frag → Str → Bool) : Bool := ns.all (t K)
theorem allB_ok {K : PySem.W.Frag} {ns : List Str} {t : PySem.W.Frag → Str → Bool} (h : allB K ns t = true) {m : Str} (hm : m ∈ ns) : t K m = true := List.all_eq_true.mp h m hm
def tExm (c : Str) (K : PySem.W.Frag) (m : Str) : Bool := decide (PySem.W.exmOne K (.ref (He.ga K m)) (.ref (He.ga K c)) = some (isSub m c))
theorem tExm_ok {K : PySem.W.Frag} {c m : Str} (h : tExm c K m = true) : PySem.W.exmOne K (.ref (He.ga K m)) (.ref (He.ga K c)) = some (isSub m c) := of_decide_eq_true h
/-- the head's hook, with one Bool more -/
def obsB (n : Nat) (fa : List He.Fa) (fn : List He.DefD) (ex : PySem.W.Frag → Bool) (g : Addr → Option Obj) : He.AlD × Bool := (He.obsDG n fa fn g, ex (He.frG g (He.asD g n)))
def hookB (n : Nat) (fa : List He.Fa) (fn : List He.DefD) (ex : PySem.W.Frag → Bool) : PySem.W.Hook where
  α := He.AlD × Bool
  obs := fun s => obsB n fa fn ex s.heap.get?
  val := fun _ => (He.valD fn, true)
  says := fun _ h => ∃ K : PySem.W.Frag, K.In h ∧ He.SaysD fa fn K ∧ ex K = true
  of := fun _ _ e => ⟨_, He.frG_in, congrArg (fun z : He.AlD × Bool => z.1) e, congrArg (fun z : He.AlD × Bool => z.2) e⟩
  keeps := fun _ _ _ ⟨K, hK, c⟩ k => ⟨K, PySem.W.Frag.In.keeps hK k, c⟩
theorem obsB_eq {n : Nat} {fa : List He.Fa} {fn : List He.DefD} {ex : PySem.W.Frag → Bool} {g : Addr → Option Obj} {s : Shared} (h : ∀ a, g a = s.heap.get? a) : obsB n fa fn ex g = (hookB n fa fn ex).obs s := by
  have e : g = s.heap.get? := funext h
  rw [e] <;> rfl
end DL
set_option Elab.async false
set_option linter.all false
set_option maxRecDepth 100000
set_option maxHeartbeats 4000000
namespace DL
open PySem PySem.Spec PyProof.Rows L2
section
variable {X : Cx} {K : PySem.W.Frag} {pos : Pos}
@[simp] def eDispV (tk tv : EE) : EE := fun s G Q => tk s G fun a G1 => tv s G1 fun b G2 => match keyD a with
  | some k => Q (.dct [k] [b]) G2
  | none => False
/-- x in range(a, b), x not in range(a, b) -/
@[simp] def oInR (neg : Bool) : D → D → D → Gp → DK → Prop := fun x a b G Q => match x, a, b with
  | .int i, .int lo, .int hi => Q (.bl (if neg then !decide (lo ≤ i ∧ i < hi) else decide (lo ≤ i ∧ i < hi))) G
  | _, _, _ => False
@[simp] def eInR (neg : Bool) (tx ta tb : EE) : EE := fun s G Q => tx s G fun x G1 => ta s G1 fun a G2 => tb s G2 fun b G3 => oInR neg x a b G3 Q
end
end DL
set_option Elab.async false
set_option linter.all false
set_option maxRecDepth 100000
set_option maxHeartbeats 4000000
namespace DL
open PySem PySem.Spec PyProof.Rows L2 PySem.W
theorem cr_strX {X : Cx} (hg : X.A.guards = some []) (hu : X.A.units + 64 < cLine) (hsy : ∃ m, X.base.Ns sysModules m) : CallR X (.type "str") (rStrX X.K) := by
  intro pins s σ H vs us Q I r h
  rcases h with ⟨a, p, rfl, hd, h1, h3, h4, q⟩ | h | h | ⟨b, rfl, q⟩ | ⟨rfl, q⟩
  · rw [Vals.ref1 r]
    obtain ⟨as, rd, hn⟩ := readsX I hsy hd (show RelV (V.ref a) (Value.ref a) from rfl)
    exact str_of_reads rd h1 (fun _ => hn) hg (by omega) (fun _ _ e => e) (fun h' t tk hk => ⟨.str p.shown, H, I.kept hk, ⟨t, rfl⟩, q⟩) h4
  · exact call_str_int pins s σ H vs us Q I r h
  · exact SkE.call_str_str pins s σ H vs us Q I r h
  · cases r with
    | cons a b =>
      cases b
      cases a
      exact PySem.P.str_of_bool ⟨.str _, H, I.kept (t' := s.toks + 1) fun _ _ e => e, ⟨_, rfl⟩, q⟩
  · cases r with
    | cons a b =>
      cases b
      cases a
      exact PySem.P.str_of_none ⟨.str _, H, I.kept (t' := s.toks + 1) fun _ _ e => e, ⟨_, rfl⟩, q⟩
def boxX : D → Bool
  | .lst _ => true
  | .tup _ => true
  | .dct _ _ => true
  | .ref _ => true
  | .scr _ => true
  | _ => false
theorem boxX_ref {K : PySem.W.Frag} {P : Addr → Prop} {G : Gp} {H : Hp} {x : D} {u : V} (h : boxX x = true) (r : Rep K H G P x u) : ∃ a, u = .ref a := by
  cases x with
  | lst ds => obtain ⟨a, _, rfl, _⟩ := rep_l r; exact ⟨a, rfl⟩
  | tup ds => obtain ⟨a, _, rfl, _⟩ := rep_t r; exact ⟨a, rfl⟩
  | dct ks ds => unfold Rep at r; obtain ⟨a, _, rfl, _⟩ := r; exact ⟨a, rfl⟩
  | ref a => unfold Rep at r; exact ⟨a, r.1⟩
  | scr ns => unfold Rep at r; obtain ⟨a, rfl, _⟩ := r; exact ⟨a, rfl⟩
  | _ => cases h
def cStrX : CD := fun xs G Q => match xs with
  | [.int i] => i.natAbs.log2 < 1920 ∧ Q (.str (toString i)) G
  | [.str z] => Q (.str z) G
  | [.bl b] => Q (.str (if b then "True" else "False")) G
  | [.non] => Q (.str "None") G
  | [x] => boxX x = true ∧ (match toPx G x with
    | some p => p.showable = true ∧ p.depth ≤ 40 ∧ p.shown.length ≤ sizeLine ∧ Q (.str p.shown) G
    | none => False)
  | _ => False
theorem lc_strX {K : PySem.W.Frag} : LC K (rStrX K) cStrX := fun P G H xs us Q R h w r k => by
  unfold cStrX at h
  split at h
  · obtain ⟨u, rfl, r1⟩ := reps1 r
    rw [rep_i r1]
    exact .inr (.inl ⟨_, rfl, h.1, k _ G _ H (Step.refl _ _) w rep_str h.2⟩)
  · obtain ⟨u, rfl, r1⟩ := reps1 r
    rw [rep_s r1]
    exact .inr (.inr (.inl ⟨_, rfl, k _ G _ H (Step.refl _ _) w rep_str h⟩))
  · obtain ⟨u, rfl, r1⟩ := reps1 r
    rw [rep_b r1]
    exact .inr (.inr (.inr (.inl ⟨_, rfl, k _ G _ H (Step.refl _ _) w rep_str h⟩)))
  · obtain ⟨u, rfl, r1⟩ := reps1 r
    rw [rep_n r1]
    exact .inr (.inr (.inr (.inr ⟨rfl, k _ G _ H (Step.refl _ _) w rep_str h⟩)))
  · rename_i x n1 n2 n3 n4
    obtain ⟨hb, h⟩ := h
    split at h
    · rename_i p e
      obtain ⟨u, rfl, r1⟩ := reps1 r
      obtain ⟨h1, h3, h4, h5⟩ := h
      have d := dpx_of w x r1 e
      obtain ⟨a, rfl⟩ := boxX_ref hb r1
      exact .inl ⟨a, p, rfl, d, h1, h3, h4, k _ G _ H (Step.refl _ _) w rep_str h5⟩
    · exact h.elim
  · exact h.elim
end DL
set_option Elab.async false
set_option linter.all false
set_option maxRecDepth 100000
set_option maxHeartbeats 4000000
namespace DL
open PySem PySem.Spec PyProof.Rows L2 PySem.W
end DL
set_option Elab.async false
set_option linter.all false
set_option maxRecDepth 100000
set_option maxHeartbeats 4000000
namespace DL
open PySem PySem.Spec PyProof.Rows L2 LN
def az : Str := "abcdefghijklmnopqrstuvwxyz"
theorem p12 : (10 : Int) ^ Int.toNat 12 = 1000000000000 := by decide +kernel
theorem p13 : (10 : Int) ^ Int.toNat 13 = 10000000000000 := by decide +kernel
theorem p40 : (10 : Int) ^ Int.toNat 40 = 10000000000000000000000000000000000000000 := by decide +kernel
theorem p60 : (10 : Int) ^ Int.toNat 60 = 1000000000000000000000000000000000000000000000000000000000000 := by decide +kernel
theorem JE.imp {X : Cx} {e : Expr} {t t' : EE} (h : JE X e t) (k : ∀ s G Q, t' s G Q → t s G Q) : JE X e t' := by
  obtain ⟨a, b⟩ := h
  exact ⟨a, fun P s G Q σ H R q r kk => b P s G Q σ H R (k s G Q q) r kk⟩
theorem pwK {n : Int} {v : Int} (h : ((10 : Int) ^ n.toNat = v ∧ 0 ≤ n) ∧ n ≤ 1000000) (s : Sd) (G : Gp) (Q : DK) (q : eC (.int v) s G Q) : eOp oPow (eC (.int 10)) (eC (.int n)) s G Q := by
  simp only [eOp, eC, oPow, oI]
  rw [h.1.1]
  exact ⟨cpow_10.mpr ⟨h.1.2, h.2⟩, q⟩
theorem pw6 {G : Gp} {Q : DK} : oPow (.int 10) (.int 6) G Q = Q (.int 1000000) G := by simp only [oPow, oI]; rw [show (10 : Int) ^ Int.toNat 6 = 1000000 from by decide +kernel]; exact propext ⟨fun h => h.2, fun h => ⟨cpow_10.mpr (by decide), h⟩⟩
theorem pw10 {G : Gp} {Q : DK} : oPow (.int 10) (.int 10) G Q = Q (.int 10000000000) G := by simp only [oPow, oI]; rw [show (10 : Int) ^ Int.toNat 10 = 10000000000 from by decide +kernel]; exact propext ⟨fun h => h.2, fun h => ⟨cpow_10.mpr (by decide), h⟩⟩
theorem pw11 {G : Gp} {Q : DK} : oPow (.int 10) (.int 11) G Q = Q (.int 100000000000) G := by simp only [oPow, oI]; rw [show (10 : Int) ^ Int.toNat 11 = 100000000000 from by decide +kernel]; exact propext ⟨fun h => h.2, fun h => ⟨cpow_10.mpr (by decide), h⟩⟩
theorem pw12 {G : Gp} {Q : DK} : oPow (.int 10) (.int 12) G Q = Q (.int 1000000000000) G := by simp only [oPow, oI]; rw [p12]; exact propext ⟨fun h => h.2, fun h => ⟨cpow_10.mpr (by decide), h⟩⟩
theorem pw13 {G : Gp} {Q : DK} : oPow (.int 10) (.int 13) G Q = Q (.int 10000000000000) G := by simp only [oPow, oI]; rw [p13]; exact propext ⟨fun h => h.2, fun h => ⟨cpow_10.mpr (by decide), h⟩⟩
theorem pw30 {G : Gp} {Q : DK} : oPow (.int 10) (.int 30) G Q = Q (.int 1000000000000000000000000000000) G := by simp only [oPow, oI]; rw [show (10 : Int) ^ Int.toNat 30 = 1000000000000000000000000000000 from by decide +kernel]; exact propext ⟨fun h => h.2, fun h => ⟨cpow_10.mpr (by decide), h⟩⟩
theorem pw40 {G : Gp} {Q : DK} : oPow (.int 10) (.int 40) G Q = Q (.int 10000000000000000000000000000000000000000) G := by simp only [oPow, oI]; rw [p40]; exact propext ⟨fun h => h.2, fun h => ⟨cpow_10.mpr (by decide), h⟩⟩
theorem pw60 {G : Gp} {Q : DK} : oPow (.int 10) (.int 60) G Q = Q (.int 1000000000000000000000000000000000000000000000000000000000000) G := by simp only [oPow, oI]; rw [p60]; exact propext ⟨fun h => h.2, fun h => ⟨cpow_10.mpr (by decide), h⟩⟩
def intOf : D → Option Int
  | .int i => some i
  | _ => none
theorem intOf_eq {d : D} {i : Int} (h : intOf d = some i) : d = .int i := by
  cases d <;> simp [intOf] at h
  subst h; rfl
theorem wh_int (d : D) : whB d = (intOf d).isSome := by cases d <;> rfl
theorem ixt_0 {ds : List D} {d : D} {G : Gp} {Q : DK} {i : Int} (e : atI ds i = some d) (q : Q d G) : oIx (.tup ds) (.int i) G Q := by
  simp only [oIx, lkQ_tup, e]
  exact q
theorem len_tup {ds : List D} {G : Gp} {Q : DK} (q : Q (.int ds.length) G) : cLen [.tup ds] G Q := by
  simp only [cLen, lkQ_tup]
  exact q
theorem len_lst {ds : List D} {G : Gp} {Q : DK} (q : Q (.int ds.length) G) : cLen [.lst ds] G Q := by
  simp only [cLen, lkQ_lst]
  exact q
theorem ne_ii {a b : Int} {G : Gp} {Q : DK} (q : Q (.bl (!decide (a = b))) G) : oNe (.int a) (.int b) G Q := by
  simp only [oNe, toPy, sh_int, eqv_ii, true_and]
  exact q
theorem eq_ii {a b : Int} {G : Gp} {Q : DK} (q : Q (.bl (decide (a = b))) G) : oEq (.int a) (.int b) G Q := by
  simp only [oEq, toPy, sh_int, eqv_ii, true_and]
  exact q
end DL
set_option Elab.async false
set_option linter.all false
set_option maxRecDepth 100000
set_option maxHeartbeats 4000000
namespace DL
open PySem PySem.Spec PyProof.Rows L2 LN
def QOk (x : Int × Int) : Prop := -1000000000000 ≤ x.1 ∧ x.1 < 1000000000000 ∧ 1 ≤ x.2 ∧ x.2 ≤ 10000000000000
def IsP (d : D) : Prop := ∃ pp : Paper, d = .lst (pp.map qD) ∧ POk pp
def F_is_priceX : Sf := fun ds G Q => ∃ d, ds = [d] ∧ anyD d = true ∧ ∀ b : Bool, (b = true ↔ ∃ x, d = qD x ∧ QOk x) → Q (.bl b) G
def F_is_paperX : Sf := fun ds G Q => ∃ d, ds = [d] ∧ anyD d = true ∧ ∀ b : Bool, (b = true ↔ IsP d) → Q (.bl b) G
def r_is_priceX : ES :=
  (sSeq (sIf (eOr (eNot (eTru (eCB cIsi (eCons (eVar 0) (eCons (eC (.ty "tuple")) eNil))))) (eOr (eT (eOp oNe (eCB cLen (eCons (eVar 0) eNil)) (eC (.int 2)))) (eOr (eNot (eTru (eCall F_is_whole (eCons (eOp oIx (eVar 0) (eC (.int 0))) eNil)))) (eNot (eTru (eCall F_is_whole (eCons (eOp oIx (eVar 0) (eC (.int 1))) eNil))))))) (sRet (eC (.bl false))) sNext)
  (sRet (eAndT (eChain oLe oLt (eOp oSub (eC (.int 0)) (eC (.int 1000000000000))) (eOp oIx (eVar 0) (eC (.int 0))) (eC (.int 1000000000000))) (eChain oLe oLe (eC (.int 1)) (eOp oIx (eVar 0) (eC (.int 1))) (eC (.int 10000000000000))))))
def r_is_paperX_L1 : ES :=
  (sIf (eNot (eTru (eCall F_is_priceX (eCons (eVar 1) eNil)))) (sRet (eC (.bl false))) sNext)
def r_is_paperX_L2 : ES :=
  (sIf (eT (eOp oLe (eOp oIx (eVar 2) (eC (.int 0))) (eOp oIx (eVar 1) (eC (.int 0))))) (sRet (eC (.bl false))) sNext)
def r_is_paperX : ES :=
  (sSeq (sIf (eOr (eNot (eTru (eCB cIsi (eCons (eVar 0) (eCons (eC (.ty "list")) eNil))))) (eT (eOp oGt (eCB cLen (eCons (eVar 0) eNil)) (eC (.int 48))))) (sRet (eC (.bl false))) sNext)
  (sSeq (sFor (iL (eVar 0)) (.nm 1) r_is_paperX_L1)
  (sSeq (sFor (iZ (eCons (eVar 0) (eCons (eSlL (eVar 0) (ePart (eC (.int 1))) eNoPart) eNil))) (.tp [1, 2]) r_is_paperX_L2)
  (sRet (eC (.bl true))))))
theorem qok_of {pp : Paper} (h : POk pp) {x : Int × Int} (hx : x ∈ pp) : QOk x := ⟨h.lo x hx, by have := h.hi x hx; omega, h.p1 x hx, h.p2 x hx⟩
theorem qD_inj {x y : Int × Int} (h : qD x = qD y) : x = y := by
  simp [qD] at h
  exact Prod.ext h.1 h.2
theorem qDs_inj : ∀ {a b : Paper}, a.map qD = b.map qD → a = b
  | [], [], _ => rfl
  | [], _ :: _, h => by simp at h
  | _ :: _, [], h => by simp at h
  | x :: a, y :: b, h => by
    simp only [List.map_cons, List.cons.injEq] at h
    rw [qD_inj h.1, qDs_inj h.2]
theorem pok_of {pp : Paper} (hl : pp.length ≤ 48) (hq : ∀ x ∈ pp, QOk x) (up : pp.Pairwise fun x y => x.1 < y.1) : POk pp := ⟨hl, up, fun x hx => (hq x hx).1, fun x hx => by have := (hq x hx).2.1; omega, fun x hx => (hq x hx).2.2.1, fun x hx => (hq x hx).2.2.2⟩
theorem up_zip : ∀ {pp : Paper}, (∀ z ∈ pp.zip (pp.drop 1), z.1.1 < z.2.1) → pp.Pairwise fun x y => x.1 < y.1
  | [], _ => .nil
  | [x], _ => by simp
  | x :: y :: r, h => by
    have ih : (y :: r).Pairwise fun x y => x.1 < y.1 := up_zip fun z hz => h z (by
      simp only [List.drop_succ_cons, List.drop_zero] at hz ⊢
      rw [List.zip_cons_cons]
      exact List.mem_cons_of_mem _ hz)
    have hxy : x.1 < y.1 := h (x, y) (by simp)
    refine List.pairwise_cons.mpr ⟨fun z hz => ?_, ih⟩
    rcases List.mem_cons.mp hz with rfl | q
    · exact hxy
    · have := (List.pairwise_cons.mp ih).1 z q
      omega
theorem zip_up {pp : Paper} (h : pp.Pairwise fun x y => x.1 < y.1) {z : (Int × Int) × (Int × Int)} (hz : z ∈ pp.zip (pp.drop 1)) : z.1.1 < z.2.1 := by
  obtain ⟨i, hi, e⟩ := List.getElem_of_mem hz
  simp at hi
  have := (List.pairwise_iff_getElem.mp h) i (i + 1) (by omega) (by omega) (by omega)
  rw [← e]
  simp [Nat.add_comm 1 i]
  exact this
theorem not_int {d : D} {x : Int × Int} {u v : D} (h : D.tup [u, v] = qD x) : u = .int x.1 ∧ v = .int x.2 := by
  simp [qD] at h
  exact h
theorem d_is_priceX (ds : List D) (G : Gp) (Q : DK) (h : F_is_priceX ds G Q) : r_is_priceX (fin G Q) (startD 1 ds) G := by
  obtain ⟨d, rfl, ha, k⟩ := h
  have no : (∀ x, d = qD x → QOk x → False) → (fin G Q).rt (.bl false) G := fun q => fin_id (k false ⟨fun e => (by cases e), fun ⟨x, e, w⟩ => (q x e w).elim⟩)
  refine seq_gen fun W hW => ?_
  (try dsimp only [sAsg, sIf, sRet, sRetN, sDrop, sNext, asg, setAll, eT, eOp, eUn, eLst, eTup, eCons, eNil, eVar, eC, eCall, eCB, eNot, eAnd, eOr, eTru, eAndT, eOrT, eNotT, eIf, ePart, eNoPart, eYes, eChain, eChain3, oI, oI0, oLt, oLe, oGt, oGe, oNeg, oSub, oMod, oMul, oDivW, eXp, eXa, eConsX, eCallX, eCallN, eLstX, eCBX, sDropX, sRetX, sAsgX, sRaise, sRaiseF, List.set_cons_zero, List.set_cons_succ, List.getElem?_cons_zero, List.getElem?_cons_succ, truD_bl, startD, List.map_cons, List.map_nil, List.cons_append, List.nil_append, List.replicate]); (try simp only [if_true, Bool.false_eq_true, if_false, decide_true, decide_false, Bool.not_true, Bool.not_false, List.length_cons, List.length_nil, sizeLine_eq, Nat.reduceAdd, Nat.reduceLeDiff, true_and, and_true, pw6, pw10, pw11, pw12, pw13, pw30, pw40, pw60, startD, List.map_cons, List.map_nil, List.cons_append, List.nil_append, List.replicate]); (try dsimp only [sAsg, sIf, sRet, sRetN, sDrop, sNext, asg, setAll, eT, eOp, eUn, eLst, eTup, eCons, eNil, eVar, eC, eCall, eCB, eNot, eAnd, eOr, eTru, eAndT, eOrT, eNotT, eIf, ePart, eNoPart, eYes, eChain, eChain3, oI, oI0, oLt, oLe, oGt, oGe, oNeg, oSub, oMod, oMul, oDivW, eXp, eXa, eConsX, eCallX, eCallN, eLstX, eCBX, sDropX, sRetX, sAsgX, sRaise, sRaiseF, List.set_cons_zero, List.set_cons_succ, List.getElem?_cons_zero, List.getElem?_cons_succ, truD_bl, startD, List.map_cons, List.map_nil, List.cons_append, List.nil_append, List.replicate])
  rw [isi_tuple ha]
  cases d with
  | tup es =>
    (try dsimp only [sAsg, sIf, sRet, sRetN, sDrop, sNext, asg, setAll, eT, eOp, eUn, eLst, eTup, eCons, eNil, eVar, eC, eCall, eCB, eNot, eAnd, eOr, eTru, eAndT, eOrT, eNotT, eIf, ePart, eNoPart, eYes, eChain, eChain3, oI, oI0, oLt, oLe, oGt, oGe, oNeg, oSub, oMod, oMul, oDivW, eXp, eXa, eConsX, eCallX, eCallN, eLstX, eCBX, sDropX, sRetX, sAsgX, sRaise, sRaiseF, List.set_cons_zero, List.set_cons_succ, List.getElem?_cons_zero, List.getElem?_cons_succ, truD_bl, isT]); (try simp only [if_true, Bool.false_eq_true, if_false, decide_true, decide_false, Bool.not_true, Bool.not_false, List.length_cons, List.length_nil, sizeLine_eq, Nat.reduceAdd, Nat.reduceLeDiff, true_and, and_true, pw6, pw10, pw11, pw12, pw13, pw30, pw40, pw60, isT]); (try dsimp only [sAsg, sIf, sRet, sRetN, sDrop, sNext, asg, setAll, eT, eOp, eUn, eLst, eTup, eCons, eNil, eVar, eC, eCall, eCB, eNot, eAnd, eOr, eTru, eAndT, eOrT, eNotT, eIf, ePart, eNoPart, eYes, eChain, eChain3, oI, oI0, oLt, oLe, oGt, oGe, oNeg, oSub, oMod, oMul, oDivW, eXp, eXa, eConsX, eCallX, eCallN, eLstX, eCBX, sDropX, sRetX, sAsgX, sRaise, sRaiseF, List.set_cons_zero, List.set_cons_succ, List.getElem?_cons_zero, List.getElem?_cons_succ, truD_bl, isT])
    refine len_tup (ne_ii ?_)
    by_cases l2 : es.length = 2
    · rw [decide_eq_true (by omega)]
      match es, l2 with
      | [u, v], _ =>
        simp only [anyD, anyDs, Bool.and_eq_true, and_true] at ha
        (try dsimp only [sAsg, sIf, sRet, sRetN, sDrop, sNext, asg, setAll, eT, eOp, eUn, eLst, eTup, eCons, eNil, eVar, eC, eCall, eCB, eNot, eAnd, eOr, eTru, eAndT, eOrT, eNotT, eIf, ePart, eNoPart, eYes, eChain, eChain3, oI, oI0, oLt, oLe, oGt, oGe, oNeg, oSub, oMod, oMul, oDivW, eXp, eXa, eConsX, eCallX, eCallN, eLstX, eCBX, sDropX, sRetX, sAsgX, sRaise, sRaiseF, List.set_cons_zero, List.set_cons_succ, List.getElem?_cons_zero, List.getElem?_cons_succ, truD_bl]); (try simp only [if_true, Bool.false_eq_true, if_false, decide_true, decide_false, Bool.not_true, Bool.not_false, List.length_cons, List.length_nil, sizeLine_eq, Nat.reduceAdd, Nat.reduceLeDiff, true_and, and_true, pw6, pw10, pw11, pw12, pw13, pw30, pw40, pw60]); (try dsimp only [sAsg, sIf, sRet, sRetN, sDrop, sNext, asg, setAll, eT, eOp, eUn, eLst, eTup, eCons, eNil, eVar, eC, eCall, eCB, eNot, eAnd, eOr, eTru, eAndT, eOrT, eNotT, eIf, ePart, eNoPart, eYes, eChain, eChain3, oI, oI0, oLt, oLe, oGt, oGe, oNeg, oSub, oMod, oMul, oDivW, eXp, eXa, eConsX, eCallX, eCallN, eLstX, eCBX, sDropX, sRetX, sAsgX, sRaise, sRaiseF, List.set_cons_zero, List.set_cons_succ, List.getElem?_cons_zero, List.getElem?_cons_succ, truD_bl])
        refine ixt_0 (d := u) rfl (whole_any ha.1 ?_)
        rw [wh_int]
        cases q1 : intOf u with
        | none =>
          (try dsimp only [sAsg, sIf, sRet, sRetN, sDrop, sNext, asg, setAll, eT, eOp, eUn, eLst, eTup, eCons, eNil, eVar, eC, eCall, eCB, eNot, eAnd, eOr, eTru, eAndT, eOrT, eNotT, eIf, ePart, eNoPart, eYes, eChain, eChain3, oI, oI0, oLt, oLe, oGt, oGe, oNeg, oSub, oMod, oMul, oDivW, eXp, eXa, eConsX, eCallX, eCallN, eLstX, eCBX, sDropX, sRetX, sAsgX, sRaise, sRaiseF, List.set_cons_zero, List.set_cons_succ, List.getElem?_cons_zero, List.getElem?_cons_succ, truD_bl, Option.isSome_none]); (try simp only [if_true, Bool.false_eq_true, if_false, decide_true, decide_false, Bool.not_true, Bool.not_false, List.length_cons, List.length_nil, sizeLine_eq, Nat.reduceAdd, Nat.reduceLeDiff, true_and, and_true, pw6, pw10, pw11, pw12, pw13, pw30, pw40, pw60, Option.isSome_none]); (try dsimp only [sAsg, sIf, sRet, sRetN, sDrop, sNext, asg, setAll, eT, eOp, eUn, eLst, eTup, eCons, eNil, eVar, eC, eCall, eCB, eNot, eAnd, eOr, eTru, eAndT, eOrT, eNotT, eIf, ePart, eNoPart, eYes, eChain, eChain3, oI, oI0, oLt, oLe, oGt, oGe, oNeg, oSub, oMod, oMul, oDivW, eXp, eXa, eConsX, eCallX, eCallN, eLstX, eCBX, sDropX, sRetX, sAsgX, sRaise, sRaiseF, List.set_cons_zero, List.set_cons_succ, List.getElem?_cons_zero, List.getElem?_cons_succ, truD_bl, Option.isSome_none])
          exact no fun x e _ => by rw [(not_int (d := u) e).1] at q1; cases q1
        | some i =>
          (try dsimp only [sAsg, sIf, sRet, sRetN, sDrop, sNext, asg, setAll, eT, eOp, eUn, eLst, eTup, eCons, eNil, eVar, eC, eCall, eCB, eNot, eAnd, eOr, eTru, eAndT, eOrT, eNotT, eIf, ePart, eNoPart, eYes, eChain, eChain3, oI, oI0, oLt, oLe, oGt, oGe, oNeg, oSub, oMod, oMul, oDivW, eXp, eXa, eConsX, eCallX, eCallN, eLstX, eCBX, sDropX, sRetX, sAsgX, sRaise, sRaiseF, List.set_cons_zero, List.set_cons_succ, List.getElem?_cons_zero, List.getElem?_cons_succ, truD_bl, Option.isSome_some]); (try simp only [if_true, Bool.false_eq_true, if_false, decide_true, decide_false, Bool.not_true, Bool.not_false, List.length_cons, List.length_nil, sizeLine_eq, Nat.reduceAdd, Nat.reduceLeDiff, true_and, and_true, pw6, pw10, pw11, pw12, pw13, pw30, pw40, pw60, Option.isSome_some]); (try dsimp only [sAsg, sIf, sRet, sRetN, sDrop, sNext, asg, setAll, eT, eOp, eUn, eLst, eTup, eCons, eNil, eVar, eC, eCall, eCB, eNot, eAnd, eOr, eTru, eAndT, eOrT, eNotT, eIf, ePart, eNoPart, eYes, eChain, eChain3, oI, oI0, oLt, oLe, oGt, oGe, oNeg, oSub, oMod, oMul, oDivW, eXp, eXa, eConsX, eCallX, eCallN, eLstX, eCBX, sDropX, sRetX, sAsgX, sRaise, sRaiseF, List.set_cons_zero, List.set_cons_succ, List.getElem?_cons_zero, List.getElem?_cons_succ, truD_bl, Option.isSome_some])
          refine ixt_0 (d := v) rfl (whole_any ha.2 ?_)
          rw [wh_int]
          cases q2 : intOf v with
          | none =>
            (try dsimp only [sAsg, sIf, sRet, sRetN, sDrop, sNext, asg, setAll, eT, eOp, eUn, eLst, eTup, eCons, eNil, eVar, eC, eCall, eCB, eNot, eAnd, eOr, eTru, eAndT, eOrT, eNotT, eIf, ePart, eNoPart, eYes, eChain, eChain3, oI, oI0, oLt, oLe, oGt, oGe, oNeg, oSub, oMod, oMul, oDivW, eXp, eXa, eConsX, eCallX, eCallN, eLstX, eCBX, sDropX, sRetX, sAsgX, sRaise, sRaiseF, List.set_cons_zero, List.set_cons_succ, List.getElem?_cons_zero, List.getElem?_cons_succ, truD_bl, Option.isSome_none]); (try simp only [if_true, Bool.false_eq_true, if_false, decide_true, decide_false, Bool.not_true, Bool.not_false, List.length_cons, List.length_nil, sizeLine_eq, Nat.reduceAdd, Nat.reduceLeDiff, true_and, and_true, pw6, pw10, pw11, pw12, pw13, pw30, pw40, pw60, Option.isSome_none]); (try dsimp only [sAsg, sIf, sRet, sRetN, sDrop, sNext, asg, setAll, eT, eOp, eUn, eLst, eTup, eCons, eNil, eVar, eC, eCall, eCB, eNot, eAnd, eOr, eTru, eAndT, eOrT, eNotT, eIf, ePart, eNoPart, eYes, eChain, eChain3, oI, oI0, oLt, oLe, oGt, oGe, oNeg, oSub, oMod, oMul, oDivW, eXp, eXa, eConsX, eCallX, eCallN, eLstX, eCBX, sDropX, sRetX, sAsgX, sRaise, sRaiseF, List.set_cons_zero, List.set_cons_succ, List.getElem?_cons_zero, List.getElem?_cons_succ, truD_bl, Option.isSome_none])
            exact no fun x e _ => by rw [(not_int (d := u) e).2] at q2; cases q2
          | some j =>
            have := intOf_eq q1
            subst this
            have := intOf_eq q2
            subst this
            (try dsimp only [sAsg, sIf, sRet, sRetN, sDrop, sNext, asg, setAll, eT, eOp, eUn, eLst, eTup, eCons, eNil, eVar, eC, eCall, eCB, eNot, eAnd, eOr, eTru, eAndT, eOrT, eNotT, eIf, ePart, eNoPart, eYes, eChain, eChain3, oI, oI0, oLt, oLe, oGt, oGe, oNeg, oSub, oMod, oMul, oDivW, eXp, eXa, eConsX, eCallX, eCallN, eLstX, eCBX, sDropX, sRetX, sAsgX, sRaise, sRaiseF, List.set_cons_zero, List.set_cons_succ, List.getElem?_cons_zero, List.getElem?_cons_succ, truD_bl, Option.isSome_some]); (try simp only [if_true, Bool.false_eq_true, if_false, decide_true, decide_false, Bool.not_true, Bool.not_false, List.length_cons, List.length_nil, sizeLine_eq, Nat.reduceAdd, Nat.reduceLeDiff, true_and, and_true, pw6, pw10, pw11, pw12, pw13, pw30, pw40, pw60, Option.isSome_some]); (try dsimp only [sAsg, sIf, sRet, sRetN, sDrop, sNext, asg, setAll, eT, eOp, eUn, eLst, eTup, eCons, eNil, eVar, eC, eCall, eCB, eNot, eAnd, eOr, eTru, eAndT, eOrT, eNotT, eIf, ePart, eNoPart, eYes, eChain, eChain3, oI, oI0, oLt, oLe, oGt, oGe, oNeg, oSub, oMod, oMul, oDivW, eXp, eXa, eConsX, eCallX, eCallN, eLstX, eCBX, sDropX, sRetX, sAsgX, sRaise, sRaiseF, List.set_cons_zero, List.set_cons_succ, List.getElem?_cons_zero, List.getElem?_cons_succ, truD_bl, Option.isSome_some])
            refine hW _ _ ?_
            (try dsimp only [sAsg, sIf, sRet, sRetN, sDrop, sNext, asg, setAll, eT, eOp, eUn, eLst, eTup, eCons, eNil, eVar, eC, eCall, eCB, eNot, eAnd, eOr, eTru, eAndT, eOrT, eNotT, eIf, ePart, eNoPart, eYes, eChain, eChain3, oI, oI0, oLt, oLe, oGt, oGe, oNeg, oSub, oMod, oMul, oDivW, eXp, eXa, eConsX, eCallX, eCallN, eLstX, eCBX, sDropX, sRetX, sAsgX, sRaise, sRaiseF, List.set_cons_zero, List.set_cons_succ, List.getElem?_cons_zero, List.getElem?_cons_succ, truD_bl]); (try simp only [if_true, Bool.false_eq_true, if_false, decide_true, decide_false, Bool.not_true, Bool.not_false, List.length_cons, List.length_nil, sizeLine_eq, Nat.reduceAdd, Nat.reduceLeDiff, true_and, and_true, pw6, pw10, pw11, pw12, pw13, pw30, pw40, pw60]); (try dsimp only [sAsg, sIf, sRet, sRetN, sDrop, sNext, asg, setAll, eT, eOp, eUn, eLst, eTup, eCons, eNil, eVar, eC, eCall, eCB, eNot, eAnd, eOr, eTru, eAndT, eOrT, eNotT, eIf, ePart, eNoPart, eYes, eChain, eChain3, oI, oI0, oLt, oLe, oGt, oGe, oNeg, oSub, oMod, oMul, oDivW, eXp, eXa, eConsX, eCallX, eCallN, eLstX, eCBX, sDropX, sRetX, sAsgX, sRaise, sRaiseF, List.set_cons_zero, List.set_cons_succ, List.getElem?_cons_zero, List.getElem?_cons_succ, truD_bl])
            have bad : ¬ QOk (i, j) → (fin G Q).rt (.bl false) G := fun q => no fun x e w => by
              have := not_int (d := .non) e
              simp at this
              exact q (by rw [show (i, j) = x from Prod.ext this.1 this.2]; exact w)
            refine ixt_0 (d := .int i) rfl ?_
            by_cases c1 : (0 : Int) - 1000000000000 ≤ i
            · by_cases c2 : i < 1000000000000
              · (try dsimp only [sAsg, sIf, sRet, sRetN, sDrop, sNext, asg, setAll, eT, eOp, eUn, eLst, eTup, eCons, eNil, eVar, eC, eCall, eCB, eNot, eAnd, eOr, eTru, eAndT, eOrT, eNotT, eIf, ePart, eNoPart, eYes, eChain, eChain3, oI, oI0, oLt, oLe, oGt, oGe, oNeg, oSub, oMod, oMul, oDivW, eXp, eXa, eConsX, eCallX, eCallN, eLstX, eCBX, sDropX, sRetX, sAsgX, sRaise, sRaiseF, List.set_cons_zero, List.set_cons_succ, List.getElem?_cons_zero, List.getElem?_cons_succ, truD_bl, c1, c2]); (try simp only [if_true, Bool.false_eq_true, if_false, decide_true, decide_false, Bool.not_true, Bool.not_false, List.length_cons, List.length_nil, sizeLine_eq, Nat.reduceAdd, Nat.reduceLeDiff, true_and, and_true, pw6, pw10, pw11, pw12, pw13, pw30, pw40, pw60, c1, c2]); (try dsimp only [sAsg, sIf, sRet, sRetN, sDrop, sNext, asg, setAll, eT, eOp, eUn, eLst, eTup, eCons, eNil, eVar, eC, eCall, eCB, eNot, eAnd, eOr, eTru, eAndT, eOrT, eNotT, eIf, ePart, eNoPart, eYes, eChain, eChain3, oI, oI0, oLt, oLe, oGt, oGe, oNeg, oSub, oMod, oMul, oDivW, eXp, eXa, eConsX, eCallX, eCallN, eLstX, eCBX, sDropX, sRetX, sAsgX, sRaise, sRaiseF, List.set_cons_zero, List.set_cons_succ, List.getElem?_cons_zero, List.getElem?_cons_succ, truD_bl, c1, c2])
                refine ixt_0 (d := .int j) rfl ?_
                by_cases c3 : 1 ≤ j
                · by_cases c4 : j ≤ 10000000000000
                  · (try dsimp only [sAsg, sIf, sRet, sRetN, sDrop, sNext, asg, setAll, eT, eOp, eUn, eLst, eTup, eCons, eNil, eVar, eC, eCall, eCB, eNot, eAnd, eOr, eTru, eAndT, eOrT, eNotT, eIf, ePart, eNoPart, eYes, eChain, eChain3, oI, oI0, oLt, oLe, oGt, oGe, oNeg, oSub, oMod, oMul, oDivW, eXp, eXa, eConsX, eCallX, eCallN, eLstX, eCBX, sDropX, sRetX, sAsgX, sRaise, sRaiseF, List.set_cons_zero, List.set_cons_succ, List.getElem?_cons_zero, List.getElem?_cons_succ, truD_bl, c3, c4]); (try simp only [if_true, Bool.false_eq_true, if_false, decide_true, decide_false, Bool.not_true, Bool.not_false, List.length_cons, List.length_nil, sizeLine_eq, Nat.reduceAdd, Nat.reduceLeDiff, true_and, and_true, pw6, pw10, pw11, pw12, pw13, pw30, pw40, pw60, c3, c4]); (try dsimp only [sAsg, sIf, sRet, sRetN, sDrop, sNext, asg, setAll, eT, eOp, eUn, eLst, eTup, eCons, eNil, eVar, eC, eCall, eCB, eNot, eAnd, eOr, eTru, eAndT, eOrT, eNotT, eIf, ePart, eNoPart, eYes, eChain, eChain3, oI, oI0, oLt, oLe, oGt, oGe, oNeg, oSub, oMod, oMul, oDivW, eXp, eXa, eConsX, eCallX, eCallN, eLstX, eCBX, sDropX, sRetX, sAsgX, sRaise, sRaiseF, List.set_cons_zero, List.set_cons_succ, List.getElem?_cons_zero, List.getElem?_cons_succ, truD_bl, c3, c4])
                    exact fin_id (k true ⟨fun _ => ⟨(i, j), rfl, by simp only; omega, c2, c3, c4⟩, fun _ => rfl⟩)
                  · (try dsimp only [sAsg, sIf, sRet, sRetN, sDrop, sNext, asg, setAll, eT, eOp, eUn, eLst, eTup, eCons, eNil, eVar, eC, eCall, eCB, eNot, eAnd, eOr, eTru, eAndT, eOrT, eNotT, eIf, ePart, eNoPart, eYes, eChain, eChain3, oI, oI0, oLt, oLe, oGt, oGe, oNeg, oSub, oMod, oMul, oDivW, eXp, eXa, eConsX, eCallX, eCallN, eLstX, eCBX, sDropX, sRetX, sAsgX, sRaise, sRaiseF, List.set_cons_zero, List.set_cons_succ, List.getElem?_cons_zero, List.getElem?_cons_succ, truD_bl, c3, c4]); (try simp only [if_true, Bool.false_eq_true, if_false, decide_true, decide_false, Bool.not_true, Bool.not_false, List.length_cons, List.length_nil, sizeLine_eq, Nat.reduceAdd, Nat.reduceLeDiff, true_and, and_true, pw6, pw10, pw11, pw12, pw13, pw30, pw40, pw60, c3, c4]); (try dsimp only [sAsg, sIf, sRet, sRetN, sDrop, sNext, asg, setAll, eT, eOp, eUn, eLst, eTup, eCons, eNil, eVar, eC, eCall, eCB, eNot, eAnd, eOr, eTru, eAndT, eOrT, eNotT, eIf, ePart, eNoPart, eYes, eChain, eChain3, oI, oI0, oLt, oLe, oGt, oGe, oNeg, oSub, oMod, oMul, oDivW, eXp, eXa, eConsX, eCallX, eCallN, eLstX, eCBX, sDropX, sRetX, sAsgX, sRaise, sRaiseF, List.set_cons_zero, List.set_cons_succ, List.getElem?_cons_zero, List.getElem?_cons_succ, truD_bl, c3, c4])
                    exact bad fun w => c4 w.2.2.2
                · (try dsimp only [sAsg, sIf, sRet, sRetN, sDrop, sNext, asg, setAll, eT, eOp, eUn, eLst, eTup, eCons, eNil, eVar, eC, eCall, eCB, eNot, eAnd, eOr, eTru, eAndT, eOrT, eNotT, eIf, ePart, eNoPart, eYes, eChain, eChain3, oI, oI0, oLt, oLe, oGt, oGe, oNeg, oSub, oMod, oMul, oDivW, eXp, eXa, eConsX, eCallX, eCallN, eLstX, eCBX, sDropX, sRetX, sAsgX, sRaise, sRaiseF, List.set_cons_zero, List.set_cons_succ, List.getElem?_cons_zero, List.getElem?_cons_succ, truD_bl, c3]); (try simp only [if_true, Bool.false_eq_true, if_false, decide_true, decide_false, Bool.not_true, Bool.not_false, List.length_cons, List.length_nil, sizeLine_eq, Nat.reduceAdd, Nat.reduceLeDiff, true_and, and_true, pw6, pw10, pw11, pw12, pw13, pw30, pw40, pw60, c3]); (try dsimp only [sAsg, sIf, sRet, sRetN, sDrop, sNext, asg, setAll, eT, eOp, eUn, eLst, eTup, eCons, eNil, eVar, eC, eCall, eCB, eNot, eAnd, eOr, eTru, eAndT, eOrT, eNotT, eIf, ePart, eNoPart, eYes, eChain, eChain3, oI, oI0, oLt, oLe, oGt, oGe, oNeg, oSub, oMod, oMul, oDivW, eXp, eXa, eConsX, eCallX, eCallN, eLstX, eCBX, sDropX, sRetX, sAsgX, sRaise, sRaiseF, List.set_cons_zero, List.set_cons_succ, List.getElem?_cons_zero, List.getElem?_cons_succ, truD_bl, c3])
                  exact bad fun w => c3 w.2.2.1
              · (try dsimp only [sAsg, sIf, sRet, sRetN, sDrop, sNext, asg, setAll, eT, eOp, eUn, eLst, eTup, eCons, eNil, eVar, eC, eCall, eCB, eNot, eAnd, eOr, eTru, eAndT, eOrT, eNotT, eIf, ePart, eNoPart, eYes, eChain, eChain3, oI, oI0, oLt, oLe, oGt, oGe, oNeg, oSub, oMod, oMul, oDivW, eXp, eXa, eConsX, eCallX, eCallN, eLstX, eCBX, sDropX, sRetX, sAsgX, sRaise, sRaiseF, List.set_cons_zero, List.set_cons_succ, List.getElem?_cons_zero, List.getElem?_cons_succ, truD_bl, c1, c2]); (try simp only [if_true, Bool.false_eq_true, if_false, decide_true, decide_false, Bool.not_true, Bool.not_false, List.length_cons, List.length_nil, sizeLine_eq, Nat.reduceAdd, Nat.reduceLeDiff, true_and, and_true, pw6, pw10, pw11, pw12, pw13, pw30, pw40, pw60, c1, c2]); (try dsimp only [sAsg, sIf, sRet, sRetN, sDrop, sNext, asg, setAll, eT, eOp, eUn, eLst, eTup, eCons, eNil, eVar, eC, eCall, eCB, eNot, eAnd, eOr, eTru, eAndT, eOrT, eNotT, eIf, ePart, eNoPart, eYes, eChain, eChain3, oI, oI0, oLt, oLe, oGt, oGe, oNeg, oSub, oMod, oMul, oDivW, eXp, eXa, eConsX, eCallX, eCallN, eLstX, eCBX, sDropX, sRetX, sAsgX, sRaise, sRaiseF, List.set_cons_zero, List.set_cons_succ, List.getElem?_cons_zero, List.getElem?_cons_succ, truD_bl, c1, c2])
                exact bad fun w => c2 w.2.1
            · (try dsimp only [sAsg, sIf, sRet, sRetN, sDrop, sNext, asg, setAll, eT, eOp, eUn, eLst, eTup, eCons, eNil, eVar, eC, eCall, eCB, eNot, eAnd, eOr, eTru, eAndT, eOrT, eNotT, eIf, ePart, eNoPart, eYes, eChain, eChain3, oI, oI0, oLt, oLe, oGt, oGe, oNeg, oSub, oMod, oMul, oDivW, eXp, eXa, eConsX, eCallX, eCallN, eLstX, eCBX, sDropX, sRetX, sAsgX, sRaise, sRaiseF, List.set_cons_zero, List.set_cons_succ, List.getElem?_cons_zero, List.getElem?_cons_succ, truD_bl, c1]); (try simp only [if_true, Bool.false_eq_true, if_false, decide_true, decide_false, Bool.not_true, Bool.not_false, List.length_cons, List.length_nil, sizeLine_eq, Nat.reduceAdd, Nat.reduceLeDiff, true_and, and_true, pw6, pw10, pw11, pw12, pw13, pw30, pw40, pw60, c1]); (try dsimp only [sAsg, sIf, sRet, sRetN, sDrop, sNext, asg, setAll, eT, eOp, eUn, eLst, eTup, eCons, eNil, eVar, eC, eCall, eCB, eNot, eAnd, eOr, eTru, eAndT, eOrT, eNotT, eIf, ePart, eNoPart, eYes, eChain, eChain3, oI, oI0, oLt, oLe, oGt, oGe, oNeg, oSub, oMod, oMul, oDivW, eXp, eXa, eConsX, eCallX, eCallN, eLstX, eCBX, sDropX, sRetX, sAsgX, sRaise, sRaiseF, List.set_cons_zero, List.set_cons_succ, List.getElem?_cons_zero, List.getElem?_cons_succ, truD_bl, c1])
              exact bad fun w => c1 (by have := w.1; simp only at this; omega)
    · rw [decide_eq_false (by omega)]
      (try dsimp only [sAsg, sIf, sRet, sRetN, sDrop, sNext, asg, setAll, eT, eOp, eUn, eLst, eTup, eCons, eNil, eVar, eC, eCall, eCB, eNot, eAnd, eOr, eTru, eAndT, eOrT, eNotT, eIf, ePart, eNoPart, eYes, eChain, eChain3, oI, oI0, oLt, oLe, oGt, oGe, oNeg, oSub, oMod, oMul, oDivW, eXp, eXa, eConsX, eCallX, eCallN, eLstX, eCBX, sDropX, sRetX, sAsgX, sRaise, sRaiseF, List.set_cons_zero, List.set_cons_succ, List.getElem?_cons_zero, List.getElem?_cons_succ, truD_bl]); (try simp only [if_true, Bool.false_eq_true, if_false, decide_true, decide_false, Bool.not_true, Bool.not_false, List.length_cons, List.length_nil, sizeLine_eq, Nat.reduceAdd, Nat.reduceLeDiff, true_and, and_true, pw6, pw10, pw11, pw12, pw13, pw30, pw40, pw60]); (try dsimp only [sAsg, sIf, sRet, sRetN, sDrop, sNext, asg, setAll, eT, eOp, eUn, eLst, eTup, eCons, eNil, eVar, eC, eCall, eCB, eNot, eAnd, eOr, eTru, eAndT, eOrT, eNotT, eIf, ePart, eNoPart, eYes, eChain, eChain3, oI, oI0, oLt, oLe, oGt, oGe, oNeg, oSub, oMod, oMul, oDivW, eXp, eXa, eConsX, eCallX, eCallN, eLstX, eCBX, sDropX, sRetX, sAsgX, sRaise, sRaiseF, List.set_cons_zero, List.set_cons_succ, List.getElem?_cons_zero, List.getElem?_cons_succ, truD_bl])
      exact no fun x e _ => by simp [qD] at e; subst e; simp at l2
  | _ =>
    (try dsimp only [sAsg, sIf, sRet, sRetN, sDrop, sNext, asg, setAll, eT, eOp, eUn, eLst, eTup, eCons, eNil, eVar, eC, eCall, eCB, eNot, eAnd, eOr, eTru, eAndT, eOrT, eNotT, eIf, ePart, eNoPart, eYes, eChain, eChain3, oI, oI0, oLt, oLe, oGt, oGe, oNeg, oSub, oMod, oMul, oDivW, eXp, eXa, eConsX, eCallX, eCallN, eLstX, eCBX, sDropX, sRetX, sAsgX, sRaise, sRaiseF, List.set_cons_zero, List.set_cons_succ, List.getElem?_cons_zero, List.getElem?_cons_succ, truD_bl, isT]); (try simp only [if_true, Bool.false_eq_true, if_false, decide_true, decide_false, Bool.not_true, Bool.not_false, List.length_cons, List.length_nil, sizeLine_eq, Nat.reduceAdd, Nat.reduceLeDiff, true_and, and_true, pw6, pw10, pw11, pw12, pw13, pw30, pw40, pw60, isT]); (try dsimp only [sAsg, sIf, sRet, sRetN, sDrop, sNext, asg, setAll, eT, eOp, eUn, eLst, eTup, eCons, eNil, eVar, eC, eCall, eCB, eNot, eAnd, eOr, eTru, eAndT, eOrT, eNotT, eIf, ePart, eNoPart, eYes, eChain, eChain3, oI, oI0, oLt, oLe, oGt, oGe, oNeg, oSub, oMod, oMul, oDivW, eXp, eXa, eConsX, eCallX, eCallN, eLstX, eCBX, sDropX, sRetX, sAsgX, sRaise, sRaiseF, List.set_cons_zero, List.set_cons_succ, List.getElem?_cons_zero, List.getElem?_cons_succ, truD_bl, isT])
    exact no fun x e _ => by simp [qD] at e
theorem isP_long {es : List D} (h : 48 < es.length) : ¬ IsP (.lst es) := fun ⟨pp, e, w⟩ => by
  cases e
  have := w.len
  simp at h
  omega
/-- what stands behind a front -/
theorem isP_at {pp : Paper} {d : D} {r : List D} (h : IsP (.lst (pp.map qD ++ d :: r))) : ∃ x, d = qD x ∧ QOk x ∧ ∀ y ∈ pp, y.1 < x.1 := by
  obtain ⟨p2, e, w⟩ := h
  simp only [D.lst.injEq] at e
  have hl : pp.length < p2.length := by
    have := congrArg List.length e
    simp at this
    omega
  have e1 : d = qD p2[pp.length] := by
    have := congrArg (fun l => l[pp.length]?) e
    simp at this
    rw [List.getElem?_eq_getElem hl] at this
    simpa using this
  have e2 : pp = p2.take pp.length := by
    have := congrArg (fun l => l.take pp.length) e
    simp only [List.take_append, List.length_map, Nat.sub_self, List.take_zero, List.append_nil, ← List.map_take] at this
    rw [List.take_length] at this
    exact qDs_inj (by simpa using this)
  refine ⟨_, e1, qok_of w (List.getElem_mem hl), fun y hy => ?_⟩
  rw [e2] at hy
  obtain ⟨i, hi, ey⟩ := List.getElem_of_mem hy
  rw [← ey]
  simp at hi ⊢
  exact (List.pairwise_iff_getElem.mp w.up) i pp.length (by omega) hl (by omega)
theorem d_is_paperX (ds : List D) (G : Gp) (Q : DK) (h : F_is_paperX ds G Q) : r_is_paperX (fin G Q) (startD 3 ds) G := by
  obtain ⟨d, rfl, ha, k⟩ := h
  have no : ¬ IsP d → (fin G Q).rt (.bl false) G := fun q => fin_id (k false ⟨fun e => (by cases e), fun e => (q e).elim⟩)
  refine seq_gen fun W hW => ?_
  (try dsimp only [sAsg, sIf, sRet, sRetN, sDrop, sNext, asg, setAll, eT, eOp, eUn, eLst, eTup, eCons, eNil, eVar, eC, eCall, eCB, eNot, eAnd, eOr, eTru, eAndT, eOrT, eNotT, eIf, ePart, eNoPart, eYes, eChain, eChain3, oI, oI0, oLt, oLe, oGt, oGe, oNeg, oSub, oMod, oMul, oDivW, eXp, eXa, eConsX, eCallX, eCallN, eLstX, eCBX, sDropX, sRetX, sAsgX, sRaise, sRaiseF, List.set_cons_zero, List.set_cons_succ, List.getElem?_cons_zero, List.getElem?_cons_succ, truD_bl, startD, List.map_cons, List.map_nil, List.cons_append, List.nil_append, List.replicate]); (try simp only [if_true, Bool.false_eq_true, if_false, decide_true, decide_false, Bool.not_true, Bool.not_false, List.length_cons, List.length_nil, sizeLine_eq, Nat.reduceAdd, Nat.reduceLeDiff, true_and, and_true, pw6, pw10, pw11, pw12, pw13, pw30, pw40, pw60, startD, List.map_cons, List.map_nil, List.cons_append, List.nil_append, List.replicate]); (try dsimp only [sAsg, sIf, sRet, sRetN, sDrop, sNext, asg, setAll, eT, eOp, eUn, eLst, eTup, eCons, eNil, eVar, eC, eCall, eCB, eNot, eAnd, eOr, eTru, eAndT, eOrT, eNotT, eIf, ePart, eNoPart, eYes, eChain, eChain3, oI, oI0, oLt, oLe, oGt, oGe, oNeg, oSub, oMod, oMul, oDivW, eXp, eXa, eConsX, eCallX, eCallN, eLstX, eCBX, sDropX, sRetX, sAsgX, sRaise, sRaiseF, List.set_cons_zero, List.set_cons_succ, List.getElem?_cons_zero, List.getElem?_cons_succ, truD_bl, startD, List.map_cons, List.map_nil, List.cons_append, List.nil_append, List.replicate])
  rw [isi_list ha]
  cases d with
  | lst es =>
    simp only [anyD] at ha
    have hm := anyDs_mem.mp ha
    (try dsimp only [sAsg, sIf, sRet, sRetN, sDrop, sNext, asg, setAll, eT, eOp, eUn, eLst, eTup, eCons, eNil, eVar, eC, eCall, eCB, eNot, eAnd, eOr, eTru, eAndT, eOrT, eNotT, eIf, ePart, eNoPart, eYes, eChain, eChain3, oI, oI0, oLt, oLe, oGt, oGe, oNeg, oSub, oMod, oMul, oDivW, eXp, eXa, eConsX, eCallX, eCallN, eLstX, eCBX, sDropX, sRetX, sAsgX, sRaise, sRaiseF, List.set_cons_zero, List.set_cons_succ, List.getElem?_cons_zero, List.getElem?_cons_succ, truD_bl, isL]); (try simp only [if_true, Bool.false_eq_true, if_false, decide_true, decide_false, Bool.not_true, Bool.not_false, List.length_cons, List.length_nil, sizeLine_eq, Nat.reduceAdd, Nat.reduceLeDiff, true_and, and_true, pw6, pw10, pw11, pw12, pw13, pw30, pw40, pw60, isL]); (try dsimp only [sAsg, sIf, sRet, sRetN, sDrop, sNext, asg, setAll, eT, eOp, eUn, eLst, eTup, eCons, eNil, eVar, eC, eCall, eCB, eNot, eAnd, eOr, eTru, eAndT, eOrT, eNotT, eIf, ePart, eNoPart, eYes, eChain, eChain3, oI, oI0, oLt, oLe, oGt, oGe, oNeg, oSub, oMod, oMul, oDivW, eXp, eXa, eConsX, eCallX, eCallN, eLstX, eCBX, sDropX, sRetX, sAsgX, sRaise, sRaiseF, List.set_cons_zero, List.set_cons_succ, List.getElem?_cons_zero, List.getElem?_cons_succ, truD_bl, isL])
    refine len_lst ?_
    by_cases q48 : (48 : Int) < es.length
    · (try dsimp only [sAsg, sIf, sRet, sRetN, sDrop, sNext, asg, setAll, eT, eOp, eUn, eLst, eTup, eCons, eNil, eVar, eC, eCall, eCB, eNot, eAnd, eOr, eTru, eAndT, eOrT, eNotT, eIf, ePart, eNoPart, eYes, eChain, eChain3, oI, oI0, oLt, oLe, oGt, oGe, oNeg, oSub, oMod, oMul, oDivW, eXp, eXa, eConsX, eCallX, eCallN, eLstX, eCBX, sDropX, sRetX, sAsgX, sRaise, sRaiseF, List.set_cons_zero, List.set_cons_succ, List.getElem?_cons_zero, List.getElem?_cons_succ, truD_bl, q48]); (try simp only [if_true, Bool.false_eq_true, if_false, decide_true, decide_false, Bool.not_true, Bool.not_false, List.length_cons, List.length_nil, sizeLine_eq, Nat.reduceAdd, Nat.reduceLeDiff, true_and, and_true, pw6, pw10, pw11, pw12, pw13, pw30, pw40, pw60, q48]); (try dsimp only [sAsg, sIf, sRet, sRetN, sDrop, sNext, asg, setAll, eT, eOp, eUn, eLst, eTup, eCons, eNil, eVar, eC, eCall, eCB, eNot, eAnd, eOr, eTru, eAndT, eOrT, eNotT, eIf, ePart, eNoPart, eYes, eChain, eChain3, oI, oI0, oLt, oLe, oGt, oGe, oNeg, oSub, oMod, oMul, oDivW, eXp, eXa, eConsX, eCallX, eCallN, eLstX, eCBX, sDropX, sRetX, sAsgX, sRaise, sRaiseF, List.set_cons_zero, List.set_cons_succ, List.getElem?_cons_zero, List.getElem?_cons_succ, truD_bl, q48])
      exact no (isP_long (by omega))
    · (try dsimp only [sAsg, sIf, sRet, sRetN, sDrop, sNext, asg, setAll, eT, eOp, eUn, eLst, eTup, eCons, eNil, eVar, eC, eCall, eCB, eNot, eAnd, eOr, eTru, eAndT, eOrT, eNotT, eIf, ePart, eNoPart, eYes, eChain, eChain3, oI, oI0, oLt, oLe, oGt, oGe, oNeg, oSub, oMod, oMul, oDivW, eXp, eXa, eConsX, eCallX, eCallN, eLstX, eCBX, sDropX, sRetX, sAsgX, sRaise, sRaiseF, List.set_cons_zero, List.set_cons_succ, List.getElem?_cons_zero, List.getElem?_cons_succ, truD_bl, q48]); (try simp only [if_true, Bool.false_eq_true, if_false, decide_true, decide_false, Bool.not_true, Bool.not_false, List.length_cons, List.length_nil, sizeLine_eq, Nat.reduceAdd, Nat.reduceLeDiff, true_and, and_true, pw6, pw10, pw11, pw12, pw13, pw30, pw40, pw60, q48]); (try dsimp only [sAsg, sIf, sRet, sRetN, sDrop, sNext, asg, setAll, eT, eOp, eUn, eLst, eTup, eCons, eNil, eVar, eC, eCall, eCB, eNot, eAnd, eOr, eTru, eAndT, eOrT, eNotT, eIf, ePart, eNoPart, eYes, eChain, eChain3, oI, oI0, oLt, oLe, oGt, oGe, oNeg, oSub, oMod, oMul, oDivW, eXp, eXa, eConsX, eCallX, eCallN, eLstX, eCBX, sDropX, sRetX, sAsgX, sRaise, sRaiseF, List.set_cons_zero, List.set_cons_succ, List.getElem?_cons_zero, List.getElem?_cons_succ, truD_bl, q48])
      refine hW _ _ ?_
      refine seq_gen fun W2 hW2 => ?_
      (try dsimp only [sAsg, sIf, sRet, sRetN, sDrop, sNext, asg, setAll, eT, eOp, eUn, eLst, eTup, eCons, eNil, eVar, eC, eCall, eCB, eNot, eAnd, eOr, eTru, eAndT, eOrT, eNotT, eIf, ePart, eNoPart, eYes, eChain, eChain3, oI, oI0, oLt, oLe, oGt, oGe, oNeg, oSub, oMod, oMul, oDivW, eXp, eXa, eConsX, eCallX, eCallN, eLstX, eCBX, sDropX, sRetX, sAsgX, sRaise, sRaiseF, List.set_cons_zero, List.set_cons_succ, List.getElem?_cons_zero, List.getElem?_cons_succ, truD_bl, sFor, iL, lkL_lst, stays]); (try simp only [if_true, Bool.false_eq_true, if_false, decide_true, decide_false, Bool.not_true, Bool.not_false, List.length_cons, List.length_nil, sizeLine_eq, Nat.reduceAdd, Nat.reduceLeDiff, true_and, and_true, pw6, pw10, pw11, pw12, pw13, pw30, pw40, pw60, sFor, iL, lkL_lst, stays]); (try dsimp only [sAsg, sIf, sRet, sRetN, sDrop, sNext, asg, setAll, eT, eOp, eUn, eLst, eTup, eCons, eNil, eVar, eC, eCall, eCB, eNot, eAnd, eOr, eTru, eAndT, eOrT, eNotT, eIf, ePart, eNoPart, eYes, eChain, eChain3, oI, oI0, oLt, oLe, oGt, oGe, oNeg, oSub, oMod, oMul, oDivW, eXp, eXa, eConsX, eCallX, eCallN, eLstX, eCBX, sDropX, sRetX, sAsgX, sRaise, sRaiseF, List.set_cons_zero, List.set_cons_succ, List.getElem?_cons_zero, List.getElem?_cons_succ, truD_bl, sFor, iL, lkL_lst, stays])
      refine forW_self (fun r s G' => G' = G ∧ ∃ (pp : Paper) (o1 : Option D), es = pp.map qD ++ r ∧ (∀ x ∈ pp, QOk x) ∧ s = [some (.lst es), o1, none]) (fun _ _ _ _ => trivial) ?_ ?_ es _ _ ⟨rfl, [], _, rfl, by simp, rfl⟩
      · rintro x r s G' W ⟨rfl, pp, o1, he, hq, rfl⟩ hW
        have hin : x ∈ es := by rw [he]; simp
        unfold r_is_paperX_L1
        (try dsimp only [sAsg, sIf, sRet, sRetN, sDrop, sNext, asg, setAll, eT, eOp, eUn, eLst, eTup, eCons, eNil, eVar, eC, eCall, eCB, eNot, eAnd, eOr, eTru, eAndT, eOrT, eNotT, eIf, ePart, eNoPart, eYes, eChain, eChain3, oI, oI0, oLt, oLe, oGt, oGe, oNeg, oSub, oMod, oMul, oDivW, eXp, eXa, eConsX, eCallX, eCallN, eLstX, eCBX, sDropX, sRetX, sAsgX, sRaise, sRaiseF, List.set_cons_zero, List.set_cons_succ, List.getElem?_cons_zero, List.getElem?_cons_succ, truD_bl]); (try simp only [if_true, Bool.false_eq_true, if_false, decide_true, decide_false, Bool.not_true, Bool.not_false, List.length_cons, List.length_nil, sizeLine_eq, Nat.reduceAdd, Nat.reduceLeDiff, true_and, and_true, pw6, pw10, pw11, pw12, pw13, pw30, pw40, pw60]); (try dsimp only [sAsg, sIf, sRet, sRetN, sDrop, sNext, asg, setAll, eT, eOp, eUn, eLst, eTup, eCons, eNil, eVar, eC, eCall, eCB, eNot, eAnd, eOr, eTru, eAndT, eOrT, eNotT, eIf, ePart, eNoPart, eYes, eChain, eChain3, oI, oI0, oLt, oLe, oGt, oGe, oNeg, oSub, oMod, oMul, oDivW, eXp, eXa, eConsX, eCallX, eCallN, eLstX, eCBX, sDropX, sRetX, sAsgX, sRaise, sRaiseF, List.set_cons_zero, List.set_cons_succ, List.getElem?_cons_zero, List.getElem?_cons_succ, truD_bl])
        refine ⟨x, rfl, hm x hin, fun b hb => ?_⟩
        cases b with
        | true =>
          obtain ⟨y, rfl, hy⟩ := hb.mp rfl
          (try dsimp only [sAsg, sIf, sRet, sRetN, sDrop, sNext, asg, setAll, eT, eOp, eUn, eLst, eTup, eCons, eNil, eVar, eC, eCall, eCB, eNot, eAnd, eOr, eTru, eAndT, eOrT, eNotT, eIf, ePart, eNoPart, eYes, eChain, eChain3, oI, oI0, oLt, oLe, oGt, oGe, oNeg, oSub, oMod, oMul, oDivW, eXp, eXa, eConsX, eCallX, eCallN, eLstX, eCBX, sDropX, sRetX, sAsgX, sRaise, sRaiseF, List.set_cons_zero, List.set_cons_succ, List.getElem?_cons_zero, List.getElem?_cons_succ, truD_bl]); (try simp only [if_true, Bool.false_eq_true, if_false, decide_true, decide_false, Bool.not_true, Bool.not_false, List.length_cons, List.length_nil, sizeLine_eq, Nat.reduceAdd, Nat.reduceLeDiff, true_and, and_true, pw6, pw10, pw11, pw12, pw13, pw30, pw40, pw60]); (try dsimp only [sAsg, sIf, sRet, sRetN, sDrop, sNext, asg, setAll, eT, eOp, eUn, eLst, eTup, eCons, eNil, eVar, eC, eCall, eCB, eNot, eAnd, eOr, eTru, eAndT, eOrT, eNotT, eIf, ePart, eNoPart, eYes, eChain, eChain3, oI, oI0, oLt, oLe, oGt, oGe, oNeg, oSub, oMod, oMul, oDivW, eXp, eXa, eConsX, eCallX, eCallN, eLstX, eCBX, sDropX, sRetX, sAsgX, sRaise, sRaiseF, List.set_cons_zero, List.set_cons_succ, List.getElem?_cons_zero, List.getElem?_cons_succ, truD_bl])
          exact hW _ _ ⟨rfl, pp ++ [y], _, by rw [he]; simp, fun z hz => by
            rcases List.mem_append.mp hz with q | q
            · exact hq z q
            · simp at q; subst q; exact hy, rfl⟩
        | false =>
          (try dsimp only [sAsg, sIf, sRet, sRetN, sDrop, sNext, asg, setAll, eT, eOp, eUn, eLst, eTup, eCons, eNil, eVar, eC, eCall, eCB, eNot, eAnd, eOr, eTru, eAndT, eOrT, eNotT, eIf, ePart, eNoPart, eYes, eChain, eChain3, oI, oI0, oLt, oLe, oGt, oGe, oNeg, oSub, oMod, oMul, oDivW, eXp, eXa, eConsX, eCallX, eCallN, eLstX, eCBX, sDropX, sRetX, sAsgX, sRaise, sRaiseF, List.set_cons_zero, List.set_cons_succ, List.getElem?_cons_zero, List.getElem?_cons_succ, truD_bl]); (try simp only [if_true, Bool.false_eq_true, if_false, decide_true, decide_false, Bool.not_true, Bool.not_false, List.length_cons, List.length_nil, sizeLine_eq, Nat.reduceAdd, Nat.reduceLeDiff, true_and, and_true, pw6, pw10, pw11, pw12, pw13, pw30, pw40, pw60]); (try dsimp only [sAsg, sIf, sRet, sRetN, sDrop, sNext, asg, setAll, eT, eOp, eUn, eLst, eTup, eCons, eNil, eVar, eC, eCall, eCB, eNot, eAnd, eOr, eTru, eAndT, eOrT, eNotT, eIf, ePart, eNoPart, eYes, eChain, eChain3, oI, oI0, oLt, oLe, oGt, oGe, oNeg, oSub, oMod, oMul, oDivW, eXp, eXa, eConsX, eCallX, eCallN, eLstX, eCBX, sDropX, sRetX, sAsgX, sRaise, sRaiseF, List.set_cons_zero, List.set_cons_succ, List.getElem?_cons_zero, List.getElem?_cons_succ, truD_bl])
          exact no fun hp => by
            rw [he] at hp
            obtain ⟨y, e, w, _⟩ := isP_at hp
            have := hb.mpr ⟨y, e, w⟩
            cases this
      · rintro s G' ⟨rfl, pp, o1, he, hq, rfl⟩
        rw [List.append_nil] at he
        subst he
        refine hW2 _ _ ?_
        refine seq_gen fun W3 hW3 => ?_
        (try dsimp only [sAsg, sIf, sRet, sRetN, sDrop, sNext, asg, setAll, eT, eOp, eUn, eLst, eTup, eCons, eNil, eVar, eC, eCall, eCB, eNot, eAnd, eOr, eTru, eAndT, eOrT, eNotT, eIf, ePart, eNoPart, eYes, eChain, eChain3, oI, oI0, oLt, oLe, oGt, oGe, oNeg, oSub, oMod, oMul, oDivW, eXp, eXa, eConsX, eCallX, eCallN, eLstX, eCBX, sDropX, sRetX, sAsgX, sRaise, sRaiseF, List.set_cons_zero, List.set_cons_succ, List.getElem?_cons_zero, List.getElem?_cons_succ, truD_bl, sFor, iZ, eSlL, lkL_lst]); (try simp only [if_true, Bool.false_eq_true, if_false, decide_true, decide_false, Bool.not_true, Bool.not_false, List.length_cons, List.length_nil, sizeLine_eq, Nat.reduceAdd, Nat.reduceLeDiff, true_and, and_true, pw6, pw10, pw11, pw12, pw13, pw30, pw40, pw60, sFor, iZ, eSlL, lkL_lst]); (try dsimp only [sAsg, sIf, sRet, sRetN, sDrop, sNext, asg, setAll, eT, eOp, eUn, eLst, eTup, eCons, eNil, eVar, eC, eCall, eCB, eNot, eAnd, eOr, eTru, eAndT, eOrT, eNotT, eIf, ePart, eNoPart, eYes, eChain, eChain3, oI, oI0, oLt, oLe, oGt, oGe, oNeg, oSub, oMod, oMul, oDivW, eXp, eXa, eConsX, eCallX, eCallN, eLstX, eCBX, sDropX, sRetX, sAsgX, sRaise, sRaiseF, List.set_cons_zero, List.set_cons_succ, List.getElem?_cons_zero, List.getElem?_cons_succ, truD_bl, sFor, iZ, eSlL, lkL_lst])
        rw [cut_1, zip_tail]
        simp only [List.length_map] at q48
        refine forW_ind (g := fun z : (Int × Int) × (Int × Int) => D.tup [qD z.1, qD z.2]) (fun r s G2 => G2 = G' ∧ (∃ dn, pp.zip (pp.drop 1) = dn ++ r ∧ ∀ z ∈ dn, z.1.1 < z.2.1) ∧ ∃ o1 o2, s = [some (.lst (pp.map qD)), o1, o2]) (fun _ _ _ _ => by simp [stays]) ?_ ?_ (pp.zip (pp.drop 1)) _ _ ⟨rfl, ⟨[], rfl, by simp⟩, _, _, rfl⟩
        · rintro z r s G2 W ⟨rfl, ⟨dn, he, hd⟩, o1, o2, rfl⟩ hW
          simp [r_is_paperX_L2, qD, atI, ixN]
          by_cases q : z.2.1 ≤ z.1.1
          · rw [if_pos q]
            exact no fun ⟨p2, e, w⟩ => by
              simp only [D.lst.injEq] at e
              have := qDs_inj e
              subst this
              have := zip_up w.up (z := z) (by rw [he]; simp)
              omega
          · rw [if_neg q]
            exact hW _ _ ⟨rfl, ⟨dn ++ [z], by rw [he]; simp, fun y hy => by
              rcases List.mem_append.mp hy with q2 | q2
              · exact hd y q2
              · simp at q2; subst q2; omega⟩, _, _, rfl⟩
        · rintro s G2 ⟨rfl, ⟨dn, he, hd⟩, o1, o2, rfl⟩
          rw [List.append_nil] at he
          refine hW3 _ _ ?_
          (try dsimp only [sAsg, sIf, sRet, sRetN, sDrop, sNext, asg, setAll, eT, eOp, eUn, eLst, eTup, eCons, eNil, eVar, eC, eCall, eCB, eNot, eAnd, eOr, eTru, eAndT, eOrT, eNotT, eIf, ePart, eNoPart, eYes, eChain, eChain3, oI, oI0, oLt, oLe, oGt, oGe, oNeg, oSub, oMod, oMul, oDivW, eXp, eXa, eConsX, eCallX, eCallN, eLstX, eCBX, sDropX, sRetX, sAsgX, sRaise, sRaiseF, List.set_cons_zero, List.set_cons_succ, List.getElem?_cons_zero, List.getElem?_cons_succ, truD_bl]); (try simp only [if_true, Bool.false_eq_true, if_false, decide_true, decide_false, Bool.not_true, Bool.not_false, List.length_cons, List.length_nil, sizeLine_eq, Nat.reduceAdd, Nat.reduceLeDiff, true_and, and_true, pw6, pw10, pw11, pw12, pw13, pw30, pw40, pw60]); (try dsimp only [sAsg, sIf, sRet, sRetN, sDrop, sNext, asg, setAll, eT, eOp, eUn, eLst, eTup, eCons, eNil, eVar, eC, eCall, eCB, eNot, eAnd, eOr, eTru, eAndT, eOrT, eNotT, eIf, ePart, eNoPart, eYes, eChain, eChain3, oI, oI0, oLt, oLe, oGt, oGe, oNeg, oSub, oMod, oMul, oDivW, eXp, eXa, eConsX, eCallX, eCallN, eLstX, eCBX, sDropX, sRetX, sAsgX, sRaise, sRaiseF, List.set_cons_zero, List.set_cons_succ, List.getElem?_cons_zero, List.getElem?_cons_succ, truD_bl])
          exact fin_id (k true ⟨fun _ => ⟨pp, rfl, pok_of (by omega) hq (up_zip fun z hz => hd z (by rw [← he]; exact hz))⟩, fun _ => rfl⟩)
  | _ =>
    (try dsimp only [sAsg, sIf, sRet, sRetN, sDrop, sNext, asg, setAll, eT, eOp, eUn, eLst, eTup, eCons, eNil, eVar, eC, eCall, eCB, eNot, eAnd, eOr, eTru, eAndT, eOrT, eNotT, eIf, ePart, eNoPart, eYes, eChain, eChain3, oI, oI0, oLt, oLe, oGt, oGe, oNeg, oSub, oMod, oMul, oDivW, eXp, eXa, eConsX, eCallX, eCallN, eLstX, eCBX, sDropX, sRetX, sAsgX, sRaise, sRaiseF, List.set_cons_zero, List.set_cons_succ, List.getElem?_cons_zero, List.getElem?_cons_succ, truD_bl, isL]); (try simp only [if_true, Bool.false_eq_true, if_false, decide_true, decide_false, Bool.not_true, Bool.not_false, List.length_cons, List.length_nil, sizeLine_eq, Nat.reduceAdd, Nat.reduceLeDiff, true_and, and_true, pw6, pw10, pw11, pw12, pw13, pw30, pw40, pw60, isL]); (try dsimp only [sAsg, sIf, sRet, sRetN, sDrop, sNext, asg, setAll, eT, eOp, eUn, eLst, eTup, eCons, eNil, eVar, eC, eCall, eCB, eNot, eAnd, eOr, eTru, eAndT, eOrT, eNotT, eIf, ePart, eNoPart, eYes, eChain, eChain3, oI, oI0, oLt, oLe, oGt, oGe, oNeg, oSub, oMod, oMul, oDivW, eXp, eXa, eConsX, eCallX, eCallN, eLstX, eCBX, sDropX, sRetX, sAsgX, sRaise, sRaiseF, List.set_cons_zero, List.set_cons_succ, List.getElem?_cons_zero, List.getElem?_cons_succ, truD_bl, isL])
    exact no fun ⟨pp, e, _⟩ => by cases e
end DL
set_option Elab.async false
set_option linter.all false
set_option maxRecDepth 100000
set_option maxHeartbeats 4000000
namespace DL
open PySem PySem.Spec PyProof.Rows L2 LN
theorem add_ii {a b : Int} {G : Gp} {Q : DK} (q : Q (.int (a + b)) G) : oAdd (.int a) (.int b) G Q := q
theorem eqv_ss (a b : Str) : PyData.eqv (.str a) (.str b) = decide (a = b) := by
  simp only [PyData.eqv]
  rw [Bool.eq_iff_iff]; simp
theorem eq_ss {a b : Str} {G : Gp} {Q : DK} (ha : Asc a) (hb : Asc b) (q : Q (.bl (decide (a = b))) G) : oEq (.str a) (.str b) G Q := by
  simp only [oEq, toPy, (shp_str (n := 0) ha).shaped (by decide), (shp_str (n := 0) hb).shaped (by decide), eqv_ss, true_and]
  exact q
theorem ne_ss {a b : Str} {G : Gp} {Q : DK} (ha : Asc a) (hb : Asc b) (q : Q (.bl (!decide (a = b))) G) : oNe (.str a) (.str b) G Q := by
  simp only [oNe, toPy, (shp_str (n := 0) ha).shaped (by decide), (shp_str (n := 0) hb).shaped (by decide), eqv_ss, true_and]
  exact q
theorem shp_pp {n : Nat} (pp : Paper) : Shp (n + 2) (.list (pp.map fun x => PyData.tuple [.int x.1, .int x.2])) := shp_list fun d hd => by
  obtain ⟨x, _, rfl⟩ := List.mem_map.mp hd
  exact shp_tuple fun y hy => by
    simp at hy
    rcases hy with rfl | rfl <;> exact shp_int _
theorem toPys_pp (G : Gp) (pp : Paper) : toPys G (pp.map qD) = some (pp.map fun x => PyData.tuple [.int x.1, .int x.2]) := toPys_map (fun x => by simp [qD]) pp
end DL
set_option Elab.async false
set_option linter.all false
set_option maxRecDepth 100000
set_option maxHeartbeats 4000000
namespace DL
open PySem PySem.Spec PyProof.Rows L2 LN
end DL
set_option Elab.async false
set_option linter.all false
set_option maxRecDepth 100000
set_option maxHeartbeats 4000000
namespace DL
open PySem PySem.Spec PyProof.Rows L2 LN
end DL
set_option Elab.async false
set_option linter.all false
set_option maxRecDepth 100000
set_option maxHeartbeats 4000000
namespace DL
open PySem PySem.Spec PyProof.Rows L2 LN
end DL
set_option Elab.async false
set_option linter.all false
set_option maxRecDepth 100000
set_option maxHeartbeats 4000000
namespace DL
open PySem PySem.Spec PyProof.Rows L2 LN
theorem range_cut {n i : Nat} (h : i < n) : List.range n = List.range i ++ i :: List.range' (i + 1) (n - i - 1) := by
  rw [List.range_eq_range', List.range_eq_range', show n = i + (1 + (n - i - 1)) from by omega, ← List.range'_append_1, ← List.range'_append_1]
  simp
theorem map_take {bk : List Stretch} {i : Nat} (h : i < bk.length) : (List.range i).map (st bk) = bk.take i ∧ (List.range' (i + 1) (bk.length - i - 1)).map (st bk) = bk.drop (i + 1) := by
  have e := map_range_st bk
  rw [range_cut h, List.map_append, List.map_cons] at e
  have l1 : ((List.range i).map (st bk)).length = (bk.take i).length := by simp; omega
  have e3 := List.append_inj (e.trans (bk_split h)) l1
  exact ⟨e3.1, (List.cons.inj e3.2).2⟩
end DL
set_option Elab.async false
set_option linter.all false
set_option maxRecDepth 100000
set_option maxHeartbeats 4000000
namespace DL
open PySem PySem.Spec PyProof.Rows L2 LN
end DL
set_option Elab.async false
set_option linter.all false
set_option maxRecDepth 100000
set_option maxHeartbeats 4000000
namespace DL
open PySem PySem.Spec PyProof.Rows L2 LamX
def lePB (bs : Nat → Int) : Nat → Nat → Bool := fun p q => decide (bs p < bs q ∨ (bs p = bs q ∧ (p : Int) ≤ (q : Int)))
def begins (bk : List Stretch) (l : List Nat) : List Nat := l.mergeSort (lePB fun j => (st bk j).b)
@[simp] def eBeg (i : Nat) (f q : Str) (ea : EE) : EE := fun s G Q => ea s G fun x G1 => ∃ (bk : List Stretch) (l : List Nat) (tab : Addr), s[i]? = some (some (.lst (bk.map Stretch.d))) ∧ lkL G1 x = some (nD l) ∧ l.length ≤ 1000000 ∧ bk.length ≤ 1000000 ∧ (∀ j ∈ l, j < bk.length) ∧ G1 tab = some (.tbl f q tab) ∧ Q (.lst (nD (begins bk l))) G1
end DL
set_option Elab.async false
set_option linter.all false
set_option maxRecDepth 100000
set_option maxHeartbeats 4000000
namespace DL
open PySem PySem.Spec PyProof.Rows L2 LN
end DL
set_option Elab.async false
set_option linter.all false
set_option maxRecDepth 100000
set_option maxHeartbeats 4000000
namespace DL
open PySem PySem.Spec PyProof.Rows L2 LN
end DL
set_option Elab.async false
set_option linter.all false
set_option maxRecDepth 100000
set_option maxHeartbeats 4000000
namespace DL
open PySem PySem.Spec PyProof.Rows L2 LN
theorem app_ref {q : Addr} {ds : List D} {y : D} {G : Gp} {Q : DK} (h : G q = some (.lst ds)) (hl : ds.length ≤ 1000000) (k : Q .non (gput G q (.lst (ds ++ [y])))) : mApp (.ref q) [y] G Q := by
  simp only [mApp, h]
  exact ⟨by rw [sizeLine_eq]; omega, k⟩
end DL
set_option Elab.async false
set_option linter.all false
set_option maxRecDepth 100000
set_option maxHeartbeats 4000000
namespace DL
open PySem PySem.Spec PyProof.Rows L2 LN
end DL
set_option Elab.async false
set_option linter.all false
set_option maxRecDepth 100000
set_option maxHeartbeats 4000000
namespace DL
open PySem PySem.Spec PyProof.Rows L2 LN
end DL
set_option Elab.async false
set_option linter.all false
set_option maxRecDepth 100000
set_option maxHeartbeats 4000000
namespace DL
open PySem PySem.Spec PyProof.Rows L2 LN
end DL
set_option Elab.async false
set_option linter.all false
set_option maxRecDepth 100000
set_option maxHeartbeats 4000000
namespace DL
open PySem PySem.Spec PyProof.Rows L2 LN
theorem eq_lists {a b : List Nat} {G : Gp} {Q : DK} (q : Q (.bl (decide (a = b))) G) : oEq (.lst (nD a)) (.lst (nD b)) G Q := by
  have e : ∀ l : List Nat, toPy G (.lst (nD l)) = some (.list (l.map fun (i : Nat) => PyData.int (i : Int))) := fun l => by simp [toPys_nD]
  simp only [oEq, e, (shp_nats (l := a) (n := 0)).shaped (by decide), (shp_nats (l := b) (n := 0)).shaped (by decide), eqv_nats, true_and]
  exact q
theorem ne_lists {a b : List Nat} {G : Gp} {Q : DK} (q : Q (.bl (!decide (a = b))) G) : oNe (.lst (nD a)) (.lst (nD b)) G Q := by
  have e : ∀ l : List Nat, toPy G (.lst (nD l)) = some (.list (l.map fun (i : Nat) => PyData.int (i : Int))) := fun l => by simp [toPys_nD]
  simp only [oNe, e, (shp_nats (l := a) (n := 0)).shaped (by decide), (shp_nats (l := b) (n := 0)).shaped (by decide), eqv_nats, true_and]
  exact q
end DL
set_option Elab.async false
set_option linter.all false
set_option maxRecDepth 100000
set_option maxHeartbeats 4000000
namespace DL
open PySem PySem.Spec PyProof.Rows L2 LN
end DL
set_option Elab.async false
set_option linter.all false
set_option maxRecDepth 100000
set_option maxHeartbeats 4000000
namespace DL
open PySem PySem.Spec PyProof.Rows L2 LN
end DL
set_option Elab.async false
set_option linter.all false
set_option maxRecDepth 100000
set_option maxHeartbeats 4000000
namespace DL
open PySem PySem.Spec PyProof.Rows L2 LN
end DL
set_option Elab.async false
set_option linter.all false
set_option maxRecDepth 100000
set_option maxHeartbeats 4000000
namespace DL
open PySem PySem.Spec PyProof.Rows L2 LamX
abbrev RowI := Int × Int × Int
def rowI (r : RowI) : D := .tup [.int r.1, .int r.2.1, .int r.2.2]
def leRI : RowI → RowI → Bool := fun p q => decide (p.1 < q.1 ∨ (p.1 = q.1 ∧ p.2.1 ≤ q.2.1))
@[simp] def eRows (f q : Str) (ea : EE) : EE := fun s G Q => ea s G fun x G1 => ∃ (l : List RowI) (tab : Addr), x = .lst (l.map rowI) ∧ l.length ≤ 1000000 ∧ G1 tab = some (.tbl f q tab) ∧ Q (.lst ((l.mergeSort leRI).map rowI)) G1
end DL
set_option Elab.async false
set_option linter.all false
set_option maxRecDepth 100000
set_option maxHeartbeats 4000000
namespace DL
open PySem PySem.Spec PyProof.Rows L2 LN
end DL
set_option Elab.async false
set_option linter.all false
set_option maxRecDepth 100000
set_option maxHeartbeats 4000000
namespace DL
open PySem PySem.Spec PyProof.Rows L2
end DL
set_option Elab.async false
set_option linter.all false
set_option maxRecDepth 100000
set_option maxHeartbeats 4000000
namespace DL
open PySem PySem.Spec PyProof.Rows L2 LN
instance : DecidableEq Stretch := fun s t => decidable_of_iff (s.name = t.name ∧ s.b = t.b ∧ s.e = t.e ∧ s.w = t.w) (by cases s; cases t; simp)
end DL
set_option Elab.async false
set_option linter.all false
set_option maxRecDepth 100000
set_option maxHeartbeats 4000000
namespace DL
open PySem PySem.Spec PyProof.Rows L2 LN
end DL
set_option Elab.async false
set_option linter.all false
set_option maxRecDepth 100000
set_option maxHeartbeats 4000000
namespace DL
open PySem PySem.Spec PyProof.Rows L2 LN
end DL
set_option Elab.async false
set_option linter.all false
set_option maxRecDepth 100000
set_option maxHeartbeats 4000000
namespace DL
open PySem PySem.Spec PyProof.Rows L2
@[simp] def sPar (i j : Nat) (ea : EA) : ES := fun N s G => ea s G fun ds G1 => match ds with
  | [v, w] => N.nx ((s.set i (some v)).set j (some w)) G1
  | _ => False
end DL
set_option Elab.async false
set_option linter.all false
set_option maxRecDepth 100000
set_option maxHeartbeats 4000000
namespace DL
open PySem PySem.Spec PyProof.Rows L2 LN
end DL
set_option Elab.async false
set_option linter.all false
set_option maxRecDepth 100000
set_option maxHeartbeats 4000000
namespace L2
open PySem PySem.Spec PyProof.Rows
end L2
namespace DL
open PySem PySem.Spec PyProof.Rows L2
@[simp] def oRepT : OD := fun x y G Q => match x, y with
  | .str z, .int k => 1 ≤ k ∧ k ≤ 1000 ∧ 0 < z.length ∧ z.length ≤ 1000 ∧ Q (.str (repS z k.toNat)) G
  | _, _ => False
end DL
set_option Elab.async false
set_option linter.all false
set_option maxRecDepth 100000
set_option maxHeartbeats 4000000
namespace DL
open PySem L2
end DL
set_option Elab.async false
set_option linter.all false
set_option maxRecDepth 100000
set_option maxHeartbeats 4000000
namespace DL
open PySem PySem.Spec PyProof.Rows L2 LN
def All (P : D → Prop) (L : List D) : Prop := ∀ d ∈ L, P d
theorem all_cons {P : D → Prop} {d : D} {L : List D} (h : P d) (hl : All P L) : All P (d :: L) := fun e he => by
  rcases List.mem_cons.mp he with rfl | q
  · exact h
  · exact hl e q
/-- sorted(list of pairs of numbers) -/
def q2 (x : Int × Int) : PyData := .tuple [.int x.1, .int x.2]
end DL
set_option Elab.async false
set_option linter.all false
set_option maxRecDepth 100000
set_option maxHeartbeats 4000000
namespace DL
open PySem PySem.Spec PyProof.Rows L2
@[simp] def isStr : D → Prop
  | .str _ => True
  | _ => False
/-- o.m(), o.m(y) of a text -/
@[simp] def eM0 (r : UD) (to : EE) : EE := fun s G Q => to s G fun x G1 => isStr x ∧ r x G1 Q
@[simp] def eM1 (r : OD) (to te : EE) : EE := fun s G Q => to s G fun x G1 => isStr x ∧ te s G1 fun y G2 => r x y G2 Q
@[simp] def eFmt (te : EE) : EE := fun s G Q => te s G fun x G1 => match x with
  | .str y => y.length ≤ 16777216 ∧ Q (.str y) G1
  | .int i => i.natAbs.log2 < 1920 ∧ Q (.str (toString i)) G1
  | _ => False
@[simp] def eJs : List EE → Str → EE
  | [], acc => fun _ G Q => Q (.str acc) G
  | t :: ts, acc => fun s G Q => t s G fun x G1 => match x with
    | .str y => (acc ++ y).length ≤ 16777216 ∧ eJs ts (acc ++ y) s G1 Q
    | _ => False
@[simp] def cMax3 : CD := fun xs G Q => match xs with
  | [.int i, .int j, .int k] => Q (.int (max i (max j k))) G
  | _ => False
end DL
set_option Elab.async false
set_option linter.all false
set_option maxRecDepth 100000
set_option maxHeartbeats 4000000
namespace DL
open PySem PySem.Spec PyProof.Rows L2
end DL
set_option Elab.async false
set_option linter.all false
set_option maxRecDepth 100000
set_option maxHeartbeats 4000000
namespace DL
open PySem PySem.Spec PyProof.Rows L2 LN
end DL
set_option Elab.async false
set_option linter.all false
set_option maxRecDepth 100000
set_option maxHeartbeats 4000000
namespace DL
open PySem PySem.Spec PyProof.Rows L2 LN
end DL
set_option Elab.async false
set_option linter.all false
set_option maxRecDepth 100000
set_option maxHeartbeats 4000000
namespace DL
open PySem PySem.Spec PyProof.Rows L2 LN
end DL
set_option Elab.async false
set_option linter.all false
set_option maxRecDepth 100000
set_option maxHeartbeats 4000000
namespace DL
open PySem PySem.Spec PyProof.Rows L2 LN
abbrev bl : Str := Str.ofString " "
end DL
set_option Elab.async false
set_option linter.all false
set_option maxRecDepth 100000
set_option maxHeartbeats 4000000
namespace DL
open PySem PySem.Spec PyProof.Rows L2
abbrev EIX := Sd → Gp → (List D → (Gp → Prop) → Gp → Prop) → Ux → Prop
@[simp] def iLX (te : EX) : EIX := fun s G Q U => te s G (fun x G1 => match lkL G1 x with
  | some ds => Q ds (stays x ds) G1
  | none => False) U
@[simp] def iEX (ta : EAX) : EIX := fun s G Q U => ta s G (fun xs G1 => match xs with
  | [x] => (match lkL G1 x with
    | some ds => Q (enumD ds) (stays x ds) G1
    | none => False)
  | _ => False) U
@[simp] def sForX (ti : EIX) (t : Tg) (tb : ES) : ES := fun N s G => ti s G (fun ds Kp G1 => forW t tb Kp N ds s G1) fun x G1 => N.xr x s G1
end DL
set_option Elab.async false
set_option linter.all false
set_option maxRecDepth 100000
set_option maxHeartbeats 4000000
namespace DL
open PySem PySem.Spec PyProof.Rows L2 LN
open NumText (AllDigits digitsVal)
theorem blsD_f {α : Type} {f : α → Bool} : ∀ l : List α, blsD (l.map fun x => D.bl (f x)) = some (l.map f)
  | [] => rfl
  | x :: l => by rw [List.map_cons, blsD, blsD_f l]; rfl
end DL
set_option Elab.async false
set_option linter.all false
set_option maxRecDepth 100000
set_option maxHeartbeats 4000000
namespace DL
open PySem PySem.Spec PyProof.Rows L2 LN
end DL
set_option Elab.async false
set_option linter.all false
set_option maxRecDepth 100000
set_option maxHeartbeats 4000000
namespace DL
open PySem PySem.Spec PyProof.Rows L2 LN
end DL
set_option Elab.async false
set_option linter.all false
set_option maxRecDepth 100000
set_option maxHeartbeats 4000000
namespace DL
open PySem PySem.Spec PyProof.Rows L2 LN
/-- no run without a line feed is longer -/
def RwL (R : Nat) (l : List Nat) : Prop := ∀ a m b, l = a ++ m ++ b → 10 ∉ m → m.length ≤ R
theorem RwL.mono {R R' : Nat} {l : List Nat} (h : RwL R l) (hr : R ≤ R') : RwL R' l := fun a m b e n => Nat.le_trans (h a m b e n) hr
theorem RwL.len (l : List Nat) : RwL l.length l := fun a m b e _ => by
  have := congrArg List.length e
  simp at this
  omega
theorem RwL.sub {R : Nat} {l a m b : List Nat} (h : RwL R l) (e : l = a ++ m ++ b) : RwL R m := fun a2 m2 b2 e2 n => h (a ++ a2) m2 (b2 ++ b) (by rw [e, e2]; simp) n
theorem RwL.take {R k : Nat} {l : List Nat} (h : RwL R l) : RwL R (l.take k) := h.sub (a := []) (b := l.drop k) (by simp)
theorem RwL.drop {R k : Nat} {l : List Nat} (h : RwL R l) : RwL R (l.drop k) := h.sub (a := l.take k) (b := []) (by simp)
structure TR (L R : Nat) (t : Str) : Prop where
  len : t.length ≤ L
  asc : Asc t
  rw' : RwL R t.cps.toList
theorem TR.mono {L R L' R' : Nat} {t : Str} (h : TR L R t) (h1 : L ≤ L') (h2 : R ≤ R') : TR L' R' t := ⟨by have := h.len; omega, h.asc, h.rw'.mono h2⟩
end DL
set_option Elab.async false
set_option linter.all false
set_option maxRecDepth 100000
set_option maxHeartbeats 4000000
namespace DL
open PySem PySem.Spec PyProof.Rows L2
end DL
set_option Elab.async false
set_option linter.all false
set_option maxRecDepth 100000
set_option maxHeartbeats 4000000
namespace DL
open PySem PySem.Spec PyProof.Rows L2 LN
def F__law_is_light : Sf := fun ds G Q => ∃ (n : Int) (rs : List Stretch) (l : List Nat) (b : Int), ds = [ringD n rs, .lst (nD l), .int b] ∧ RgOk n rs ∧ (∀ i ∈ l, i < rs.length) ∧ ∀ c : Bool, (c = true ↔ ∀ m : Int, 0 ≤ m → m < n → (loadOn n rs l m : Int) ≤ b) → Q (.bl c) G
def r__law_moments : ES :=
  (sSeq (sAsg (eOp oIx (eOp oIx (eVar 0) (eC (.int 1))) (eVar 1)) (.tp [2, 3, 4, 5]))
  (sRet (eLc (iR1 (eCons (eVar 4) eNil)) (.nm 6) eYes (eOp oMod (eOp oAdd (eVar 3) (eVar 6)) (eOp oIx (eVar 0) (eC (.int 0)))) [6])))
def r__law_is_light_L1 : ES :=
  (sSetIx (eOp oAdd (eOp oIx (eVar 3) (eVar 5)) (eC (.int 1))) (eVar 3) (eVar 5))
def r__law_is_light_L2 : ES :=
  (sFor (iL (eCall F__law_moments (eCons (eVar 0) (eCons (eVar 4) eNil)))) (.nm 5) r__law_is_light_L1)
def r__law_is_light : ES :=
  (sSeq (sAsg (eOp oRepO (eLst (eCons (eC (.int 0)) eNil)) (eOp oIx (eVar 0) (eC (.int 0)))) (.nm 3))
  (sSeq (sFor (iL (eVar 1)) (.nm 4) r__law_is_light_L2)
  (sRet (eOp oLe (eCB cMax (eCons (eVar 3) eNil)) (eVar 2)))))
theorem d__law_moments (ds : List D) (G : Gp) (Q : DK) (h : F__law_moments ds G Q) : r__law_moments (fin G Q) (startD 7 ds) G := by
  obtain ⟨n, rs, i, rfl, hr, hi, k⟩ := h
  have hs := hr.all _ (st_mem hi)
  have h1 := hs.e1
  have h2 := hs.e2
  have h3 := hr.n2
  have h4 := hr.n1
  refine seq_gen fun W hW => ?_
  simp [startD, bk_at hi]
  simp [Stretch.d]
  refine hW _ _ ?_
  simp
  refine ⟨by omega, by omega, ?_⟩
  unfold rngD
  refine compW_all (f := fun k : Nat => D.int (((st rs i).b + (k : Int)) % n)) True.intro (List.range (st rs i).e.toNat) [] (fun j hj => ⟨_, rfl, fun R r => ?_⟩) ?_
  · simp
    exact ⟨by omega, r⟩
  · refine fin_id ?_
    simpa [iD, momR, Function.comp_def] using k
theorem momR_ok {n : Int} {rs : List Stretch} {i : Nat} {G : Gp} {Q : DK} (hr : RgOk n rs) (hi : i < rs.length) (h : Q (.lst (iD (momR n (st rs i)))) G) : F__law_moments [ringD n rs, .int (i : Nat)] G Q := ⟨n, rs, i, rfl, hr, hi, h⟩
theorem lightL_ok {n : Int} {rs : List Stretch} {l : List Nat} {b : Int} {G : Gp} {Q : DK} (hr : RgOk n rs) (hl : ∀ i ∈ l, i < rs.length) (k : ∀ c : Bool, (c = true ↔ ∀ m : Int, 0 ≤ m → m < n → (loadOn n rs l m : Int) ≤ b) → Q (.bl c) G) : F__law_is_light [ringD n rs, .lst (nD l), .int b] G Q := ⟨n, rs, l, b, rfl, hr, hl, k⟩
theorem set_map {N j : Nat} {f : Nat → Int} {v : Int} (hj : j < N) : ((List.range N).map fun i => D.int (f i)).set j (.int v) = (List.range N).map fun i => D.int (if i = j then v else f i) := by
  apply List.ext_getElem (by simp)
  intro i h1 h2
  simp at h1 h2
  rw [List.getElem_set]
  simp
  by_cases h : i = j
  · simp [h]
  · simp [h, Ne.symm h]
theorem at_map {N : Nat} {f : Nat → Int} {m : Int} (m0 : 0 ≤ m) (m1 : m < N) : atI ((List.range N).map fun i => D.int (f i)) m = some (.int (f m.toNat)) := by
  obtain ⟨j, rfl⟩ := Int.eq_ofNat_of_zero_le m0
  refine atI_nat ?_
  rw [List.getElem?_map, List.getElem?_range (by omega)]
  rfl
theorem d__law_is_light (ds : List D) (G : Gp) (Q : DK) (h : F__law_is_light ds G Q) : r__law_is_light (fin G Q) (startD 6 ds) G := by
  obtain ⟨n, rs, l, b, rfl, hr, hl, k⟩ := h
  have n1 := hr.n1
  have n2 := hr.n2
  refine seq_gen fun W hW => ?_
  simp [startD]
  refine ⟨by omega, by omega, by omega, fun q hq => hW _ _ (seq_gen fun W2 hW2 => ?_)⟩
  have e0 : (List.replicate n.toNat (D.int 0)) = (List.range n.toNat).map fun (i : Nat) => D.int ((loadOn n rs [] (i : Int) : Nat) : Int) := by
    apply List.ext_getElem (by simp)
    intro i h1 h2
    simp [loadOn]
  rw [e0]
  simp
  refine forW_ind (g := fun (i : Nat) => D.int (i : Int)) (fun r s G' => ∃ (a : List Nat) (o4 o5 : Option D), s = [some (ringD n rs), some (.lst (nD l)), some (.int b), some (.ref q), o4, o5] ∧ G' = gput G q (.lst ((List.range n.toNat).map fun (i : Nat) => D.int ((loadOn n rs a (i : Int) : Nat) : Int))) ∧ a ++ r = l) (fun _ _ _ _ => trivial) ?_ ?_ l _ _ ⟨[], none, none, rfl, rfl, rfl⟩
  · rintro i r s G' W ⟨a, o4, o5, rfl, rfl, e⟩ hW
    have hi : i < rs.length := hl i (by rw [← e]; simp)
    have hs := hr.all _ (st_mem hi)
    simp [r__law_is_light_L2]
    refine momR_ok hr hi ?_
    simp [iD]
    refine forW_ind (g := D.int) (fun r s G' => ∃ (c : List Int) (o5 : Option D), s = [some (ringD n rs), some (.lst (nD l)), some (.int b), some (.ref q), some (.int (i : Int)), o5] ∧ G' = gput G q (.lst ((List.range n.toNat).map fun (j : Nat) => D.int (((loadOn n rs a (j : Int) : Nat) : Int) + (c.count (j : Int) : Nat)))) ∧ c ++ r = momR n (st rs i)) (fun _ _ _ _ => trivial) ?_ ?_ _ _ _ ⟨[], _, rfl, by simp, rfl⟩
    · rintro m r2 s G' W ⟨c, o5, rfl, rfl, e2⟩ hW
      obtain ⟨m0, m1⟩ := momR_mem (by omega) (show m ∈ momR n (st rs i) by rw [← e2]; simp)
      have m2 : m < n.toNat := by omega
      have ix : ixN n.toNat m = some m.toNat := by
        unfold ixN
        rw [if_pos (by omega)]
        all_goals (try simp <;> omega)
      simp [r__law_is_light_L1, gput_same, gput_gput, at_map m0 m2, ix]
      refine hW _ _ ⟨c ++ [m], _, rfl, ?_, by simpa using e2⟩
      congr 2
      rw [set_map (f := fun (j : Nat) => ((loadOn n rs a (j : Int) : Nat) : Int) + (c.count (j : Int) : Nat)) (by omega)]
      refine List.map_congr_left fun j hj => ?_
      rw [List.count_append]
      by_cases h : j = m.toNat
      · subst h
        have e3 : ((m.toNat : Nat) : Int) = m := Int.toNat_of_nonneg m0
        have e4 : max m 0 = m := by omega
        simp only [e3, if_true]
        simp [e4]
        omega
      · have : (j : Int) ≠ m := by omega
        simp [h, List.count_singleton, Ne.symm this]
    · rintro s G' ⟨c, o5, rfl, rfl, e2⟩
      rw [List.append_nil] at e2
      refine hW _ _ ⟨a ++ [i], _, _, rfl, ?_, by simpa using e⟩
      congr 2
      refine List.map_congr_left fun j hj => ?_
      rw [List.mem_range] at hj
      rw [e2, loadR_snoc, (momR_nodup (by omega) hs.e2).count]
      have := momR_iff (n := n) (s := st rs i) (m := (j : Int)) (by omega) (by omega) (by omega)
      by_cases h : overR n (st rs i) j = true
      · rw [if_pos (this.mpr h), if_pos h]; simp
      · rw [if_neg (fun q => h (this.mp q)), if_neg h]; simp
  · rintro s G' ⟨a, o4, o5, rfl, rfl, e⟩
    rw [List.append_nil] at e
    subst e
    refine hW2 _ _ ?_
    simp [gput_same]
    rw [intsD_g (f := fun i : Nat => ((loadOn n rs a (i : Int) : Nat) : Int))]
    simp
    refine ⟨by omega, fun x hx hall => ?_⟩
    refine fin_back (gsub hq) (refIn_plain rfl) (k _ ?_)
    rw [decide_eq_true_iff]
    constructor
    · intro h m m0 m1
      have := hall m.toNat (by omega)
      rw [Int.toNat_of_nonneg m0] at this
      omega
    · intro h
      have := h (x : Int) (by omega) (by omega)
      omega
structure KvR (n : Int) (kv : List (Int × Int)) : Prop where
  nd : (kv.map (·.1)).Nodup
  lo : ∀ x ∈ kv, 0 ≤ x.1
  hi : ∀ x ∈ kv, x.1 < n
  p1 : ∀ x ∈ kv, 1 ≤ x.2
  p2 : ∀ x ∈ kv, x.2 ≤ 10000000000000
theorem kvr_put {n k v : Int} {kv : List (Int × Int)} (h : KvR n kv) (h0 : 0 ≤ k) (h1 : k < n) (h2 : 1 ≤ v) (h3 : v ≤ 10000000000000) : KvR n (putI kv k v) := by
  refine ⟨putI_nodup h.nd, fun x hx => ?_, fun x hx => ?_, fun x hx => ?_, fun x hx => ?_⟩
  · rcases putI_mem hx with q | rfl
    · exact h.lo x q
    · exact h0
  · rcases putI_mem hx with q | rfl
    · exact h.hi x q
    · exact h1
  · rcases putI_mem hx with q | rfl
    · exact h.p1 x q
    · exact h2
  · rcases putI_mem hx with q | rfl
    · exact h.p2 x q
    · exact h3
end DL
set_option Elab.async false
set_option linter.all false
set_option maxRecDepth 100000
set_option maxHeartbeats 4000000
namespace DL
open PySem PySem.Spec PyProof.Rows L2
section
variable {X : Cx} {CX : CXT} {k : Nat} {f C : Addr} {fd : FuncData} {ps : List Str} {sp : Sp} {E : L2.St → XK} {x m : Str} {p pos apos : Pos} {e o : Expr} {es : List Expr} {ta : TE} {t : TA}
def tMethX (C : Addr) (m : Str) (sp : Sp) (E : L2.St → XK) (ta : TE) (t : TA) : TE := fun σ H Q => ta σ H fun x H1 => ∃ a dx fs, x = .ref a ∧ H1 a = some (.ins C dx fs) ∧ fs.lookup m = none ∧ t σ H1 fun vs H2 => sp (x :: vs) H2 Q (E σ)
theorem pe_methX {pl : Sem Bool} (he : PE X o ta) (c : Cls X.K C) (hm : Meth X.K C m f) (F : FnOk X.prog X.w X.K X.mg X.base CX k f fd ps sp) (hr : Room k X.A) (hb : Binds X.K fd ps []) (hx : ∀ σ, PassesAt CX X σ (E σ)) (ha : PA X (e :: es) t)
    (hst : starEach (e :: es) X.env = (false, eval e X.env) :: starEach es X.env := by rfl) (hpl : (backTo pos (starEach es X.env)).any (·.1) = false := by rfl)
    (ht : eval (.Call (.Attribute o m apos) (e :: es) [] pos) X.env = (do
      let ov ← eval o X.env
      standAt apos.atName
      let (f, first) ← holding [ov] (getMethod ov m pl)
      callWith pos f first (backTo pos (starEach (e :: es) X.env)) (backToKw pos (keywordEach [] X.env))) := by rfl) :
    PE X (.Call (.Attribute o m apos) (e :: es) [] pos) (tMethX C m sp E ta t) := by
  refine ⟨fun pins s σ H Q I h => ?_⟩
  refine PySem.W.methodCall_KW (pl := pl) (thn (he.run pins s σ H _ I h) fun u s1 ⟨x, H1, I1, rx, a, dx, fs, ex, ea, l, q⟩ => ?_) ht
  subst ex
  obtain rfl : u = Value.ref a := rx
  refine getmeth_ok I1 ea c hm l ?_
  refine PySem.W.callWith_K (first := [.ref a]) (h₀ := X.base) I.ok.mod.kin hm.kp (thn (ha.run pos pins s1 σ H1 _ I1 q) fun us s2 ⟨vs, H2, I2, r, q2⟩ => ⟨I2.kIn, ?_⟩) hst hpl
  exact run_fnS (us := .ref a :: us) (vs := .ref a :: vs) F hr hb (hx σ) I2 (.cons rfl r) q2
end
/-- o.m(..), where m may raise -/
@[simp] def eMethX (C m : Str) (F : Sx) (to : EE) (t : EAX) : EX := fun s G Q U => to s G fun x G1 => isIns C m G1 x ∧ t s G1 (fun xs G2 => F (x :: xs) G2 Q U) U
/-- C(..), where __init__ may raise -/
@[simp] def eMakeX (C : Str) (F : Sx) (t : EAX) : EX := fun s G Q U => t s G (fun xs G1 => ∀ x dx, G1 x = none → F (.ref x :: xs) (gput G1 x (.ins C dx [] [])) (fun d G2 => d = .non ∧ Q (.ref x) G2) U) U
section
variable {X : Cx} {Y : Wx} {K : PySem.W.Frag} {e : Expr} {es : List Expr} {pos : Pos} {C m : Str}
theorem lex_meth {n : Nat} {F : Sx} {to : TE} {eo : EE} {t : TA} {ea : EAX} (ho : LE K to eo) (ha : LAx K Y n t ea) : LEx K Y (tMethX (He.ga K C) m (LfX K (n + 1) F) (WE Y.w) to t) (eMethX C m F eo ea) := fun P s G Q U σ H R h rl k kx => by
  refine ho P s G _ σ H _ h rl fun x G1 u H1 s1 w1 r1 h1 => ?_
  obtain ⟨a, dx, fs, rfl, e1, e2⟩ := is_ins w1 r1 h1.1
  refine ⟨a, dx, fs, rfl, e1, e2, ?_⟩
  refine ha P s G1 _ U σ H1 _ h1.2 (rl.step s1 w1) (fun xs G2 us H2 s2 w2 r2 hn h2 => ?_) fun x G' cls d H' st w rx u => kx x G' cls d H' (s1.trans st) w rx u
  refine ⟨?_, P, x :: xs, G2, Q, U, w2, reps_cons (r1.step s2) r2, h2, fun d G' v H' st w' r' q' => k d G' v H' ((s1.trans s2).trans st) w' r' q', fun x G' cls d H' st w rx u => kx x G' cls d H' ((s1.trans s2).trans st) w rx u⟩
  rw [List.length_cons, ← r2.length, hn]
structure CalMX (P : Program) (w : World) (K : PySem.W.Frag) (mg : Str → Option Value) (base : Heap) (k : Nat) (C m : Str) (ps : List Str) (F : Sx) : Prop where
  ex : ∃ fd, FnOk P w K mg base (L2.CX P w) k (He.ma K (He.ga K C) m) fd ps (LfX K ps.length F) ∧ Cls K (He.ga K C) ∧ Meth K (He.ga K C) m (He.ma K (He.ga K C) m) ∧ Binds K fd ps []
theorem jx_meth {k : Nat} {ps : List Str} {F : Sx} {o : Expr} {eo : EE} {ea : EAX} {apos : Pos} {pl : Sem Bool} (c : CalMX X.prog X.w K X.mg X.base k C m ps F) (hr : Room k X.A) (tk : Takes X Y.w) (ho : JE X o eo) (ha : JAx X Y (e :: es) ea) (hK : X.K = K := by rfl) (hlen : (e :: es).length + 1 = ps.length := by rfl)
    (hst : starEach (e :: es) X.env = (false, eval e X.env) :: starEach es X.env := by rfl) (hpl : (backTo pos (starEach es X.env)).any (·.1) = false := by rfl)
    (ht : eval (.Call (.Attribute o m apos) (e :: es) [] pos) X.env = (do let ov ← eval o X.env; standAt apos.atName; let (f, first) ← holding [ov] (getMethod ov m pl); callWith pos f first (backTo pos (starEach (e :: es) X.env)) (backToKw pos (keywordEach [] X.env))) := by rfl) :
    JEx X Y (.Call (.Attribute o m apos) (e :: es) [] pos) (eMethX C m F eo ea) := by
  subst hK
  obtain ⟨fd, h1, h2, h3, h4⟩ := c.ex
  rw [← hlen] at h1
  obtain ⟨a, b⟩ := ha
  exact ⟨pe_methX ho.pe h2 h3 h1 hr h4 (fun σ => passAt tk σ) a hst hpl ht, lex_meth ho.le b⟩
end
theorem calMX_ok {P : Program} {w : World} {K : PySem.W.Frag} {mg : Str → Option Value} {base : Heap} {ps : List Str} {k : Nat} {F : Sx} (c : Cls K (He.ga K C)) (hm : Meth K (He.ga K C) m (He.ma K (He.ga K C) m)) (h : ∃ fd, FnOk P w K mg base (L2.CX P w) k (He.ma K (He.ga K C) m) fd ps (LfX K ps.length F) ∧ Binds K fd ps []) : CalMX P w K mg base k C m ps F :=
  let ⟨fd, a, b⟩ := h; ⟨fd, a, c, hm, b⟩
theorem fk_methX {P : Program} {w : World} {K : PySem.W.Frag} {mg : Str → Option Value} {base : Heap} {q : Str} {st : Stmt} {N ps : List Str} {k : Nat} {F : Sx} {es : ES} (D : DfM K C m q st) (S : FnScope N ps (defScope st))
    (hb : ∀ (kV doc pm : Value) (an : Option Addr) (cdv ct : Value) (us : List Value), us.length = ps.length → bindArgs (PySem.W.fnOf m q (defArgs st) (defBody st) (defScope st) .none kV doc pm an cdv ct) ⟨us, []⟩ = pure (ps.zip us))
    (hJ : ∀ (f : Addr) (cdv : Value) (A : Around) (outer : List Env) (s : Shared) (H : Hp) (E : XK), Room k (A.deeper (envOfC q (defScope st) s.heap.objs.size f cdv)) → Takes (cxOf (L2.CX P w) P w K mg base N q (defScope st) f cdv A outer s H E) (wE E).w →
      PassesOwn (model P w) (A.deeper (envOfC q (defScope st) s.heap.objs.size f cdv)) (envOfC q (defScope st) s.heap.objs.size f cdv) (cxOf (L2.CX P w) P w K mg base N q (defScope st) f cdv A outer s H E).xe → JSs (cxOf (L2.CX P w) P w K mg base N q (defScope st) f cdv A outer s H E) (wE E) (defBody st) es)
    (hR : ∀ ds G Q U, F ds G Q U → es (finX G Q U) (startD N.length ds) G) : ∃ fd, FnOk P w K mg base (L2.CX P w) (k + 1) (He.ma K (He.ga K C) m) fd ps (LfX K ps.length F) ∧ Binds K fd ps [] := by
  obtain ⟨fd, h1⟩ := D.ex
  exact ⟨fd, fkX_ok h1 S (hJ _) hR, h1.bindsN hb⟩
end DL
set_option Elab.async false
set_option linter.all false
set_option maxRecDepth 100000
set_option maxHeartbeats 4000000
namespace DL
open PySem PySem.Spec PyProof.Rows L2 LN
abbrev kKs : List Str := ["stretches", "many", "past", "known"]
def kpO (dx : Addr) (bk : List Stretch) (n : Int) (b : Addr) (kn : D) : GO := .ins "Keeper" dx kKs [.lst (bk.map Stretch.d), .int n, .ref b, kn]
def pkD (x : List Stretch × Int) : D := .tup [.lst (x.1.map Stretch.d), .int x.2]
structure KpAt (G : Gp) (a b dx : Addr) (bk : List Stretch) (n : Int) (kn : D) (ps : List (List Stretch × Int)) : Prop where
  ob : G a = some (kpO dx bk n b kn)
  pa : G b = some (.lst (ps.map pkD))
theorem KpAt.ne {G : Gp} {a b dx : Addr} {bk : List Stretch} {n : Int} {kn : D} {ps : List (List Stretch × Int)} (h : KpAt G a b dx bk n kn ps) : a ≠ b := fun e => by
  have h1 := h.ob
  rw [e, h.pa] at h1
  cases h1
theorem fin_nx {G0 G' : Gp} {Q : DK} {s : Sd} (q : Q .non G') : (fin G0 Q).nx s G' := ⟨.non, G', fz_id, q⟩
theorem finX_nx0 {G0 G' : Gp} {Q : DK} {U : Ux} {s : Sd} (q : Q .non G') : (finX G0 Q U).nx s G' := ⟨.non, G', fz_id, q⟩
theorem eq_nil_of {d : D} {us : List PyData} {n : Nat} {G : Gp} {Q : DK} (e : toPy G d = some (.list us)) (s : Shp n (.list us)) (q : Q (.bl us.isEmpty) G) (hn : n ≤ 64 := by decide) : oEq d (.lst []) G Q := by
  have s2 : Shp 1 (.list []) := shp_list fun x hx => by cases hx
  have e2 : toPy G (.lst []) = some (.list []) := by simp
  simp only [oEq, e, e2, s.shaped hn, s2.shaped (by decide), true_and]
  cases us with
  | nil => rw [eqv_self s2]; exact q
  | cons a l => simpa [PyData.eqv, PyData.eqvAll] using q
end DL
set_option Elab.async false
set_option linter.all false
set_option maxRecDepth 100000
set_option maxHeartbeats 400000
namespace HotY
open PySem PySem.Spec PyProof.Rows HotX
def Raisy (prog : Program) (w : World) (hd : Option Value) (C : List Addr) (h : Heap) : Prop :=
  (∀ b ∈ C, ∃ o, h.get? b = some o) ∧ ∀ (A : Around) (α : Type) (s : Shared) (a : Addr) (oe : Obj) (vs : Array Value) (Q : α → Shared → Prop) (E : Value → Shared → Prop), A.handled = hd → (∀ b ∈ C, ∀ o, h.get? b = some o → s.heap.get? b = some o) → a ∉ C →
    s.heap.get? a = some oe → oe.data = .fields vs → 2 < vs.size → (∀ h2, (∀ b, b ≠ a → h2.get? b = s.heap.get? b) → (∃ o2, h2.get? a = some o2 ∧ o2.cls = oe.cls) → E (.ref a) { s with heap := h2 }) → wpAny (model prog w) A (raiseNew (.ref a) : Sem α) Q E s
section
variable {prog : Program} {w : World} {A : Around} {E : Value → Shared → Prop} {s : Shared}
theorem Raisy.keeps {hd : Option Value} {C : List Addr} {h h' : Heap} (r : Raisy prog w hd C h) (k : ∀ b ∈ C, ∀ o, h.get? b = some o → h'.get? b = some o) : Raisy prog w hd C h' :=
  ⟨fun b hb => let ⟨o, e⟩ := r.1 b hb; ⟨o, k b hb o e⟩, fun A α s a oe vs Q E hh hk => r.2 A α s a oe vs Q E hh fun b hb o e => hk b hb o (k b hb o e)⟩
end
end HotY
set_option Elab.async false
set_option linter.all false
set_option maxRecDepth 100000
set_option maxHeartbeats 4000000
namespace L2
open PySem PySem.Spec PyProof.Rows
/-- an exception is handled, and its contexts C are known -/
def HotQ (X : Cx) : Prop := ∃ C : List Addr, ∀ (pins : List (Addr × Obj)) (σ : St) (H : Hp) (s : Shared), Inv X pins σ H s → HotY.Raisy X.prog X.w X.A.handled C s.heap ∧ ∀ c ∈ C, H c = none ∧ c ∉ frs X.stack ∧ ∀ b, FpOk X pins H b → c ≠ b
structure TurnQ (P : Program) (w : World) (K : PySem.W.Frag) (tg : Expr) (J : It) (fp : List Addr) (it : Addr) (tn : Nat → Heap → Prop) : Prop where
  mem : it ∈ fp
  obj : ∀ i h, tn i h → ∀ b ∈ fp, ∃ o, h.get? b = some o ∧ ∀ v, o.data ≠ .cell v
  keep : ∀ i h h', tn i h → (∀ b ∈ fp, ∀ o, h.get? b = some o → h'.get? b = some o) → tn i h'
  item : ∀ (X : Cx), X.prog = P → X.w = w → X.K = K → HotQ X → ∀ (i : Nat) (pins : List (Addr × Obj)) (s : Shared) (σ : St) (H : Hp) (E : Value → Shared → Prop), Inv X pins σ H s → (∀ b ∈ fp, FpOk X pins H b) → tn i s.heap → J.go i H →
    wpAny (model P w) X.A (pyNext (.ref it)) (fun r s1 => ∃ u, r = some u ∧
      wpAny (model P w) X.A (letOwnedTupleGo tg (.ref it) u) (fun _ s2 => ∃ x H', Inv X pins σ H' s2 ∧ RelV x u ∧ J.yld i H x H' ∧ tn (i + 1) s2.heap ∧ ∀ b ∈ fp, H' b = none) E s1) E s
  done : ∀ (X : Cx), X.prog = P → X.w = w → X.K = K → HotQ X → ∀ (i : Nat) (pins : List (Addr × Obj)) (s : Shared) (σ : St) (H : Hp) (E : Value → Shared → Prop), Inv X pins σ H s → (∀ b ∈ fp, FpOk X pins H b) → tn i s.heap → J.stop i H →
    wpAny (model P w) X.A (pyNext (.ref it)) (fun r s1 => r = none ∧ Inv X pins σ H s1) E s
  self : ∀ (A : Around) (i : Nat) (s : Shared) (Q : Value → Shared → Prop) (E : Value → Shared → Prop), tn i s.heap → Q (.ref it) s → wpAny (model P w) A (pyIter (.ref it)) Q E s
def PIEQ (X : Cx) (pins : List (Addr × Obj)) (σ : St) (tg : Expr) (R : It → Hp → Prop) (itv : Value) (s2 : Shared) : Prop :=
  ∃ (it : Addr) (fp : List Addr) (tn : Nat → Heap → Prop) (J : It) (H' : Hp), itv = .ref it ∧ Inv X pins σ H' s2 ∧ TurnQ X.prog X.w X.K tg J fp it tn ∧ tn 0 s2.heap ∧ (∀ b ∈ fp, FpOk X pins H' b) ∧ R J H'
structure PIQ (X : Cx) (tg iter : Expr) (wi : TI) : Prop where
  run : ∀ (pins : List (Addr × Obj)) (s : Shared) (σ : St) (H : Hp) (R : It → Hp → Prop), Inv X pins σ H s → wi σ H R →
    wpAny (model X.prog X.w) X.A (eval iter X.env) (fun v s1 => wpAny (model X.prog X.w) X.A (pyIter v) (PIEQ X pins σ tg R) X.xe s1) X.xe s
end L2
namespace DL
open PySem L2
inductive JIQ (X : Cx) (tg iter : Expr) (t : EI) : Prop where
  | mk {wi : TI} (a : PIQ X tg iter wi) (b : LI X.K wi t) : JIQ X tg iter t
section
variable {X : Cx}
variable {elt tg iter e : Expr} {es ifs : List Expr} {scope : Scope} {own : List (Str × Nat)} {pos : Pos} {wi : TI} {ei : EI} {g : TG} {t : Tg} {tt : TT} {et : ET} {te : TE} {ee : EE}
theorem JIQ.pi (h : JIQ X tg iter ei) : PIQ X tg iter (upI X.K ei) := by
  obtain ⟨a, b⟩ := h
  exact ⟨fun pins s σ H R I ⟨P, s', G, Q', h1, h2, h3⟩ => a.run pins s σ H R I (b P s' G Q' σ H R h1 h2 h3)⟩
end
end DL
set_option Elab.async false
set_option linter.all false
set_option maxRecDepth 100000
set_option maxHeartbeats 4000000
namespace L2Q
open PySem PySem.Spec PyProof.Rows L2 HotX
abbrev St := L2.St
/-- what is kept of the exception's object -/
def Zq (B : Heap) (H : Hp) (cls : Value) (d : Option Addr) : Obj → Prop := fun o => o.cls = cls ∧ o.dict = d ∧ ∀ vs : Array Value, o.data = .fields vs → vs[2]? = some .none ∨
  ∃ (x1 : Addr) (o1 : Obj) (v1 : Array Value), vs[2]? = some (.ref x1) ∧ B.get? x1 = some o1 ∧ o1.data = .fields v1 ∧ v1[2]? = some .none ∧ H x1 = none
theorem Zq.steady {B : Heap} {H : Hp} {cls : Value} {d : Option Addr} : PXN.Steady1 (Zq B H cls d) := fun o v h => by
  refine ⟨PXN.steady_cls o v h.1, PXN.steady_dict o v h.2.1, ?_⟩
  have h3 := h.2.2
  obtain ⟨c, dd, dt, sl⟩ := o
  cases dt with
  | fields vs0 =>
    intro vs e
    have e2 : vs0.setIfInBounds 1 v = vs := Data.fields.inj e
    have e3 : (vs0.setIfInBounds 1 v)[2]? = vs0[2]? := by
      first
      | exact Array.getElem?_setIfInBounds_ne (by decide)
      | simp [Array.getElem?_setIfInBounds]
    rw [← e2, e3]
    exact h3 vs0 rfl
  | _ =>
    intro vs e
    first
    | exact Data.noConfusion e
    | cases e
theorem Zq.of_n {B : Heap} {H : Hp} {cls : Value} {d : Option Addr} {o : Obj} (h : L2N.Zn cls d o) : Zq B H cls d o := ⟨h.1, h.2.1, fun vs e => .inl (h.2.2 vs e)⟩
/-- an exception in the air of X -/
def XE (X : Cx) (W : WX) (u : Value) (s' : Shared) : Prop :=
  ∃ (a : Addr) (B : Heap) (sI : Shared) (pins : List (Addr × Obj)) (σ : St) (H : Hp) (cls : Value) (d : Option Addr),
    u = .ref a ∧ Inv X pins σ H sI ∧ (∀ b o, sI.heap.get? b = some o → b ∉ frs X.stack → B.get? b = some o) ∧ sI.heap.UpToSlots s'.heap ∧
      Sky B X.stack a (Zq B H cls d) X.env.locals s'.heap ∧ H a = none ∧ s'.os = sI.os ∧ AllBare s'.gens ∧ W cls d σ H
def Takes (X : Cx) (W : WX) : Prop := ∀ u s', XE X W u s' → X.xe u s'
def CX (P : Program) (w : World) (outer : List Env) (H : Hp) (s : Shared) (E : XK) (u : Value) (s' : Shared) : Prop :=
  ∃ (a : Addr) (B : Heap) (H' : Hp) (cls : Value) (d : Option Addr), u = .ref a ∧ HandSPX.FlyingZ B outer a (Zq B H' cls d) s'.heap ∧ HOk P w H' B ∧ UB (frs outer) H H' s.heap B s'.heap ∧ H' a = none ∧ s'.os = s.os ∧ AllBare s'.gens ∧ E cls d H'
theorem sky_imp {B : Heap} {l : List Env} {a : Addr} {Z Z' : Obj → Prop} {L : Addr} {h : Heap} (z : ∀ o, Z o → Z' o) (x : Sky B l a Z L h) : Sky B l a Z' L h := by
  rcases x with ⟨h1, h2, h3, oe, vs, h4, h5, h6⟩ | x | x
  · exact .inl ⟨h1, h2, h3, oe, vs, h4, z _ h5, h6⟩
  · exact .inr (.inl (L2H.flyingZ_imp z x))
  · exact .inr (.inr ⟨x.1, x.2.1, x.2.2.1, L2H.tracedZ_imp z x.2.2.2⟩)
theorem XE.of_n {X : Cx} {W : WX} {u : Value} {s' : Shared} (x : L2N.XE X W u s') : XE X W u s' := by
  obtain ⟨a, B, sI, pins, σ, H, cls, d, e, I, nb, up, sky, r⟩ := x
  exact ⟨a, B, sI, pins, σ, H, cls, d, e, I, nb, up, sky_imp (fun o z => Zq.of_n z) sky, r⟩
theorem Takes.n {X : Cx} {W : WX} (t : Takes X W) : L2N.Takes X W := fun u s' x => t u s' (XE.of_n x)
section
variable {X : Cx} {pins : List (Addr × Obj)} {σ : St} {H : Hp} {sI s s' : Shared} {B : Heap} {W : WX} {E : XK}
theorem XE.new {a : Addr} {oe : Obj} {vs : Array Value} {cls : Value} {d : Option Addr} (I : Inv X pins σ H sI) (k : ∀ b o, sI.heap.get? b = some o → s'.heap.get? b = some o) (hne : sI.heap.get? a = none) (he : s'.heap.get? a = some oe)
    (hz : Zq (PySem.W.hideAll sI.heap (frs X.stack)) H cls d oe) (hd : oe.data = .fields vs) (h1 : vs[1]? = some .none) (na : H a = none) (os : s'.os = sI.os) (ag : AllBare s'.gens) (w : W cls d σ H) : XE X W (.ref a) s' := by
  refine ⟨a, PySem.W.hideAll sI.heap (frs X.stack), sI, pins, σ, H, cls, d, rfl, I, fun b o e hb => PySem.W.hideAll_get _ e hb, Heap.UpToSlots.of_keeps k,
    .inl ⟨fun b o e => k b o (PySem.W.of_hideAll _ e), ?_, ?_, oe, vs, he, hz, hd, h1⟩, na, os, ag, w⟩
  · cases q : (PySem.W.hideAll sI.heap (frs X.stack)).get? a with
    | none => rfl
    | some o =>
      have z := PySem.W.of_hideAll _ q
      rw [hne] at z; cases z
  · exact Heap.FunFrames.of_keeps (fun b o e _ => ⟨o, k b o e, rfl⟩) (funFrames_none I.stack fun b hb => PySem.W.hideAll_none _ hb)
theorem XE.leave (hs : X.stack = X.env :: X.outer) (hf : X.env.frame = some X.env.locals) (hex : X.ex = []) {E₁ : Value → Shared → Prop} (hW : ∀ cls d σ H, W cls d σ H → E cls d H) {u : Value} (x : XE X W u s') :
    wpAny (model X.prog X.w) X.A (leaving X.env u) (fun _ s'' => CX X.prog X.w X.outer X.H_0 X.s_0 E u s'') E₁ s' := by
  obtain ⟨a, B, sI, pins, σ, H, cls, d, rfl, I, nb, up, sky, na, os, ag, w⟩ := x
  have hfr : X.A.frames = some (X.env :: X.outer) := by rw [I.ok.frames, hs]
  have nst : ∀ b o, X.s_0.heap.get? b = some o → b ∉ X.fs → b ∉ frs X.stack := fun b o e hb hm => by
    rcases List.mem_cons.mp (I.stkSub b hm) with z | z
    · have h1 := Heap.lt_size e
      have h2 := I.ok.above
      rw [z] at h1
      exact absurd (Nat.lt_of_lt_of_le h1 h2) (Nat.lt_irrefl _)
    · exact hb z
  have hex' : ∀ b, b ∉ X.ex := fun b hb => by rw [hex] at hb; cases hb
  have hokB := I.inGround nb
  have fin : ∀ h', HandSPX.FlyingZ B X.outer a (Zq B H cls d) h' → s'.heap.UpToSlots h' → CX X.prog X.w X.outer X.H_0 X.s_0 E (.ref a) { s' with heap := h' } := fun h' fl up' => by
    refine ⟨a, B, H, cls, d, rfl, fl, hokB, ⟨fun b o e n hb => nb b o (I.base.keep b o e n hb (hex' b)) (nst b o e hb), fun b o e hb => ?_, fun b o e n => I.base.free b o e n (hex' b), fun b o e hb => ?_, I.base.tups, I.base.frzs, I.base.tbls⟩,
      na, os.trans I.os, ag, hW _ _ _ _ w⟩
    · obtain ⟨_, o₀, e₀, hnf⟩ := I.ok.funs.mem hb
      rw [e] at e₀; cases e₀
      obtain ⟨sl, e1⟩ := I.base.slot b o e (I.ok.frf b hb) hb (hex' b)
      obtain ⟨sl2, e2⟩ := up b _ e1 hnf
      obtain ⟨sl3, e3⟩ := up' b _ e2 hnf
      exact ⟨sl3, e3⟩
    · obtain ⟨o', e1⟩ := I.base.there b o e (hex' b)
      exact ⟨o', nb b o' e1 (nst b o e hb)⟩
  rw [hs] at sky
  rcases sky with ⟨hB, hn, hl, oe, vs, he, hz, hd, h1⟩ | fl | hd
  · exact PXN.leaving_firstZ Zq.steady hfr hl hf he hB hn hd h1 hz fin
  · exact PXN.leaves_onZ Zq.steady hfr hf fl fin
  · exact HandSPX.leaves_heldZ hf hd fin
end
end L2Q
set_option Elab.async false
set_option linter.all false
set_option maxRecDepth 100000
set_option maxHeartbeats 4000000
namespace DL
open PySem PySem.Spec PyProof.Rows L2
end DL
set_option Elab.async false
set_option linter.all false
set_option maxRecDepth 100000
set_option maxHeartbeats 4000000
namespace DL
open PySem PySem.Spec PyProof.Rows L2 LN
/-- a slice of a list as a new owned list -/
@[simp] def eSlLO (te : EE) (tl th : EO) : EE := fun s G Q => te s G fun x G1 => tl s G1 fun l G2 => th s G2 fun u G3 => match lkL G3 x with
  | some ds => ∀ p, G3 p = none → Q (.ref p) (gput G3 p (.lst (cutD ds l u)))
  | none => False
end DL
set_option Elab.async false
set_option linter.all false
set_option maxRecDepth 100000
set_option maxHeartbeats 4000000
namespace DL
open PySem PySem.Spec PyProof.Rows L2
mutual
inductive FrD (G : Gp) : D → D → Prop
  | pl {d : D} : plainD d = true → FrD G d d
  | ref {a : Addr} {es es' : List D} : G a = some (.lst es) → FrDs G es es' → FrD G (.ref a) (.lst es')
  | lst {es es' : List D} : FrDs G es es' → FrD G (.lst es) (.lst es')
  | tup {es es' : List D} : FrDs G es es' → FrD G (.tup es) (.tup es')
inductive FrDs (G : Gp) : List D → List D → Prop
  | nil : FrDs G [] []
  | cons {d d' : D} {ds ds' : List D} : FrD G d d' → FrDs G ds ds' → FrDs G (d :: ds) (d' :: ds')
end
section
variable {K : PySem.W.Frag} {P : Addr → Prop} {G : Gp} {H : Hp}
theorem FrDs.len : ∀ {ds ds' : List D}, FrDs G ds ds' → ds.length = ds'.length
  | _, _, .nil => rfl
  | _, _, .cons _ t => by simp [FrDs.len t]
theorem Wo.bare (w : Wo K P G H) : Wo K P (fun _ => none) H := ⟨fun _ _ q => (nomatch q), fun a q => ⟨rfl, (w.prv a q).2⟩⟩
end
end DL
set_option Elab.async false
set_option linter.all false
set_option maxRecDepth 100000
set_option maxHeartbeats 4000000
namespace DL
open PySem PySem.Spec PyProof.Rows L2
theorem jss_false {X : Cx} {Y : Wx} {body : List Stmt} : JSs X Y body (fun _ _ _ => False) :=
  ⟨(⟨fun _ _ _ _ _ _ h => h.elim⟩ : PSs X body (fun _ _ _ => False)), fun _ _ _ _ _ _ _ h _ _ => h.elim⟩
end DL
set_option Elab.async false
set_option linter.all false
set_option maxRecDepth 100000
set_option maxHeartbeats 4000000
namespace DL
open PySem PySem.Spec PyProof.Rows L2 LN
def RingP (n : Int) (d : D) : Prop := ∃ pp : Paper, d = .lst (pp.map qD) ∧ POk pp ∧ ∀ x ∈ pp, 0 ≤ x.1 ∧ x.1 < n
def PapF : Sf := fun ds G Q => ∃ (n : Int) (rs : List Stretch) (d : D), ds = [ringD n rs, d] ∧ anyD d = true ∧ ∀ c : Bool, (c = true ↔ RingP n d) → Q (.bl c) G
def F_is_ring_paper : Sf := PapF
def r_is_ring_paper : ES :=
  (sRet (eAndT (eCall F_is_paperX (eCons (eVar 1) eNil)) (eCB cAll (eCons (eLc (iL (eVar 1)) (.tp [2, 3]) eYes (eChain oLe oLt (eC (.int 0)) (eVar 2) (eOp oIx (eVar 0) (eC (.int 0)))) [2, 3]) eNil))))
theorem ringP_iff {n : Int} {pp : Paper} (hp : POk pp) : RingP n (.lst (pp.map qD)) ↔ ∀ x ∈ pp, 0 ≤ x.1 ∧ x.1 < n := by
  constructor
  · rintro ⟨p2, e, _, h⟩
    injection e with e
    rw [qDs_inj e]
    exact h
  · exact fun h => ⟨pp, rfl, hp, h⟩
theorem d_is_ring_paper (ds : List D) (G : Gp) (Q : DK) (h : F_is_ring_paper ds G Q) : r_is_ring_paper (fin G Q) (startD 4 ds) G := by
  obtain ⟨n, rs, d, rfl, ha, k⟩ := h
  unfold r_is_ring_paper
  (try dsimp only [sAsg, sIf, sRet, sRetN, sDrop, sNext, asg, setAll, eT, eOp, eUn, eLst, eTup, eCons, eNil, eVar, eC, eCall, eCB, eNot, eAnd, eOr, eTru, eAndT, eOrT, eNotT, eIf, ePart, eNoPart, eYes, eChain, eChain3, oI, oI0, oLt, oLe, oGt, oGe, oNeg, oSub, oMod, oMul, oDivW, eXp, eXa, eConsX, eCallX, eCallN, eLstX, eCBX, sDropX, sRetX, sAsgX, sRaise, sRaiseF, List.set_cons_zero, List.set_cons_succ, List.getElem?_cons_zero, List.getElem?_cons_succ, truD_bl, startD, List.map_cons, List.map_nil, List.cons_append, List.nil_append, List.replicate]); (try simp only [if_true, Bool.false_eq_true, if_false, decide_true, decide_false, Bool.not_true, Bool.not_false, List.length_cons, List.length_nil, sizeLine_eq, Nat.reduceAdd, Nat.reduceLeDiff, true_and, and_true, pw6, pw10, pw11, pw12, pw13, pw30, pw40, pw60, startD, List.map_cons, List.map_nil, List.cons_append, List.nil_append, List.replicate]); (try dsimp only [sAsg, sIf, sRet, sRetN, sDrop, sNext, asg, setAll, eT, eOp, eUn, eLst, eTup, eCons, eNil, eVar, eC, eCall, eCB, eNot, eAnd, eOr, eTru, eAndT, eOrT, eNotT, eIf, ePart, eNoPart, eYes, eChain, eChain3, oI, oI0, oLt, oLe, oGt, oGe, oNeg, oSub, oMod, oMul, oDivW, eXp, eXa, eConsX, eCallX, eCallN, eLstX, eCBX, sDropX, sRetX, sAsgX, sRaise, sRaiseF, List.set_cons_zero, List.set_cons_succ, List.getElem?_cons_zero, List.getElem?_cons_succ, truD_bl, startD, List.map_cons, List.map_nil, List.cons_append, List.nil_append, List.replicate])
  refine ⟨d, rfl, ha, fun c hc => ?_⟩
  cases c with
  | false =>
    (try dsimp only [sAsg, sIf, sRet, sRetN, sDrop, sNext, asg, setAll, eT, eOp, eUn, eLst, eTup, eCons, eNil, eVar, eC, eCall, eCB, eNot, eAnd, eOr, eTru, eAndT, eOrT, eNotT, eIf, ePart, eNoPart, eYes, eChain, eChain3, oI, oI0, oLt, oLe, oGt, oGe, oNeg, oSub, oMod, oMul, oDivW, eXp, eXa, eConsX, eCallX, eCallN, eLstX, eCBX, sDropX, sRetX, sAsgX, sRaise, sRaiseF, List.set_cons_zero, List.set_cons_succ, List.getElem?_cons_zero, List.getElem?_cons_succ, truD_bl]); (try simp only [if_true, Bool.false_eq_true, if_false, decide_true, decide_false, Bool.not_true, Bool.not_false, List.length_cons, List.length_nil, sizeLine_eq, Nat.reduceAdd, Nat.reduceLeDiff, true_and, and_true, pw6, pw10, pw11, pw12, pw13, pw30, pw40, pw60]); (try dsimp only [sAsg, sIf, sRet, sRetN, sDrop, sNext, asg, setAll, eT, eOp, eUn, eLst, eTup, eCons, eNil, eVar, eC, eCall, eCB, eNot, eAnd, eOr, eTru, eAndT, eOrT, eNotT, eIf, ePart, eNoPart, eYes, eChain, eChain3, oI, oI0, oLt, oLe, oGt, oGe, oNeg, oSub, oMod, oMul, oDivW, eXp, eXa, eConsX, eCallX, eCallN, eLstX, eCBX, sDropX, sRetX, sAsgX, sRaise, sRaiseF, List.set_cons_zero, List.set_cons_succ, List.getElem?_cons_zero, List.getElem?_cons_succ, truD_bl])
    exact fin_id (k false ⟨fun e => (nomatch e), fun ⟨l, e, h, _⟩ => (absurd (hc.mpr ⟨l, e, h⟩) (by decide))⟩)
  | true =>
    obtain ⟨pp, rfl, hp⟩ := hc.mp rfl
    (try dsimp only [sAsg, sIf, sRet, sRetN, sDrop, sNext, asg, setAll, eT, eOp, eUn, eLst, eTup, eCons, eNil, eVar, eC, eCall, eCB, eNot, eAnd, eOr, eTru, eAndT, eOrT, eNotT, eIf, ePart, eNoPart, eYes, eChain, eChain3, oI, oI0, oLt, oLe, oGt, oGe, oNeg, oSub, oMod, oMul, oDivW, eXp, eXa, eConsX, eCallX, eCallN, eLstX, eCBX, sDropX, sRetX, sAsgX, sRaise, sRaiseF, List.set_cons_zero, List.set_cons_succ, List.getElem?_cons_zero, List.getElem?_cons_succ, truD_bl, eLc, iL, lkL_lst, stays, wipeD, List.foldl_cons, List.foldl_nil]); (try simp only [if_true, Bool.false_eq_true, if_false, decide_true, decide_false, Bool.not_true, Bool.not_false, List.length_cons, List.length_nil, sizeLine_eq, Nat.reduceAdd, Nat.reduceLeDiff, true_and, and_true, pw6, pw10, pw11, pw12, pw13, pw30, pw40, pw60, eLc, iL, lkL_lst, stays, wipeD, List.foldl_cons, List.foldl_nil]); (try dsimp only [sAsg, sIf, sRet, sRetN, sDrop, sNext, asg, setAll, eT, eOp, eUn, eLst, eTup, eCons, eNil, eVar, eC, eCall, eCB, eNot, eAnd, eOr, eTru, eAndT, eOrT, eNotT, eIf, ePart, eNoPart, eYes, eChain, eChain3, oI, oI0, oLt, oLe, oGt, oGe, oNeg, oSub, oMod, oMul, oDivW, eXp, eXa, eConsX, eCallX, eCallN, eLstX, eCBX, sDropX, sRetX, sAsgX, sRaise, sRaiseF, List.set_cons_zero, List.set_cons_succ, List.getElem?_cons_zero, List.getElem?_cons_succ, truD_bl, eLc, iL, lkL_lst, stays, wipeD, List.foldl_cons, List.foldl_nil])
    refine compW_all (g := qD) (f := fun x => D.bl (decide (0 ≤ x.1 ∧ x.1 < n))) trivial pp [] (fun x hx => ⟨_, rfl, fun R r => ?_⟩) ?_
    · (try dsimp only [sAsg, sIf, sRet, sRetN, sDrop, sNext, asg, setAll, eT, eOp, eUn, eLst, eTup, eCons, eNil, eVar, eC, eCall, eCB, eNot, eAnd, eOr, eTru, eAndT, eOrT, eNotT, eIf, ePart, eNoPart, eYes, eChain, eChain3, oI, oI0, oLt, oLe, oGt, oGe, oNeg, oSub, oMod, oMul, oDivW, eXp, eXa, eConsX, eCallX, eCallN, eLstX, eCBX, sDropX, sRetX, sAsgX, sRaise, sRaiseF, List.set_cons_zero, List.set_cons_succ, List.getElem?_cons_zero, List.getElem?_cons_succ, truD_bl]); (try simp only [if_true, Bool.false_eq_true, if_false, decide_true, decide_false, Bool.not_true, Bool.not_false, List.length_cons, List.length_nil, sizeLine_eq, Nat.reduceAdd, Nat.reduceLeDiff, true_and, and_true, pw6, pw10, pw11, pw12, pw13, pw30, pw40, pw60]); (try dsimp only [sAsg, sIf, sRet, sRetN, sDrop, sNext, asg, setAll, eT, eOp, eUn, eLst, eTup, eCons, eNil, eVar, eC, eCall, eCB, eNot, eAnd, eOr, eTru, eAndT, eOrT, eNotT, eIf, ePart, eNoPart, eYes, eChain, eChain3, oI, oI0, oLt, oLe, oGt, oGe, oNeg, oSub, oMod, oMul, oDivW, eXp, eXa, eConsX, eCallX, eCallN, eLstX, eCBX, sDropX, sRetX, sAsgX, sRaise, sRaiseF, List.set_cons_zero, List.set_cons_succ, List.getElem?_cons_zero, List.getElem?_cons_succ, truD_bl])
      by_cases c0 : 0 ≤ x.1
      · rw [decide_eq_true c0]
        (try dsimp only [sAsg, sIf, sRet, sRetN, sDrop, sNext, asg, setAll, eT, eOp, eUn, eLst, eTup, eCons, eNil, eVar, eC, eCall, eCB, eNot, eAnd, eOr, eTru, eAndT, eOrT, eNotT, eIf, ePart, eNoPart, eYes, eChain, eChain3, oI, oI0, oLt, oLe, oGt, oGe, oNeg, oSub, oMod, oMul, oDivW, eXp, eXa, eConsX, eCallX, eCallN, eLstX, eCBX, sDropX, sRetX, sAsgX, sRaise, sRaiseF, List.set_cons_zero, List.set_cons_succ, List.getElem?_cons_zero, List.getElem?_cons_succ, truD_bl, ringD]); (try simp only [if_true, Bool.false_eq_true, if_false, decide_true, decide_false, Bool.not_true, Bool.not_false, List.length_cons, List.length_nil, sizeLine_eq, Nat.reduceAdd, Nat.reduceLeDiff, true_and, and_true, pw6, pw10, pw11, pw12, pw13, pw30, pw40, pw60, ringD]); (try dsimp only [sAsg, sIf, sRet, sRetN, sDrop, sNext, asg, setAll, eT, eOp, eUn, eLst, eTup, eCons, eNil, eVar, eC, eCall, eCB, eNot, eAnd, eOr, eTru, eAndT, eOrT, eNotT, eIf, ePart, eNoPart, eYes, eChain, eChain3, oI, oI0, oLt, oLe, oGt, oGe, oNeg, oSub, oMod, oMul, oDivW, eXp, eXa, eConsX, eCallX, eCallN, eLstX, eCBX, sDropX, sRetX, sAsgX, sRaise, sRaiseF, List.set_cons_zero, List.set_cons_succ, List.getElem?_cons_zero, List.getElem?_cons_succ, truD_bl, ringD])
        refine ixt_0 (d := .int n) rfl ?_
        (try dsimp only [sAsg, sIf, sRet, sRetN, sDrop, sNext, asg, setAll, eT, eOp, eUn, eLst, eTup, eCons, eNil, eVar, eC, eCall, eCB, eNot, eAnd, eOr, eTru, eAndT, eOrT, eNotT, eIf, ePart, eNoPart, eYes, eChain, eChain3, oI, oI0, oLt, oLe, oGt, oGe, oNeg, oSub, oMod, oMul, oDivW, eXp, eXa, eConsX, eCallX, eCallN, eLstX, eCBX, sDropX, sRetX, sAsgX, sRaise, sRaiseF, List.set_cons_zero, List.set_cons_succ, List.getElem?_cons_zero, List.getElem?_cons_succ, truD_bl]); (try simp only [if_true, Bool.false_eq_true, if_false, decide_true, decide_false, Bool.not_true, Bool.not_false, List.length_cons, List.length_nil, sizeLine_eq, Nat.reduceAdd, Nat.reduceLeDiff, true_and, and_true, pw6, pw10, pw11, pw12, pw13, pw30, pw40, pw60]); (try dsimp only [sAsg, sIf, sRet, sRetN, sDrop, sNext, asg, setAll, eT, eOp, eUn, eLst, eTup, eCons, eNil, eVar, eC, eCall, eCB, eNot, eAnd, eOr, eTru, eAndT, eOrT, eNotT, eIf, ePart, eNoPart, eYes, eChain, eChain3, oI, oI0, oLt, oLe, oGt, oGe, oNeg, oSub, oMod, oMul, oDivW, eXp, eXa, eConsX, eCallX, eCallN, eLstX, eCBX, sDropX, sRetX, sAsgX, sRaise, sRaiseF, List.set_cons_zero, List.set_cons_succ, List.getElem?_cons_zero, List.getElem?_cons_succ, truD_bl])
        have : decide (x.1 < n) = decide (0 ≤ x.1 ∧ x.1 < n) := by simp [c0]
        rw [this]
        exact r
      · rw [decide_eq_false c0]
        (try dsimp only [sAsg, sIf, sRet, sRetN, sDrop, sNext, asg, setAll, eT, eOp, eUn, eLst, eTup, eCons, eNil, eVar, eC, eCall, eCB, eNot, eAnd, eOr, eTru, eAndT, eOrT, eNotT, eIf, ePart, eNoPart, eYes, eChain, eChain3, oI, oI0, oLt, oLe, oGt, oGe, oNeg, oSub, oMod, oMul, oDivW, eXp, eXa, eConsX, eCallX, eCallN, eLstX, eCBX, sDropX, sRetX, sAsgX, sRaise, sRaiseF, List.set_cons_zero, List.set_cons_succ, List.getElem?_cons_zero, List.getElem?_cons_succ, truD_bl]); (try simp only [if_true, Bool.false_eq_true, if_false, decide_true, decide_false, Bool.not_true, Bool.not_false, List.length_cons, List.length_nil, sizeLine_eq, Nat.reduceAdd, Nat.reduceLeDiff, true_and, and_true, pw6, pw10, pw11, pw12, pw13, pw30, pw40, pw60]); (try dsimp only [sAsg, sIf, sRet, sRetN, sDrop, sNext, asg, setAll, eT, eOp, eUn, eLst, eTup, eCons, eNil, eVar, eC, eCall, eCB, eNot, eAnd, eOr, eTru, eAndT, eOrT, eNotT, eIf, ePart, eNoPart, eYes, eChain, eChain3, oI, oI0, oLt, oLe, oGt, oGe, oNeg, oSub, oMod, oMul, oDivW, eXp, eXa, eConsX, eCallX, eCallN, eLstX, eCBX, sDropX, sRetX, sAsgX, sRaise, sRaiseF, List.set_cons_zero, List.set_cons_succ, List.getElem?_cons_zero, List.getElem?_cons_succ, truD_bl])
        have : decide (0 ≤ x.1 ∧ x.1 < n) = false := by simp [c0]
        rw [this] at r
        exact r
    rw [List.nil_append]
    (try dsimp only [sAsg, sIf, sRet, sRetN, sDrop, sNext, asg, setAll, eT, eOp, eUn, eLst, eTup, eCons, eNil, eVar, eC, eCall, eCB, eNot, eAnd, eOr, eTru, eAndT, eOrT, eNotT, eIf, ePart, eNoPart, eYes, eChain, eChain3, oI, oI0, oLt, oLe, oGt, oGe, oNeg, oSub, oMod, oMul, oDivW, eXp, eXa, eConsX, eCallX, eCallN, eLstX, eCBX, sDropX, sRetX, sAsgX, sRaise, sRaiseF, List.set_cons_zero, List.set_cons_succ, List.getElem?_cons_zero, List.getElem?_cons_succ, truD_bl, cAll, lkL_lst, Option.bind_some]); (try simp only [if_true, Bool.false_eq_true, if_false, decide_true, decide_false, Bool.not_true, Bool.not_false, List.length_cons, List.length_nil, sizeLine_eq, Nat.reduceAdd, Nat.reduceLeDiff, true_and, and_true, pw6, pw10, pw11, pw12, pw13, pw30, pw40, pw60, cAll, lkL_lst, Option.bind_some]); (try dsimp only [sAsg, sIf, sRet, sRetN, sDrop, sNext, asg, setAll, eT, eOp, eUn, eLst, eTup, eCons, eNil, eVar, eC, eCall, eCB, eNot, eAnd, eOr, eTru, eAndT, eOrT, eNotT, eIf, ePart, eNoPart, eYes, eChain, eChain3, oI, oI0, oLt, oLe, oGt, oGe, oNeg, oSub, oMod, oMul, oDivW, eXp, eXa, eConsX, eCallX, eCallN, eLstX, eCBX, sDropX, sRetX, sAsgX, sRaise, sRaiseF, List.set_cons_zero, List.set_cons_succ, List.getElem?_cons_zero, List.getElem?_cons_succ, truD_bl, cAll, lkL_lst, Option.bind_some])
    rw [blsD_f]
    refine fin_id (k _ ?_)
    rw [ringP_iff hp, List.all_map, List.all_eq_true]
    exact ⟨fun h x hx => of_decide_eq_true (h x hx), fun h x hx => decide_eq_true (h x hx)⟩
inductive Tr where
  | pr (pp : Paper)
  | cr (m : Int)
  | sp (i : Nat) (a b : Tr)
def Tr.d : Tr → D
  | .pr pp => .tup [.str "prices", .lst (pp.map qD)]
  | .cr m => .tup [.str "crowd", .int m]
  | .sp i a b => .tup [.str "split", .int (i : Int), .lst [a.d, b.d]]
def Tr.py : Tr → PyData
  | .pr pp => .tuple [.str "prices", .list (pp.map fun x => PyData.tuple [.int x.1, .int x.2])]
  | .cr m => .tuple [.str "crowd", .int m]
  | .sp i a b => .tuple [.str "split", .int (i : Int), .list [a.py, b.py]]
def Tr.dep : Tr → Nat
  | .pr _ => 1
  | .cr _ => 1
  | .sp _ a b => max a.dep b.dep + 1
def Tr.size : Tr → Nat
  | .pr _ => 1
  | .cr _ => 1
  | .sp _ a b => a.size + b.size + 1
/-- its papers are papers of the ring -/
def Tr.pap (n : Int) : Tr → Prop
  | .pr pp => POk pp ∧ ∀ x ∈ pp, 0 ≤ x.1 ∧ x.1 < n
  | .cr _ => True
  | .sp _ a b => a.pap n ∧ b.pap n
theorem Tr.toPy {G : Gp} : ∀ t : Tr, DL.toPy G t.d = some t.py
  | .pr pp => by simp [Tr.d, Tr.py, toPys_pp]
  | .cr m => by simp [Tr.d, Tr.py]
  | .sp i a b => by simp [Tr.d, Tr.py, Tr.toPy a, Tr.toPy b]
theorem Shp.mono {n m : Nat} {d : PyData} (h : Shp n d) (k : n ≤ m) : Shp m d := ⟨h.c, Nat.le_trans h.d k⟩
theorem Tr.shp : ∀ t : Tr, Shp (2 * t.dep + 1) t.py
  | .pr pp => shp_tuple fun x hx => by
    simp only [List.mem_cons, List.not_mem_nil, or_false] at hx
    rcases hx with rfl | rfl
    · exact shp_str (by decide)
    · exact shp_pp (n := 0) pp
  | .cr m => shp_tuple fun x hx => by
    simp only [List.mem_cons, List.not_mem_nil, or_false] at hx
    rcases hx with rfl | rfl
    · exact shp_str (by decide)
    · exact shp_int _
  | .sp i a b => by
    have h1 := Tr.shp a
    have h2 := Tr.shp b
    have e : 2 * (Tr.sp i a b).dep + 1 = (2 * max a.dep b.dep + 1 + 1) + 1 := by simp only [Tr.dep]; omega
    rw [e]
    refine shp_tuple fun x hx => ?_
    simp only [List.mem_cons, List.not_mem_nil, or_false] at hx
    rcases hx with rfl | rfl | rfl
    · exact shp_str (by decide)
    · exact shp_int _
    · refine shp_list fun x hx => ?_
      simp only [List.mem_cons, List.not_mem_nil, or_false] at hx
      rcases hx with rfl | rfl
      · exact h1.mono (by omega)
      · exact h2.mono (by omega)
theorem Tr.plain : ∀ t : Tr, plainD t.d = true
  | .pr pp => by simp only [Tr.d, plainD, plainDs, Bool.true_and, Bool.and_true]; exact plainDs_map (fun x => rfl) _
  | .cr m => rfl
  | .sp i a b => by simp only [Tr.d, plainD, plainDs, Tr.plain a, Tr.plain b, Bool.and_self]
theorem Tr.dep1 : ∀ t : Tr, 1 ≤ t.dep
  | .pr _ => Nat.le_refl _
  | .cr _ => Nat.le_refl _
  | .sp _ a b => by simp only [Tr.dep]; omega
def freeZ (rs : List Stretch) (ins outs : List Nat) : List Nat := (List.range rs.length).filter fun i => decide (i ∉ ins) && decide (i ∉ outs)
theorem free_mem {rs : List Stretch} {ins outs : List Nat} {i : Nat} : i ∈ freeZ rs ins outs ↔ i < rs.length ∧ i ∉ ins ∧ i ∉ outs := by
  unfold freeZ
  simp
def priceZ (n : Int) (rs : List Stretch) (nb : Int) (pp : Paper) (ins outs : List Nat) : Int :=
  worthOf rs ins + (pp.map fun x => x.2 * (nb - (loadOn n rs ins x.1 : Int))).sum + ((freeZ rs ins outs).map fun i => restR n (st rs i) pp).sum
/-- what a walk through a tree comes to: how many tuples, what its prices claim; none where it is refused -/
def wlk (n : Int) (rs : List Stretch) (nb : Int) : Tr → Nat → List Nat → List Nat → Option (Nat × List Int)
  | .pr pp, met, ins, outs => if met < 500 then some (met + 1, [priceZ n rs nb pp ins outs]) else none
  | .cr m, met, ins, _ => if met < 500 ∧ (0 ≤ m ∧ m < n) ∧ nb < (loadOn n rs ins m : Int) then some (met + 1, []) else none
  | .sp i a b, met, ins, outs => if met < 500 ∧ i ∈ freeZ rs ins outs then
      (match wlk n rs nb a (met + 1) (ins ++ [i]) outs with
        | some (m1, s1) => (match wlk n rs nb b m1 ins (outs ++ [i]) with
          | some (m2, s2) => some (m2, s1 ++ s2)
          | none => none)
        | none => none) else none
abbrev wkKs : List Str := ["ring", "benches", "met", "sums"]
def wkO (dx : Addr) (n : Int) (rs : List Stretch) (nb : Int) (met : Int) (s : Addr) : GO := .ins "RingWalk" dx wkKs [ringD n rs, .int nb, .int met, .ref s]
structure WkAt (G : Gp) (x s dx : Addr) (n : Int) (rs : List Stretch) (nb : Int) (met : Nat) (ss : List Int) : Prop where
  ob : G x = some (wkO dx n rs nb met s)
  su : G s = some (.lst (iD ss))
def wput (G : Gp) (x s dx : Addr) (n : Int) (rs : List Stretch) (nb : Int) (met : Nat) (ss : List Int) : Gp := gput (gput G s (.lst (iD ss))) x (wkO dx n rs nb met s)
theorem WkAt.ne {G : Gp} {x s dx : Addr} {n : Int} {rs : List Stretch} {nb : Int} {met : Nat} {ss : List Int} (h : WkAt G x s dx n rs nb met ss) : x ≠ s := fun e => by
  have h1 := h.ob
  rw [e, h.su] at h1
  cases h1
theorem wput_at {G : Gp} {x s dx : Addr} {n : Int} {rs : List Stretch} {nb : Int} {met : Nat} {ss : List Int} (h : x ≠ s) : WkAt (wput G x s dx n rs nb met ss) x s dx n rs nb met ss := ⟨gput_same, by unfold wput; rw [gput_ne h.symm]; exact gput_same⟩
theorem wput_wput {G : Gp} {x s dx dx2 : Addr} {n n2 : Int} {rs rs2 : List Stretch} {nb nb2 : Int} {met met2 : Nat} {ss ss2 : List Int} (h : x ≠ s) : wput (wput G x s dx n rs nb met ss) x s dx2 n2 rs2 nb2 met2 ss2 = wput G x s dx2 n2 rs2 nb2 met2 ss2 := by
  unfold wput
  rw [gput_swap h, gput_gput]
theorem wput_off {G : Gp} {x s dx c : Addr} {n : Int} {rs : List Stretch} {nb : Int} {met : Nat} {ss : List Int} (h1 : c ≠ x) (h2 : c ≠ s) : wput G x s dx n rs nb met ss c = G c := by unfold wput; rw [gput_ne h1, gput_ne h2]
def F_RingWalk___init__ : Sf := fun ds G Q => ∃ x dx n rs nb, ds = [.ref x, ringD n rs, .int nb] ∧ G x = some (.ins "RingWalk" dx [] []) ∧ ∀ s, G s = none → Q .non (wput G x s dx n rs nb 0 [])
def F_RingWalk_free : Sf := fun ds G Q => ∃ x s dx n rs nb met ss, ∃ ins outs : List Nat, ds = [.ref x, .lst (nD ins), .lst (nD outs)] ∧ WkAt G x s dx n rs nb met ss ∧ RgOk n rs ∧ Q (.lst (nD (freeZ rs ins outs))) G
def F_RingWalk_priced : Sf := fun ds G Q => ∃ x s dx n rs nb met ss, ∃ (pp : Paper) (ins outs : List Nat), ds = [.ref x, .lst (pp.map qD), .lst (nD ins), .lst (nD outs)] ∧ WkAt G x s dx n rs nb met ss ∧ RgOk n rs ∧ (∀ i ∈ ins, i < rs.length) ∧ POk pp ∧ Q (.int (priceZ n rs nb pp ins outs)) G
def F_RingWalk_is_crowd : Sf := fun ds G Q => ∃ x s dx n rs nb met ss, ∃ (d : D) (ins : List Nat), ds = [.ref x, d, .lst (nD ins)] ∧ WkAt G x s dx n rs nb met ss ∧ RgOk n rs ∧ (∀ i ∈ ins, i < rs.length) ∧ anyD d = true ∧ (∀ m, d = .int m → Q (.bl (decide ((0 ≤ m ∧ m < n) ∧ nb < (loadOn n rs ins m : Int)))) G) ∧ ((∀ m, d ≠ .int m) → Q (.bl false) G)
def F_RingWalk_is_split : Sf := fun ds G Q => ∃ x s dx n rs nb met ss, ∃ (t : Tr) (ins outs : List Nat), ds = [.ref x, t.d, .lst (nD ins), .lst (nD outs)] ∧ WkAt G x s dx n rs nb met ss ∧ RgOk n rs ∧
  (∀ i a b, t = .sp i a b → Q (.bl (decide (i ∈ freeZ rs ins outs))) G) ∧ ((∀ i a b, t ≠ .sp i a b) → Q (.bl false) G)
def F_ring_rest : Sf := fun ds G Q => ∃ (n : Int) (rs : List Stretch) (i : Nat) (pp : Paper), ds = [ringD n rs, .int (i : Int), .lst (pp.map qD)] ∧ 0 < n ∧ i < rs.length ∧ Q (.int (restR n (st rs i) pp)) G
structure GoH (G : Gp) (x s dx : Addr) (n : Int) (rs : List Stretch) (nb : Int) (met : Nat) (ss : List Int) (ins outs way : List Nat) : Prop where
  at_ : WkAt G x s dx n rs nb met ss
  rg : RgOk n rs
  li : ∀ i ∈ ins, i < rs.length
  z1 : ins.length ≤ 1000
  z2 : outs.length ≤ 1000
  z3 : way.length ≤ 1000
  ms : ss.length ≤ met
  m5 : met ≤ 500
def F_RingWalk_go : Nat → Sx
  | 0 => fun _ _ _ _ => False
  | k + 1 => fun ds G Q U => ∃ x s dx n rs nb met ss, ∃ (t : Tr) (ins outs way : List Nat), ds = [.ref x, t.d, .lst (nD ins), .lst (nD outs), .lst (nD way)] ∧ GoH G x s dx n rs nb met ss ins outs way ∧ t.pap n ∧ t.dep ≤ k ∧ t.dep + ins.length ≤ 900 ∧ t.dep + outs.length ≤ 900 ∧ t.dep + way.length ≤ 900 ∧ t.dep ≤ 30 ∧
    (∀ m' s', wlk n rs nb t met ins outs = some (m', s') → Q .non (wput G x s dx n rs nb m' (ss ++ s'))) ∧ (wlk n rs nb t met ins outs = none → ∀ m' s' (w : List Nat), U ⟨"NoTree", some ("way", .lst (nD w))⟩ (wput G x s dx n rs nb m' s'))
def F_tree_claim : Sx := fun ds G Q U => ∃ n rs nb, ∃ t : Tr, ds = [ringD n rs, .int nb, t.d] ∧ RgOk n rs ∧ 0 ≤ nb ∧ t.pap n ∧ t.dep ≤ 25 ∧
  (∀ m' s', wlk n rs nb t 0 [] [] = some (m', s') → ∀ v, v ∈ s' → (∀ y ∈ s', y ≤ v) → Q (.int v) G) ∧ (wlk n rs nb t 0 [] [] = none → ∀ w : List Nat, U ⟨"NoTree", some ("way", .lst (nD w))⟩ G)
def r_RingWalk___init__ : ES :=
  (sSeq (sFldD "RingWalk" "ring" (eVar 1) (eVar 0))
  (sSeq (sFldD "RingWalk" "benches" (eVar 2) (eVar 0))
  (sSeq (sFldD "RingWalk" "met" (eC (.int 0)) (eVar 0))
  (sFldD "RingWalk" "sums" (eLstO eNil) (eVar 0)))))
def r_RingWalk_free : ES :=
  (sRet (eLc (iR1 (eCons (eCB cLen (eCons (eOp oIx (eFld "RingWalk" "ring" (eVar 0)) (eC (.int 1))) eNil)) eNil)) (.nm 3) (eAnd (eT (eOp (oIn true) (eVar 3) (eVar 1))) (eT (eOp (oIn true) (eVar 3) (eVar 2)))) (eVar 3) [3]))
def r_ring_rest : ES :=
  (sSeq (sAsg (eCB cSum (eCons (eLc (iL (eVar 2)) (.tp [4, 5]) (eTru (eCall F_is_over_ring (eCons (eVar 0) (eCons (eVar 1) (eCons (eVar 4) eNil))))) (eVar 5) [4, 5]) eNil)) (.nm 3))
  (sRet (eCB cMax2 (eCons (eC (.int 0)) (eCons (eOp oSub (eOp oIx (eOp oIx (eOp oIx (eVar 0) (eC (.int 1))) (eVar 1)) (eC (.int 3))) (eVar 3)) eNil)))))
def r_RingWalk_priced_L1 : ES :=
  (sAsg (eOp oAdd (eVar 4) (eOp oMul (eVar 6) (eOp oSub (eFld "RingWalk" "benches" (eVar 0)) (eCall F_load_on (eCons (eFld "RingWalk" "ring" (eVar 0)) (eCons (eVar 2) (eCons (eVar 5) eNil))))))) (.nm 4))
def r_RingWalk_priced : ES :=
  (sSeq (sAsg (eCB cSum (eCons (eLc (iL (eVar 2)) (.nm 7) eYes (eOp oIx (eOp oIx (eOp oIx (eFld "RingWalk" "ring" (eVar 0)) (eC (.int 1))) (eVar 7)) (eC (.int 3))) [7]) eNil)) (.nm 4))
  (sSeq (sFor (iL (eVar 1)) (.tp [5, 6]) r_RingWalk_priced_L1)
  (sRet (eOp oAdd (eVar 4) (eCB cSum (eCons (eLc (iL (eMeth "RingWalk" "free" F_RingWalk_free (eVar 0) (eCons (eVar 2) (eCons (eVar 3) eNil)))) (.nm 7) eYes (eCall F_ring_rest (eCons (eFld "RingWalk" "ring" (eVar 0)) (eCons (eVar 7) (eCons (eVar 1) eNil)))) [7]) eNil))))))
def r_RingWalk_is_split : ES :=
  (sSeq (sIf (eOr (eT (eOp oNe (eCB cLen (eCons (eVar 1) eNil)) (eC (.int 3)))) (eOr (eT (eOp oNe (eOp oIx (eVar 1) (eC (.int 0))) (eC (.str "split")))) (eNot (eTru (eCall F_is_whole (eCons (eOp oIx (eVar 1) (eC (.int 1))) eNil)))))) (sRet (eC (.bl false))) sNext)
  (sRet (eAndT (eOp (oIn false) (eOp oIx (eVar 1) (eC (.int 1))) (eMeth "RingWalk" "free" F_RingWalk_free (eVar 0) (eCons (eVar 2) (eCons (eVar 3) eNil)))) (eAndT (eCB cIsi (eCons (eOp oIx (eVar 1) (eC (.int 2))) (eCons (eC (.ty "list")) eNil))) (eOp oEq (eCB cLen (eCons (eOp oIx (eVar 1) (eC (.int 2))) eNil)) (eC (.int 2)))))))
def r_RingWalk_is_crowd : ES :=
  (sSeq (sIf (eOr (eNot (eTru (eCall F_is_whole (eCons (eVar 1) eNil)))) (eNot (eT (eChain oLe oLt (eC (.int 0)) (eVar 1) (eOp oIx (eFld "RingWalk" "ring" (eVar 0)) (eC (.int 0))))))) (sRet (eC (.bl false))) sNext)
  (sRet (eOp oGt (eCall F_load_on (eCons (eFld "RingWalk" "ring" (eVar 0)) (eCons (eVar 2) (eCons (eVar 1) eNil)))) (eFld "RingWalk" "benches" (eVar 0)))))
def r_RingWalk_go (n : Nat) : ES :=
  (sSeq (sFldD "RingWalk" "met" (eOp oAdd (eFld "RingWalk" "met" (eVar 0)) (eC (.int 1))) (eVar 0))
  (sSeq (sIf (eOr (eT (eOp oGt (eFld "RingWalk" "met" (eVar 0)) (eC (.int 500)))) (eOr (eNot (eTru (eCB cIsi (eCons (eVar 1) (eCons (eC (.ty "tuple")) eNil))))) (eOr (eT (eOp oEq (eVar 1) (eTup eNil))) (eNot (eTru (eCB cIsi (eCons (eOp oIx (eVar 1) (eC (.int 0))) (eCons (eC (.ty "str")) eNil)))))))) (sRaiseF "NoTree" "way" (eVar 4)) sNext)
  (sIf (eAnd (eT (eOp oEq (eCB cLen (eCons (eVar 1) eNil)) (eC (.int 2)))) (eAnd (eT (eOp oEq (eOp oIx (eVar 1) (eC (.int 0))) (eC (.str "prices")))) (eTru (eCall F_is_ring_paper (eCons (eFld "RingWalk" "ring" (eVar 0)) (eCons (eOp oIx (eVar 1) (eC (.int 1))) eNil)))))) (sDrop (eBm mApp (eFld "RingWalk" "sums" (eVar 0)) (eCons (eMeth "RingWalk" "priced" F_RingWalk_priced (eVar 0) (eCons (eOp oIx (eVar 1) (eC (.int 1))) (eCons (eVar 2) (eCons (eVar 3) eNil)))) eNil))) (sIf (eTru (eMeth "RingWalk" "is_split" F_RingWalk_is_split (eVar 0) (eCons (eVar 1) (eCons (eVar 2) (eCons (eVar 3) eNil))))) (sSeq (sDropX (eMethX "RingWalk" "go" (F_RingWalk_go n) (eVar 0) (eXa (eCons (eOp oIx (eOp oIx (eVar 1) (eC (.int 2))) (eC (.int 0))) (eCons (eOp oAdd (eVar 2) (eLst (eCons (eOp oIx (eVar 1) (eC (.int 1))) eNil))) (eCons (eVar 3) (eCons (eOp oAdd (eVar 4) (eLst (eCons (eC (.int 0)) eNil))) eNil)))))))
  (sDropX (eMethX "RingWalk" "go" (F_RingWalk_go n) (eVar 0) (eXa (eCons (eOp oIx (eOp oIx (eVar 1) (eC (.int 2))) (eC (.int 1))) (eCons (eVar 2) (eCons (eOp oAdd (eVar 3) (eLst (eCons (eOp oIx (eVar 1) (eC (.int 1))) eNil))) (eCons (eOp oAdd (eVar 4) (eLst (eCons (eC (.int 1)) eNil))) eNil)))))))) (sIf (eOr (eT (eOp oNe (eCB cLen (eCons (eVar 1) eNil)) (eC (.int 2)))) (eOr (eT (eOp oNe (eOp oIx (eVar 1) (eC (.int 0))) (eC (.str "crowd")))) (eNot (eTru (eMeth "RingWalk" "is_crowd" F_RingWalk_is_crowd (eVar 0) (eCons (eOp oIx (eVar 1) (eC (.int 1))) (eCons (eVar 2) eNil))))))) (sRaiseF "NoTree" "way" (eVar 4)) sNext)))))
def r_tree_claim : ES :=
  (sSeq (sAsg (eMake "RingWalk" F_RingWalk___init__ (eCons (eVar 0) (eCons (eVar 1) eNil))) (.nm 3))
  (sSeq (sDropX (eMethX "RingWalk" "go" (F_RingWalk_go 26) (eVar 3) (eXa (eCons (eVar 2) (eCons (eLst eNil) (eCons (eLst eNil) (eCons (eLst eNil) eNil)))))))
  (sRet (eCB cMax (eCons (eFld "RingWalk" "sums" (eVar 3)) eNil)))))
section
variable {G : Gp} {x s dx : Addr} {n : Int} {rs : List Stretch} {nb : Int} {met : Nat} {ss : List Int} {sl : Sd} {i : Nat} {Q : DK}
theorem w_rg (hs : sl[i]? = some (some (.ref x))) (h : WkAt G x s dx n rs nb met ss) (q : Q (ringD n rs) G) : eFld "RingWalk" "ring" (eVar i) sl G Q := by
  simp [eFld, eVar, hs, h.ob, wkO, lkF]
  exact q
theorem w_bn (hs : sl[i]? = some (some (.ref x))) (h : WkAt G x s dx n rs nb met ss) (q : Q (.int nb) G) : eFld "RingWalk" "benches" (eVar i) sl G Q := by
  simp [eFld, eVar, hs, h.ob, wkO, lkF]
  exact q
theorem w_mt (hs : sl[i]? = some (some (.ref x))) (h : WkAt G x s dx n rs nb met ss) (q : Q (.int (met : Int)) G) : eFld "RingWalk" "met" (eVar i) sl G Q := by
  simp [eFld, eVar, hs, h.ob, wkO, lkF]
  exact q
theorem w_su (hs : sl[i]? = some (some (.ref x))) (h : WkAt G x s dx n rs nb met ss) (q : Q (.ref s) G) : eFld "RingWalk" "sums" (eVar i) sl G Q := by
  simp [eFld, eVar, hs, h.ob, wkO, lkF]
  exact q
theorem is_wk {m : Str} (h : WkAt G x s dx n rs nb met ss) (hm : m ∉ wkKs := by decide +kernel) : isIns "RingWalk" m G (.ref x) := by
  simp only [isIns, h.ob, wkO]
  exact ⟨trivial, hm⟩
theorem set_wk {N : En} {f : Str} {v : D} {ks ks' : List Str} {ds ds' : List D} {ee : EE} (hs : sl[i]? = some (some (.ref x))) (he : ∀ Q : DK, Q v G → ee sl G Q) (h : G x = some (.ins "RingWalk" dx ks ds)) (hk : putFk f ks = ks') (hv : putFv f v ks ds = ds') (hl : ks.length < 1000)
    (q : N.nx sl (gput G x (.ins "RingWalk" dx ks' ds'))) : sFldD "RingWalk" f ee (eVar i) N sl G := by
  simp only [sFldD]
  refine he _ ?_
  simp only [eVar, hs, h]
  rw [hk, hv]
  exact ⟨trivial, hl, q⟩
end
theorem ixg_0 {n : Int} {rs : List Stretch} {G : Gp} {Q : DK} (q : Q (.int n) G) : oIx (ringD n rs) (.int 0) G Q := ixt_0 (d := .int n) rfl q
theorem ixg_1 {n : Int} {rs : List Stretch} {G : Gp} {Q : DK} (q : Q (.lst (rs.map Stretch.d)) G) : oIx (ringD n rs) (.int 1) G Q := ixt_0 (d := .lst (rs.map Stretch.d)) rfl q
theorem d_RingWalk___init__ (ds : List D) (G : Gp) (Q : DK) (h : F_RingWalk___init__ ds G Q) : r_RingWalk___init__ (fin G Q) (startD 3 ds) G := by
  obtain ⟨x, dx, n, rs, nb, rfl, hx, k⟩ := h
  refine seq_gen fun W hW => ?_
  (try dsimp only [sAsg, sIf, sRet, sRetN, sDrop, sNext, asg, setAll, eT, eOp, eUn, eLst, eTup, eCons, eNil, eVar, eC, eCall, eCB, eNot, eAnd, eOr, eTru, eAndT, eOrT, eNotT, eIf, ePart, eNoPart, eYes, eChain, eChain3, oI, oI0, oLt, oLe, oGt, oGe, oNeg, oSub, oMod, oMul, oDivW, eXp, eXa, eConsX, eCallX, eCallN, eLstX, eCBX, sDropX, sRetX, sAsgX, sRaise, sRaiseF, List.set_cons_zero, List.set_cons_succ, List.getElem?_cons_zero, List.getElem?_cons_succ, truD_bl, startD, List.map_cons, List.map_nil, List.cons_append, List.nil_append, List.replicate]); (try simp only [if_true, Bool.false_eq_true, if_false, decide_true, decide_false, Bool.not_true, Bool.not_false, List.length_cons, List.length_nil, sizeLine_eq, Nat.reduceAdd, Nat.reduceLeDiff, true_and, and_true, pw6, pw10, pw11, pw12, pw13, pw30, pw40, pw60, startD, List.map_cons, List.map_nil, List.cons_append, List.nil_append, List.replicate]); (try dsimp only [sAsg, sIf, sRet, sRetN, sDrop, sNext, asg, setAll, eT, eOp, eUn, eLst, eTup, eCons, eNil, eVar, eC, eCall, eCB, eNot, eAnd, eOr, eTru, eAndT, eOrT, eNotT, eIf, ePart, eNoPart, eYes, eChain, eChain3, oI, oI0, oLt, oLe, oGt, oGe, oNeg, oSub, oMod, oMul, oDivW, eXp, eXa, eConsX, eCallX, eCallN, eLstX, eCBX, sDropX, sRetX, sAsgX, sRaise, sRaiseF, List.set_cons_zero, List.set_cons_succ, List.getElem?_cons_zero, List.getElem?_cons_succ, truD_bl, startD, List.map_cons, List.map_nil, List.cons_append, List.nil_append, List.replicate])
  refine set_wk (v := ringD n rs) (ks' := ["ring"]) (ds' := [ringD n rs]) rfl (fun Q q => q) hx (by decide +kernel) (by simp [putFv]) (by decide) (hW _ _ ?_)
  refine seq_gen fun W2 hW2 => ?_
  refine set_wk (v := .int nb) (ks' := ["ring", "benches"]) (ds' := [ringD n rs, .int nb]) rfl (fun Q q => q) gput_same (by decide +kernel) (by simp [putFv]) (by decide) (hW2 _ _ ?_)
  rw [gput_gput]
  refine seq_gen fun W3 hW3 => ?_
  refine set_wk (v := .int 0) (ks' := ["ring", "benches", "met"]) (ds' := [ringD n rs, .int nb, .int 0]) rfl (fun Q q => q) gput_same (by decide +kernel) (by simp [putFv]) (by decide) (hW3 _ _ ?_)
  rw [gput_gput]
  (try dsimp only [sAsg, sIf, sRet, sRetN, sDrop, sNext, asg, setAll, eT, eOp, eUn, eLst, eTup, eCons, eNil, eVar, eC, eCall, eCB, eNot, eAnd, eOr, eTru, eAndT, eOrT, eNotT, eIf, ePart, eNoPart, eYes, eChain, eChain3, oI, oI0, oLt, oLe, oGt, oGe, oNeg, oSub, oMod, oMul, oDivW, eXp, eXa, eConsX, eCallX, eCallN, eLstX, eCBX, sDropX, sRetX, sAsgX, sRaise, sRaiseF, List.set_cons_zero, List.set_cons_succ, List.getElem?_cons_zero, List.getElem?_cons_succ, truD_bl, sFldD, eLstO]); (try simp only [if_true, Bool.false_eq_true, if_false, decide_true, decide_false, Bool.not_true, Bool.not_false, List.length_cons, List.length_nil, sizeLine_eq, Nat.reduceAdd, Nat.reduceLeDiff, true_and, and_true, pw6, pw10, pw11, pw12, pw13, pw30, pw40, pw60, sFldD, eLstO]); (try dsimp only [sAsg, sIf, sRet, sRetN, sDrop, sNext, asg, setAll, eT, eOp, eUn, eLst, eTup, eCons, eNil, eVar, eC, eCall, eCB, eNot, eAnd, eOr, eTru, eAndT, eOrT, eNotT, eIf, ePart, eNoPart, eYes, eChain, eChain3, oI, oI0, oLt, oLe, oGt, oGe, oNeg, oSub, oMod, oMul, oDivW, eXp, eXa, eConsX, eCallX, eCallN, eLstX, eCBX, sDropX, sRetX, sAsgX, sRaise, sRaiseF, List.set_cons_zero, List.set_cons_succ, List.getElem?_cons_zero, List.getElem?_cons_succ, truD_bl, sFldD, eLstO])
  intro s hs
  have xs : x ≠ s := fun e => by rw [← e, gput_same] at hs; cases hs
  rw [gput_ne xs.symm] at hs
  rw [gput_ne xs, gput_same]
  refine ⟨rfl, by decide, fin_nx ?_⟩
  have e1 : putFk "sums" (["ring", "benches", "met"] : List Str) = wkKs := by decide +kernel
  have e2 : putFv "sums" (.ref s) (["ring", "benches", "met"] : List Str) [ringD n rs, .int nb, .int 0] = [ringD n rs, .int nb, .int 0, .ref s] := by simp [putFv]
  have e3 : gput (gput (gput G x (GO.ins (Str.ofString "RingWalk") dx [Str.ofString "ring", Str.ofString "benches", Str.ofString "met"] [ringD n rs, .int nb, .int 0])) s (GO.lst [])) x (GO.ins (Str.ofString "RingWalk") dx wkKs [ringD n rs, .int nb, .int 0, .ref s]) = wput G x s dx n rs nb 0 [] := by
    rw [gput_swap xs.symm, gput_comm xs]
    rfl
  rw [e1, e2, e3]
  exact k s hs
theorem notIn_nats {i : Nat} {l : List Nat} {G : Gp} {Q : DK} (q : Q (.bl (decide (i ∉ l))) G) : oIn true (.int (i : Int)) (.lst (nD l)) G Q := by
  simp only [oIn, flD, lkQ_lst, Option.bind_some, flDs_nD, inV_nD, if_true]
  rw [show (!decide (i ∈ l)) = decide (i ∉ l) by simp]
  exact q
theorem in_natsL {i : Nat} {l : List Nat} {G : Gp} {Q : DK} (q : Q (.bl (decide (i ∈ l))) G) : oIn false (.int (i : Int)) (.lst (nD l)) G Q := by
  simp only [oIn, flD, lkQ_lst, Option.bind_some, flDs_nD, inV_nD, Bool.false_eq_true, if_false]
  exact q
/-- the comprehension of the free ones -/
theorem compW_free {rs : List Stretch} {ins outs : List Nat} {s0 : Sd} {a b v : Nat} {G : Gp} {Q : List D → Gp → Prop} (hv : v < s0.length) (ha : a ≠ v) (hb : b ≠ v) (e1 : s0[a]? = some (some (.lst (nD ins)))) (e2 : s0[b]? = some (some (.lst (nD outs))))
    (k : Q (nD (freeZ rs ins outs)) G) : compW s0 (.nm v) (eAnd (eT (eOp (oIn true) (eVar v) (eVar a))) (eT (eOp (oIn true) (eVar v) (eVar b)))) (eVar v) (fun _ => True) ((List.range rs.length).map fun i : Nat => D.int (i : Int)) [] G Q := by
  refine compW_map (p := fun i => decide (i ∉ ins) && decide (i ∉ outs)) (f := fun i : Nat => D.int (i : Int)) trivial (List.range rs.length) [] (fun i hi => ⟨_, rfl, fun R r => ?_, fun _ R r => ?_⟩) ?_
  · have q0 : (s0.set v (some (D.int (i : Int))))[v]? = some (some (.int (i : Int))) := List.getElem?_set_self hv
    have q1 : (s0.set v (some (D.int (i : Int))))[a]? = some (some (.lst (nD ins))) := by rw [List.getElem?_set_ne ha.symm]; exact e1
    have q2 : (s0.set v (some (D.int (i : Int))))[b]? = some (some (.lst (nD outs))) := by rw [List.getElem?_set_ne hb.symm]; exact e2
    simp only [eAnd, eT, eOp, eVar, q0, q1, q2]
    refine notIn_nats ?_
    by_cases c : i ∉ ins
    · rw [decide_eq_true c] at r ⊢
      simp only [Bool.true_and] at r
      simp only [if_true]
      exact notIn_nats r
    · rw [decide_eq_false c] at r ⊢
      simp only [Bool.false_and] at r
      simp only [Bool.false_eq_true, if_false]
      exact r
  · simp only [eVar, List.getElem?_set_self hv]
    exact r
  · rw [List.nil_append]
    exact k
theorem rng_nat0 (m : Nat) : rngD 0 m = (List.range m).map fun i : Nat => D.int (i : Int) := by
  unfold rngD
  refine List.map_congr_left fun i _ => ?_
  rw [Int.zero_add]
theorem d_RingWalk_free (ds : List D) (G : Gp) (Q : DK) (h : F_RingWalk_free ds G Q) : r_RingWalk_free (fin G Q) (startD 4 ds) G := by
  obtain ⟨x, s, dx, n, rs, nb, met, ss, ins, outs, rfl, hw, hr, k⟩ := h
  have rl := hr.len
  unfold r_RingWalk_free
  (try dsimp only [sAsg, sIf, sRet, sRetN, sDrop, sNext, asg, setAll, eT, eOp, eUn, eLst, eTup, eCons, eNil, eVar, eC, eCall, eCB, eNot, eAnd, eOr, eTru, eAndT, eOrT, eNotT, eIf, ePart, eNoPart, eYes, eChain, eChain3, oI, oI0, oLt, oLe, oGt, oGe, oNeg, oSub, oMod, oMul, oDivW, eXp, eXa, eConsX, eCallX, eCallN, eLstX, eCBX, sDropX, sRetX, sAsgX, sRaise, sRaiseF, List.set_cons_zero, List.set_cons_succ, List.getElem?_cons_zero, List.getElem?_cons_succ, truD_bl, startD, List.map_cons, List.map_nil, List.cons_append, List.nil_append, List.replicate, eLc, iR1]); (try simp only [if_true, Bool.false_eq_true, if_false, decide_true, decide_false, Bool.not_true, Bool.not_false, List.length_cons, List.length_nil, sizeLine_eq, Nat.reduceAdd, Nat.reduceLeDiff, true_and, and_true, pw6, pw10, pw11, pw12, pw13, pw30, pw40, pw60, startD, List.map_cons, List.map_nil, List.cons_append, List.nil_append, List.replicate, eLc, iR1]); (try dsimp only [sAsg, sIf, sRet, sRetN, sDrop, sNext, asg, setAll, eT, eOp, eUn, eLst, eTup, eCons, eNil, eVar, eC, eCall, eCB, eNot, eAnd, eOr, eTru, eAndT, eOrT, eNotT, eIf, ePart, eNoPart, eYes, eChain, eChain3, oI, oI0, oLt, oLe, oGt, oGe, oNeg, oSub, oMod, oMul, oDivW, eXp, eXa, eConsX, eCallX, eCallN, eLstX, eCBX, sDropX, sRetX, sAsgX, sRaise, sRaiseF, List.set_cons_zero, List.set_cons_succ, List.getElem?_cons_zero, List.getElem?_cons_succ, truD_bl, startD, List.map_cons, List.map_nil, List.cons_append, List.nil_append, List.replicate, eLc, iR1])
  refine w_rg rfl hw (ixg_1 (len_lst ?_))
  rw [List.length_map]
  (try dsimp only [sAsg, sIf, sRet, sRetN, sDrop, sNext, asg, setAll, eT, eOp, eUn, eLst, eTup, eCons, eNil, eVar, eC, eCall, eCB, eNot, eAnd, eOr, eTru, eAndT, eOrT, eNotT, eIf, ePart, eNoPart, eYes, eChain, eChain3, oI, oI0, oLt, oLe, oGt, oGe, oNeg, oSub, oMod, oMul, oDivW, eXp, eXa, eConsX, eCallX, eCallN, eLstX, eCBX, sDropX, sRetX, sAsgX, sRaise, sRaiseF, List.set_cons_zero, List.set_cons_succ, List.getElem?_cons_zero, List.getElem?_cons_succ, truD_bl]); (try simp only [if_true, Bool.false_eq_true, if_false, decide_true, decide_false, Bool.not_true, Bool.not_false, List.length_cons, List.length_nil, sizeLine_eq, Nat.reduceAdd, Nat.reduceLeDiff, true_and, and_true, pw6, pw10, pw11, pw12, pw13, pw30, pw40, pw60]); (try dsimp only [sAsg, sIf, sRet, sRetN, sDrop, sNext, asg, setAll, eT, eOp, eUn, eLst, eTup, eCons, eNil, eVar, eC, eCall, eCB, eNot, eAnd, eOr, eTru, eAndT, eOrT, eNotT, eIf, ePart, eNoPart, eYes, eChain, eChain3, oI, oI0, oLt, oLe, oGt, oGe, oNeg, oSub, oMod, oMul, oDivW, eXp, eXa, eConsX, eCallX, eCallN, eLstX, eCBX, sDropX, sRetX, sAsgX, sRaise, sRaiseF, List.set_cons_zero, List.set_cons_succ, List.getElem?_cons_zero, List.getElem?_cons_succ, truD_bl])
  refine ⟨by omega, by omega, ?_⟩
  rw [Int.toNat_natCast, rng_nat0]
  refine compW_free (by simp [wipeD]) (by decide) (by decide) rfl rfl ?_
  exact fin_id k
theorem d_ring_rest (ds : List D) (G : Gp) (Q : DK) (h : F_ring_rest ds G Q) : r_ring_rest (fin G Q) (startD 6 ds) G := by
  obtain ⟨n, rs, i, pp, rfl, hn, hi, k⟩ := h
  refine seq_gen fun W hW => ?_
  (try dsimp only [sAsg, sIf, sRet, sRetN, sDrop, sNext, asg, setAll, eT, eOp, eUn, eLst, eTup, eCons, eNil, eVar, eC, eCall, eCB, eNot, eAnd, eOr, eTru, eAndT, eOrT, eNotT, eIf, ePart, eNoPart, eYes, eChain, eChain3, oI, oI0, oLt, oLe, oGt, oGe, oNeg, oSub, oMod, oMul, oDivW, eXp, eXa, eConsX, eCallX, eCallN, eLstX, eCBX, sDropX, sRetX, sAsgX, sRaise, sRaiseF, List.set_cons_zero, List.set_cons_succ, List.getElem?_cons_zero, List.getElem?_cons_succ, truD_bl, startD, List.map_cons, List.map_nil, List.cons_append, List.nil_append, List.replicate, eLc, iL, lkL_lst]); (try simp only [if_true, Bool.false_eq_true, if_false, decide_true, decide_false, Bool.not_true, Bool.not_false, List.length_cons, List.length_nil, sizeLine_eq, Nat.reduceAdd, Nat.reduceLeDiff, true_and, and_true, pw6, pw10, pw11, pw12, pw13, pw30, pw40, pw60, startD, List.map_cons, List.map_nil, List.cons_append, List.nil_append, List.replicate, eLc, iL, lkL_lst]); (try dsimp only [sAsg, sIf, sRet, sRetN, sDrop, sNext, asg, setAll, eT, eOp, eUn, eLst, eTup, eCons, eNil, eVar, eC, eCall, eCB, eNot, eAnd, eOr, eTru, eAndT, eOrT, eNotT, eIf, ePart, eNoPart, eYes, eChain, eChain3, oI, oI0, oLt, oLe, oGt, oGe, oNeg, oSub, oMod, oMul, oDivW, eXp, eXa, eConsX, eCallX, eCallN, eLstX, eCBX, sDropX, sRetX, sAsgX, sRaise, sRaiseF, List.set_cons_zero, List.set_cons_succ, List.getElem?_cons_zero, List.getElem?_cons_succ, truD_bl, startD, List.map_cons, List.map_nil, List.cons_append, List.nil_append, List.replicate, eLc, iL, lkL_lst])
  refine compW_map (p := fun x => overR n (st rs i) x.1) (g := qD) (f := fun x => D.int x.2) trivial pp [] (fun y hy => ⟨_, rfl, fun R r => ?_, fun _ R r => ?_⟩) ?_
  · (try dsimp only [sAsg, sIf, sRet, sRetN, sDrop, sNext, asg, setAll, eT, eOp, eUn, eLst, eTup, eCons, eNil, eVar, eC, eCall, eCB, eNot, eAnd, eOr, eTru, eAndT, eOrT, eNotT, eIf, ePart, eNoPart, eYes, eChain, eChain3, oI, oI0, oLt, oLe, oGt, oGe, oNeg, oSub, oMod, oMul, oDivW, eXp, eXa, eConsX, eCallX, eCallN, eLstX, eCBX, sDropX, sRetX, sAsgX, sRaise, sRaiseF, List.set_cons_zero, List.set_cons_succ, List.getElem?_cons_zero, List.getElem?_cons_succ, truD_bl, wipeD, List.foldl_cons, List.foldl_nil]); (try simp only [if_true, Bool.false_eq_true, if_false, decide_true, decide_false, Bool.not_true, Bool.not_false, List.length_cons, List.length_nil, sizeLine_eq, Nat.reduceAdd, Nat.reduceLeDiff, true_and, and_true, pw6, pw10, pw11, pw12, pw13, pw30, pw40, pw60, wipeD, List.foldl_cons, List.foldl_nil]); (try dsimp only [sAsg, sIf, sRet, sRetN, sDrop, sNext, asg, setAll, eT, eOp, eUn, eLst, eTup, eCons, eNil, eVar, eC, eCall, eCB, eNot, eAnd, eOr, eTru, eAndT, eOrT, eNotT, eIf, ePart, eNoPart, eYes, eChain, eChain3, oI, oI0, oLt, oLe, oGt, oGe, oNeg, oSub, oMod, oMul, oDivW, eXp, eXa, eConsX, eCallX, eCallN, eLstX, eCBX, sDropX, sRetX, sAsgX, sRaise, sRaiseF, List.set_cons_zero, List.set_cons_succ, List.getElem?_cons_zero, List.getElem?_cons_succ, truD_bl, wipeD, List.foldl_cons, List.foldl_nil])
    refine over_ring_ok hn hi ?_
    (try dsimp only [sAsg, sIf, sRet, sRetN, sDrop, sNext, asg, setAll, eT, eOp, eUn, eLst, eTup, eCons, eNil, eVar, eC, eCall, eCB, eNot, eAnd, eOr, eTru, eAndT, eOrT, eNotT, eIf, ePart, eNoPart, eYes, eChain, eChain3, oI, oI0, oLt, oLe, oGt, oGe, oNeg, oSub, oMod, oMul, oDivW, eXp, eXa, eConsX, eCallX, eCallN, eLstX, eCBX, sDropX, sRetX, sAsgX, sRaise, sRaiseF, List.set_cons_zero, List.set_cons_succ, List.getElem?_cons_zero, List.getElem?_cons_succ, truD_bl]); (try simp only [if_true, Bool.false_eq_true, if_false, decide_true, decide_false, Bool.not_true, Bool.not_false, List.length_cons, List.length_nil, sizeLine_eq, Nat.reduceAdd, Nat.reduceLeDiff, true_and, and_true, pw6, pw10, pw11, pw12, pw13, pw30, pw40, pw60]); (try dsimp only [sAsg, sIf, sRet, sRetN, sDrop, sNext, asg, setAll, eT, eOp, eUn, eLst, eTup, eCons, eNil, eVar, eC, eCall, eCB, eNot, eAnd, eOr, eTru, eAndT, eOrT, eNotT, eIf, ePart, eNoPart, eYes, eChain, eChain3, oI, oI0, oLt, oLe, oGt, oGe, oNeg, oSub, oMod, oMul, oDivW, eXp, eXa, eConsX, eCallX, eCallN, eLstX, eCBX, sDropX, sRetX, sAsgX, sRaise, sRaiseF, List.set_cons_zero, List.set_cons_succ, List.getElem?_cons_zero, List.getElem?_cons_succ, truD_bl])
    exact r
  · (try dsimp only [sAsg, sIf, sRet, sRetN, sDrop, sNext, asg, setAll, eT, eOp, eUn, eLst, eTup, eCons, eNil, eVar, eC, eCall, eCB, eNot, eAnd, eOr, eTru, eAndT, eOrT, eNotT, eIf, ePart, eNoPart, eYes, eChain, eChain3, oI, oI0, oLt, oLe, oGt, oGe, oNeg, oSub, oMod, oMul, oDivW, eXp, eXa, eConsX, eCallX, eCallN, eLstX, eCBX, sDropX, sRetX, sAsgX, sRaise, sRaiseF, List.set_cons_zero, List.set_cons_succ, List.getElem?_cons_zero, List.getElem?_cons_succ, truD_bl]); (try simp only [if_true, Bool.false_eq_true, if_false, decide_true, decide_false, Bool.not_true, Bool.not_false, List.length_cons, List.length_nil, sizeLine_eq, Nat.reduceAdd, Nat.reduceLeDiff, true_and, and_true, pw6, pw10, pw11, pw12, pw13, pw30, pw40, pw60]); (try dsimp only [sAsg, sIf, sRet, sRetN, sDrop, sNext, asg, setAll, eT, eOp, eUn, eLst, eTup, eCons, eNil, eVar, eC, eCall, eCB, eNot, eAnd, eOr, eTru, eAndT, eOrT, eNotT, eIf, ePart, eNoPart, eYes, eChain, eChain3, oI, oI0, oLt, oLe, oGt, oGe, oNeg, oSub, oMod, oMul, oDivW, eXp, eXa, eConsX, eCallX, eCallN, eLstX, eCBX, sDropX, sRetX, sAsgX, sRaise, sRaiseF, List.set_cons_zero, List.set_cons_succ, List.getElem?_cons_zero, List.getElem?_cons_succ, truD_bl])
    exact r
  rw [List.nil_append]
  have e : (pp.filter fun x => overR n (st rs i) x.1).map (fun x => D.int x.2) = ((pp.filter fun x => overR n (st rs i) x.1).map (·.2)).map D.int := by rw [List.map_map]; rfl
  rw [e]
  (try dsimp only [sAsg, sIf, sRet, sRetN, sDrop, sNext, asg, setAll, eT, eOp, eUn, eLst, eTup, eCons, eNil, eVar, eC, eCall, eCB, eNot, eAnd, eOr, eTru, eAndT, eOrT, eNotT, eIf, ePart, eNoPart, eYes, eChain, eChain3, oI, oI0, oLt, oLe, oGt, oGe, oNeg, oSub, oMod, oMul, oDivW, eXp, eXa, eConsX, eCallX, eCallN, eLstX, eCBX, sDropX, sRetX, sAsgX, sRaise, sRaiseF, List.set_cons_zero, List.set_cons_succ, List.getElem?_cons_zero, List.getElem?_cons_succ, truD_bl, cSum, lkL_lst, Option.bind_some, intsD_map]); (try simp only [if_true, Bool.false_eq_true, if_false, decide_true, decide_false, Bool.not_true, Bool.not_false, List.length_cons, List.length_nil, sizeLine_eq, Nat.reduceAdd, Nat.reduceLeDiff, true_and, and_true, pw6, pw10, pw11, pw12, pw13, pw30, pw40, pw60, cSum, lkL_lst, Option.bind_some, intsD_map]); (try dsimp only [sAsg, sIf, sRet, sRetN, sDrop, sNext, asg, setAll, eT, eOp, eUn, eLst, eTup, eCons, eNil, eVar, eC, eCall, eCB, eNot, eAnd, eOr, eTru, eAndT, eOrT, eNotT, eIf, ePart, eNoPart, eYes, eChain, eChain3, oI, oI0, oLt, oLe, oGt, oGe, oNeg, oSub, oMod, oMul, oDivW, eXp, eXa, eConsX, eCallX, eCallN, eLstX, eCBX, sDropX, sRetX, sAsgX, sRaise, sRaiseF, List.set_cons_zero, List.set_cons_succ, List.getElem?_cons_zero, List.getElem?_cons_succ, truD_bl, cSum, lkL_lst, Option.bind_some, intsD_map])
  refine hW _ _ ?_
  (try dsimp only [sAsg, sIf, sRet, sRetN, sDrop, sNext, asg, setAll, eT, eOp, eUn, eLst, eTup, eCons, eNil, eVar, eC, eCall, eCB, eNot, eAnd, eOr, eTru, eAndT, eOrT, eNotT, eIf, ePart, eNoPart, eYes, eChain, eChain3, oI, oI0, oLt, oLe, oGt, oGe, oNeg, oSub, oMod, oMul, oDivW, eXp, eXa, eConsX, eCallX, eCallN, eLstX, eCBX, sDropX, sRetX, sAsgX, sRaise, sRaiseF, List.set_cons_zero, List.set_cons_succ, List.getElem?_cons_zero, List.getElem?_cons_succ, truD_bl]); (try simp only [if_true, Bool.false_eq_true, if_false, decide_true, decide_false, Bool.not_true, Bool.not_false, List.length_cons, List.length_nil, sizeLine_eq, Nat.reduceAdd, Nat.reduceLeDiff, true_and, and_true, pw6, pw10, pw11, pw12, pw13, pw30, pw40, pw60]); (try dsimp only [sAsg, sIf, sRet, sRetN, sDrop, sNext, asg, setAll, eT, eOp, eUn, eLst, eTup, eCons, eNil, eVar, eC, eCall, eCB, eNot, eAnd, eOr, eTru, eAndT, eOrT, eNotT, eIf, ePart, eNoPart, eYes, eChain, eChain3, oI, oI0, oLt, oLe, oGt, oGe, oNeg, oSub, oMod, oMul, oDivW, eXp, eXa, eConsX, eCallX, eCallN, eLstX, eCBX, sDropX, sRetX, sAsgX, sRaise, sRaiseF, List.set_cons_zero, List.set_cons_succ, List.getElem?_cons_zero, List.getElem?_cons_succ, truD_bl])
  refine ixg_1 (ix_at (bk_at hi) (ixt_0 (d := .int (st rs i).w) rfl ?_))
  (try dsimp only [sAsg, sIf, sRet, sRetN, sDrop, sNext, asg, setAll, eT, eOp, eUn, eLst, eTup, eCons, eNil, eVar, eC, eCall, eCB, eNot, eAnd, eOr, eTru, eAndT, eOrT, eNotT, eIf, ePart, eNoPart, eYes, eChain, eChain3, oI, oI0, oLt, oLe, oGt, oGe, oNeg, oSub, oMod, oMul, oDivW, eXp, eXa, eConsX, eCallX, eCallN, eLstX, eCBX, sDropX, sRetX, sAsgX, sRaise, sRaiseF, List.set_cons_zero, List.set_cons_succ, List.getElem?_cons_zero, List.getElem?_cons_succ, truD_bl, cMax2]); (try simp only [if_true, Bool.false_eq_true, if_false, decide_true, decide_false, Bool.not_true, Bool.not_false, List.length_cons, List.length_nil, sizeLine_eq, Nat.reduceAdd, Nat.reduceLeDiff, true_and, and_true, pw6, pw10, pw11, pw12, pw13, pw30, pw40, pw60, cMax2]); (try dsimp only [sAsg, sIf, sRet, sRetN, sDrop, sNext, asg, setAll, eT, eOp, eUn, eLst, eTup, eCons, eNil, eVar, eC, eCall, eCB, eNot, eAnd, eOr, eTru, eAndT, eOrT, eNotT, eIf, ePart, eNoPart, eYes, eChain, eChain3, oI, oI0, oLt, oLe, oGt, oGe, oNeg, oSub, oMod, oMul, oDivW, eXp, eXa, eConsX, eCallX, eCallN, eLstX, eCBX, sDropX, sRetX, sAsgX, sRaise, sRaiseF, List.set_cons_zero, List.set_cons_succ, List.getElem?_cons_zero, List.getElem?_cons_succ, truD_bl, cMax2])
  have e2 : (if (st rs i).w - ((pp.filter fun x => overR n (st rs i) x.1).map (·.2)).sum > 0 then (st rs i).w - ((pp.filter fun x => overR n (st rs i) x.1).map (·.2)).sum else 0) = restR n (st rs i) pp := rfl
  exact fin_id (e2 ▸ k)
end DL
set_option Elab.async false
set_option linter.all false
set_option maxRecDepth 100000
set_option maxHeartbeats 4000000
namespace DL
open PySem PySem.Spec PyProof.Rows L2 LN
theorem d_RingWalk_priced (ds : List D) (G : Gp) (Q : DK) (h : F_RingWalk_priced ds G Q) : r_RingWalk_priced (fin G Q) (startD 8 ds) G := by
  obtain ⟨x, s, dx, n, rs, nb, met, ss, pp, ins, outs, rfl, hw, hr, hi, hp, k⟩ := h
  have rl := hr.len
  have n1 := hr.n1
  refine seq_gen fun W hW => ?_
  (try dsimp only [sAsg, sIf, sRet, sRetN, sDrop, sNext, asg, setAll, eT, eOp, eUn, eLst, eTup, eCons, eNil, eVar, eC, eCall, eCB, eNot, eAnd, eOr, eTru, eAndT, eOrT, eNotT, eIf, ePart, eNoPart, eYes, eChain, eChain3, oI, oI0, oLt, oLe, oGt, oGe, oNeg, oSub, oMod, oMul, oDivW, eXp, eXa, eConsX, eCallX, eCallN, eLstX, eCBX, sDropX, sRetX, sAsgX, sRaise, sRaiseF, List.set_cons_zero, List.set_cons_succ, List.getElem?_cons_zero, List.getElem?_cons_succ, truD_bl, startD, List.map_cons, List.map_nil, List.cons_append, List.nil_append, List.replicate, eLc, iL, lkL_lst]); (try simp only [if_true, Bool.false_eq_true, if_false, decide_true, decide_false, Bool.not_true, Bool.not_false, List.length_cons, List.length_nil, sizeLine_eq, Nat.reduceAdd, Nat.reduceLeDiff, true_and, and_true, pw6, pw10, pw11, pw12, pw13, pw30, pw40, pw60, startD, List.map_cons, List.map_nil, List.cons_append, List.nil_append, List.replicate, eLc, iL, lkL_lst]); (try dsimp only [sAsg, sIf, sRet, sRetN, sDrop, sNext, asg, setAll, eT, eOp, eUn, eLst, eTup, eCons, eNil, eVar, eC, eCall, eCB, eNot, eAnd, eOr, eTru, eAndT, eOrT, eNotT, eIf, ePart, eNoPart, eYes, eChain, eChain3, oI, oI0, oLt, oLe, oGt, oGe, oNeg, oSub, oMod, oMul, oDivW, eXp, eXa, eConsX, eCallX, eCallN, eLstX, eCBX, sDropX, sRetX, sAsgX, sRaise, sRaiseF, List.set_cons_zero, List.set_cons_succ, List.getElem?_cons_zero, List.getElem?_cons_succ, truD_bl, startD, List.map_cons, List.map_nil, List.cons_append, List.nil_append, List.replicate, eLc, iL, lkL_lst])
  refine compW_all (g := fun i : Nat => D.int (i : Int)) (f := fun i => D.int (st rs i).w) trivial ins [] (fun i hi' => ⟨_, rfl, fun R r => ?_⟩) ?_
  · (try dsimp only [sAsg, sIf, sRet, sRetN, sDrop, sNext, asg, setAll, eT, eOp, eUn, eLst, eTup, eCons, eNil, eVar, eC, eCall, eCB, eNot, eAnd, eOr, eTru, eAndT, eOrT, eNotT, eIf, ePart, eNoPart, eYes, eChain, eChain3, oI, oI0, oLt, oLe, oGt, oGe, oNeg, oSub, oMod, oMul, oDivW, eXp, eXa, eConsX, eCallX, eCallN, eLstX, eCBX, sDropX, sRetX, sAsgX, sRaise, sRaiseF, List.set_cons_zero, List.set_cons_succ, List.getElem?_cons_zero, List.getElem?_cons_succ, truD_bl, wipeD, List.foldl_cons, List.foldl_nil]); (try simp only [if_true, Bool.false_eq_true, if_false, decide_true, decide_false, Bool.not_true, Bool.not_false, List.length_cons, List.length_nil, sizeLine_eq, Nat.reduceAdd, Nat.reduceLeDiff, true_and, and_true, pw6, pw10, pw11, pw12, pw13, pw30, pw40, pw60, wipeD, List.foldl_cons, List.foldl_nil]); (try dsimp only [sAsg, sIf, sRet, sRetN, sDrop, sNext, asg, setAll, eT, eOp, eUn, eLst, eTup, eCons, eNil, eVar, eC, eCall, eCB, eNot, eAnd, eOr, eTru, eAndT, eOrT, eNotT, eIf, ePart, eNoPart, eYes, eChain, eChain3, oI, oI0, oLt, oLe, oGt, oGe, oNeg, oSub, oMod, oMul, oDivW, eXp, eXa, eConsX, eCallX, eCallN, eLstX, eCBX, sDropX, sRetX, sAsgX, sRaise, sRaiseF, List.set_cons_zero, List.set_cons_succ, List.getElem?_cons_zero, List.getElem?_cons_succ, truD_bl, wipeD, List.foldl_cons, List.foldl_nil])
    refine w_rg rfl hw (ixg_1 (ix_at (bk_at (hi i hi')) (ixt_0 (d := .int (st rs i).w) rfl r)))
  rw [List.nil_append]
  have e : ins.map (fun i => D.int (st rs i).w) = (ins.map fun i => (st rs i).w).map D.int := by rw [List.map_map]; rfl
  rw [e]
  (try dsimp only [sAsg, sIf, sRet, sRetN, sDrop, sNext, asg, setAll, eT, eOp, eUn, eLst, eTup, eCons, eNil, eVar, eC, eCall, eCB, eNot, eAnd, eOr, eTru, eAndT, eOrT, eNotT, eIf, ePart, eNoPart, eYes, eChain, eChain3, oI, oI0, oLt, oLe, oGt, oGe, oNeg, oSub, oMod, oMul, oDivW, eXp, eXa, eConsX, eCallX, eCallN, eLstX, eCBX, sDropX, sRetX, sAsgX, sRaise, sRaiseF, List.set_cons_zero, List.set_cons_succ, List.getElem?_cons_zero, List.getElem?_cons_succ, truD_bl, cSum, lkL_lst, Option.bind_some, intsD_map]); (try simp only [if_true, Bool.false_eq_true, if_false, decide_true, decide_false, Bool.not_true, Bool.not_false, List.length_cons, List.length_nil, sizeLine_eq, Nat.reduceAdd, Nat.reduceLeDiff, true_and, and_true, pw6, pw10, pw11, pw12, pw13, pw30, pw40, pw60, cSum, lkL_lst, Option.bind_some, intsD_map]); (try dsimp only [sAsg, sIf, sRet, sRetN, sDrop, sNext, asg, setAll, eT, eOp, eUn, eLst, eTup, eCons, eNil, eVar, eC, eCall, eCB, eNot, eAnd, eOr, eTru, eAndT, eOrT, eNotT, eIf, ePart, eNoPart, eYes, eChain, eChain3, oI, oI0, oLt, oLe, oGt, oGe, oNeg, oSub, oMod, oMul, oDivW, eXp, eXa, eConsX, eCallX, eCallN, eLstX, eCBX, sDropX, sRetX, sAsgX, sRaise, sRaiseF, List.set_cons_zero, List.set_cons_succ, List.getElem?_cons_zero, List.getElem?_cons_succ, truD_bl, cSum, lkL_lst, Option.bind_some, intsD_map])
  refine hW _ _ ?_
  refine seq_gen fun W2 hW2 => ?_
  (try dsimp only [sAsg, sIf, sRet, sRetN, sDrop, sNext, asg, setAll, eT, eOp, eUn, eLst, eTup, eCons, eNil, eVar, eC, eCall, eCB, eNot, eAnd, eOr, eTru, eAndT, eOrT, eNotT, eIf, ePart, eNoPart, eYes, eChain, eChain3, oI, oI0, oLt, oLe, oGt, oGe, oNeg, oSub, oMod, oMul, oDivW, eXp, eXa, eConsX, eCallX, eCallN, eLstX, eCBX, sDropX, sRetX, sAsgX, sRaise, sRaiseF, List.set_cons_zero, List.set_cons_succ, List.getElem?_cons_zero, List.getElem?_cons_succ, truD_bl, sFor, iL, lkL_lst]); (try simp only [if_true, Bool.false_eq_true, if_false, decide_true, decide_false, Bool.not_true, Bool.not_false, List.length_cons, List.length_nil, sizeLine_eq, Nat.reduceAdd, Nat.reduceLeDiff, true_and, and_true, pw6, pw10, pw11, pw12, pw13, pw30, pw40, pw60, sFor, iL, lkL_lst]); (try dsimp only [sAsg, sIf, sRet, sRetN, sDrop, sNext, asg, setAll, eT, eOp, eUn, eLst, eTup, eCons, eNil, eVar, eC, eCall, eCB, eNot, eAnd, eOr, eTru, eAndT, eOrT, eNotT, eIf, ePart, eNoPart, eYes, eChain, eChain3, oI, oI0, oLt, oLe, oGt, oGe, oNeg, oSub, oMod, oMul, oDivW, eXp, eXa, eConsX, eCallX, eCallN, eLstX, eCBX, sDropX, sRetX, sAsgX, sRaise, sRaiseF, List.set_cons_zero, List.set_cons_succ, List.getElem?_cons_zero, List.getElem?_cons_succ, truD_bl, sFor, iL, lkL_lst])
  refine forW_ind (g := qD) (fun r sl G' => ∃ (done : Paper) (o5 o6 : Option D), G' = G ∧ pp = done ++ r ∧ sl = [some (.ref x), some (.lst (pp.map qD)), some (.lst (nD ins)), some (.lst (nD outs)), some (.int ((ins.map fun i => (st rs i).w).sum + (done.map fun x => x.2 * (nb - (loadOn n rs ins x.1 : Int))).sum)), o5, o6, none]) (fun _ _ _ _ => stays_of lkL_lst) ?_ ?_ pp _ _ ⟨[], none, none, rfl, rfl, ?_⟩
  · rintro y r sl G' W ⟨done, o5, o6, rfl, ep, rfl⟩ hW'
    (try dsimp only [sAsg, sIf, sRet, sRetN, sDrop, sNext, asg, setAll, eT, eOp, eUn, eLst, eTup, eCons, eNil, eVar, eC, eCall, eCB, eNot, eAnd, eOr, eTru, eAndT, eOrT, eNotT, eIf, ePart, eNoPart, eYes, eChain, eChain3, oI, oI0, oLt, oLe, oGt, oGe, oNeg, oSub, oMod, oMul, oDivW, eXp, eXa, eConsX, eCallX, eCallN, eLstX, eCBX, sDropX, sRetX, sAsgX, sRaise, sRaiseF, List.set_cons_zero, List.set_cons_succ, List.getElem?_cons_zero, List.getElem?_cons_succ, truD_bl, qD, lkQ_tup]); (try simp only [if_true, Bool.false_eq_true, if_false, decide_true, decide_false, Bool.not_true, Bool.not_false, List.length_cons, List.length_nil, sizeLine_eq, Nat.reduceAdd, Nat.reduceLeDiff, true_and, and_true, pw6, pw10, pw11, pw12, pw13, pw30, pw40, pw60, qD, lkQ_tup]); (try dsimp only [sAsg, sIf, sRet, sRetN, sDrop, sNext, asg, setAll, eT, eOp, eUn, eLst, eTup, eCons, eNil, eVar, eC, eCall, eCB, eNot, eAnd, eOr, eTru, eAndT, eOrT, eNotT, eIf, ePart, eNoPart, eYes, eChain, eChain3, oI, oI0, oLt, oLe, oGt, oGe, oNeg, oSub, oMod, oMul, oDivW, eXp, eXa, eConsX, eCallX, eCallN, eLstX, eCBX, sDropX, sRetX, sAsgX, sRaise, sRaiseF, List.set_cons_zero, List.set_cons_succ, List.getElem?_cons_zero, List.getElem?_cons_succ, truD_bl, qD, lkQ_tup])
    unfold r_RingWalk_priced_L1
    (try dsimp only [sAsg, sIf, sRet, sRetN, sDrop, sNext, asg, setAll, eT, eOp, eUn, eLst, eTup, eCons, eNil, eVar, eC, eCall, eCB, eNot, eAnd, eOr, eTru, eAndT, eOrT, eNotT, eIf, ePart, eNoPart, eYes, eChain, eChain3, oI, oI0, oLt, oLe, oGt, oGe, oNeg, oSub, oMod, oMul, oDivW, eXp, eXa, eConsX, eCallX, eCallN, eLstX, eCBX, sDropX, sRetX, sAsgX, sRaise, sRaiseF, List.set_cons_zero, List.set_cons_succ, List.getElem?_cons_zero, List.getElem?_cons_succ, truD_bl]); (try simp only [if_true, Bool.false_eq_true, if_false, decide_true, decide_false, Bool.not_true, Bool.not_false, List.length_cons, List.length_nil, sizeLine_eq, Nat.reduceAdd, Nat.reduceLeDiff, true_and, and_true, pw6, pw10, pw11, pw12, pw13, pw30, pw40, pw60]); (try dsimp only [sAsg, sIf, sRet, sRetN, sDrop, sNext, asg, setAll, eT, eOp, eUn, eLst, eTup, eCons, eNil, eVar, eC, eCall, eCB, eNot, eAnd, eOr, eTru, eAndT, eOrT, eNotT, eIf, ePart, eNoPart, eYes, eChain, eChain3, oI, oI0, oLt, oLe, oGt, oGe, oNeg, oSub, oMod, oMul, oDivW, eXp, eXa, eConsX, eCallX, eCallN, eLstX, eCBX, sDropX, sRetX, sAsgX, sRaise, sRaiseF, List.set_cons_zero, List.set_cons_succ, List.getElem?_cons_zero, List.getElem?_cons_succ, truD_bl])
    refine w_bn rfl hw (w_rg rfl hw (load_on_ok (by omega) hi ?_))
    (try dsimp only [sAsg, sIf, sRet, sRetN, sDrop, sNext, asg, setAll, eT, eOp, eUn, eLst, eTup, eCons, eNil, eVar, eC, eCall, eCB, eNot, eAnd, eOr, eTru, eAndT, eOrT, eNotT, eIf, ePart, eNoPart, eYes, eChain, eChain3, oI, oI0, oLt, oLe, oGt, oGe, oNeg, oSub, oMod, oMul, oDivW, eXp, eXa, eConsX, eCallX, eCallN, eLstX, eCBX, sDropX, sRetX, sAsgX, sRaise, sRaiseF, List.set_cons_zero, List.set_cons_succ, List.getElem?_cons_zero, List.getElem?_cons_succ, truD_bl]); (try simp only [if_true, Bool.false_eq_true, if_false, decide_true, decide_false, Bool.not_true, Bool.not_false, List.length_cons, List.length_nil, sizeLine_eq, Nat.reduceAdd, Nat.reduceLeDiff, true_and, and_true, pw6, pw10, pw11, pw12, pw13, pw30, pw40, pw60]); (try dsimp only [sAsg, sIf, sRet, sRetN, sDrop, sNext, asg, setAll, eT, eOp, eUn, eLst, eTup, eCons, eNil, eVar, eC, eCall, eCB, eNot, eAnd, eOr, eTru, eAndT, eOrT, eNotT, eIf, ePart, eNoPart, eYes, eChain, eChain3, oI, oI0, oLt, oLe, oGt, oGe, oNeg, oSub, oMod, oMul, oDivW, eXp, eXa, eConsX, eCallX, eCallN, eLstX, eCBX, sDropX, sRetX, sAsgX, sRaise, sRaiseF, List.set_cons_zero, List.set_cons_succ, List.getElem?_cons_zero, List.getElem?_cons_succ, truD_bl])
    have yp : y ∈ pp := by rw [ep]; simp
    have y1 := hp.p1 y yp
    have y2 := hp.p2 y yp
    refine ⟨cmul_l (by omega) (by omega), ?_⟩
    refine add_ii ?_
    (try dsimp only [sAsg, sIf, sRet, sRetN, sDrop, sNext, asg, setAll, eT, eOp, eUn, eLst, eTup, eCons, eNil, eVar, eC, eCall, eCB, eNot, eAnd, eOr, eTru, eAndT, eOrT, eNotT, eIf, ePart, eNoPart, eYes, eChain, eChain3, oI, oI0, oLt, oLe, oGt, oGe, oNeg, oSub, oMod, oMul, oDivW, eXp, eXa, eConsX, eCallX, eCallN, eLstX, eCBX, sDropX, sRetX, sAsgX, sRaise, sRaiseF, List.set_cons_zero, List.set_cons_succ, List.getElem?_cons_zero, List.getElem?_cons_succ, truD_bl]); (try simp only [if_true, Bool.false_eq_true, if_false, decide_true, decide_false, Bool.not_true, Bool.not_false, List.length_cons, List.length_nil, sizeLine_eq, Nat.reduceAdd, Nat.reduceLeDiff, true_and, and_true, pw6, pw10, pw11, pw12, pw13, pw30, pw40, pw60]); (try dsimp only [sAsg, sIf, sRet, sRetN, sDrop, sNext, asg, setAll, eT, eOp, eUn, eLst, eTup, eCons, eNil, eVar, eC, eCall, eCB, eNot, eAnd, eOr, eTru, eAndT, eOrT, eNotT, eIf, ePart, eNoPart, eYes, eChain, eChain3, oI, oI0, oLt, oLe, oGt, oGe, oNeg, oSub, oMod, oMul, oDivW, eXp, eXa, eConsX, eCallX, eCallN, eLstX, eCBX, sDropX, sRetX, sAsgX, sRaise, sRaiseF, List.set_cons_zero, List.set_cons_succ, List.getElem?_cons_zero, List.getElem?_cons_succ, truD_bl])
    refine hW' _ _ ⟨done ++ [y], some (.int y.1), some (.int y.2), rfl, by rw [ep]; simp, ?_⟩
    simp only [List.map_append, List.map_cons, List.map_nil, List.sum_append, List.sum_cons, List.sum_nil]
    rw [Int.add_zero, Int.add_assoc]
  · rintro sl G' ⟨done, o5, o6, rfl, ep, rfl⟩
    rw [List.append_nil] at ep
    subst ep
    refine hW2 _ _ ?_
    (try dsimp only [sAsg, sIf, sRet, sRetN, sDrop, sNext, asg, setAll, eT, eOp, eUn, eLst, eTup, eCons, eNil, eVar, eC, eCall, eCB, eNot, eAnd, eOr, eTru, eAndT, eOrT, eNotT, eIf, ePart, eNoPart, eYes, eChain, eChain3, oI, oI0, oLt, oLe, oGt, oGe, oNeg, oSub, oMod, oMul, oDivW, eXp, eXa, eConsX, eCallX, eCallN, eLstX, eCBX, sDropX, sRetX, sAsgX, sRaise, sRaiseF, List.set_cons_zero, List.set_cons_succ, List.getElem?_cons_zero, List.getElem?_cons_succ, truD_bl, eLc, iL, eMeth]); (try simp only [if_true, Bool.false_eq_true, if_false, decide_true, decide_false, Bool.not_true, Bool.not_false, List.length_cons, List.length_nil, sizeLine_eq, Nat.reduceAdd, Nat.reduceLeDiff, true_and, and_true, pw6, pw10, pw11, pw12, pw13, pw30, pw40, pw60, eLc, iL, eMeth]); (try dsimp only [sAsg, sIf, sRet, sRetN, sDrop, sNext, asg, setAll, eT, eOp, eUn, eLst, eTup, eCons, eNil, eVar, eC, eCall, eCB, eNot, eAnd, eOr, eTru, eAndT, eOrT, eNotT, eIf, ePart, eNoPart, eYes, eChain, eChain3, oI, oI0, oLt, oLe, oGt, oGe, oNeg, oSub, oMod, oMul, oDivW, eXp, eXa, eConsX, eCallX, eCallN, eLstX, eCBX, sDropX, sRetX, sAsgX, sRaise, sRaiseF, List.set_cons_zero, List.set_cons_succ, List.getElem?_cons_zero, List.getElem?_cons_succ, truD_bl, eLc, iL, eMeth])
    refine ⟨is_wk hw, x, s, dx, n, rs, nb, met, ss, ins, outs, rfl, hw, hr, ?_⟩
    simp only [lkL_lst]
    refine compW_all (g := fun i : Nat => D.int (i : Int)) (f := fun i => D.int (restR n (st rs i) pp)) (stays_of lkL_lst) (freeZ rs ins outs) [] (fun i hi' => ⟨_, rfl, fun R r => ?_⟩) ?_
    · (try dsimp only [sAsg, sIf, sRet, sRetN, sDrop, sNext, asg, setAll, eT, eOp, eUn, eLst, eTup, eCons, eNil, eVar, eC, eCall, eCB, eNot, eAnd, eOr, eTru, eAndT, eOrT, eNotT, eIf, ePart, eNoPart, eYes, eChain, eChain3, oI, oI0, oLt, oLe, oGt, oGe, oNeg, oSub, oMod, oMul, oDivW, eXp, eXa, eConsX, eCallX, eCallN, eLstX, eCBX, sDropX, sRetX, sAsgX, sRaise, sRaiseF, List.set_cons_zero, List.set_cons_succ, List.getElem?_cons_zero, List.getElem?_cons_succ, truD_bl, wipeD, List.foldl_cons, List.foldl_nil]); (try simp only [if_true, Bool.false_eq_true, if_false, decide_true, decide_false, Bool.not_true, Bool.not_false, List.length_cons, List.length_nil, sizeLine_eq, Nat.reduceAdd, Nat.reduceLeDiff, true_and, and_true, pw6, pw10, pw11, pw12, pw13, pw30, pw40, pw60, wipeD, List.foldl_cons, List.foldl_nil]); (try dsimp only [sAsg, sIf, sRet, sRetN, sDrop, sNext, asg, setAll, eT, eOp, eUn, eLst, eTup, eCons, eNil, eVar, eC, eCall, eCB, eNot, eAnd, eOr, eTru, eAndT, eOrT, eNotT, eIf, ePart, eNoPart, eYes, eChain, eChain3, oI, oI0, oLt, oLe, oGt, oGe, oNeg, oSub, oMod, oMul, oDivW, eXp, eXa, eConsX, eCallX, eCallN, eLstX, eCBX, sDropX, sRetX, sAsgX, sRaise, sRaiseF, List.set_cons_zero, List.set_cons_succ, List.getElem?_cons_zero, List.getElem?_cons_succ, truD_bl, wipeD, List.foldl_cons, List.foldl_nil])
      exact w_rg rfl hw ⟨n, rs, i, pp, rfl, by omega, (free_mem.mp hi').1, r⟩
    rw [List.nil_append]
    have e2 : (freeZ rs ins outs).map (fun i => D.int (restR n (st rs i) pp)) = ((freeZ rs ins outs).map fun i => restR n (st rs i) pp).map D.int := by rw [List.map_map]; rfl
    rw [e2]
    (try dsimp only [sAsg, sIf, sRet, sRetN, sDrop, sNext, asg, setAll, eT, eOp, eUn, eLst, eTup, eCons, eNil, eVar, eC, eCall, eCB, eNot, eAnd, eOr, eTru, eAndT, eOrT, eNotT, eIf, ePart, eNoPart, eYes, eChain, eChain3, oI, oI0, oLt, oLe, oGt, oGe, oNeg, oSub, oMod, oMul, oDivW, eXp, eXa, eConsX, eCallX, eCallN, eLstX, eCBX, sDropX, sRetX, sAsgX, sRaise, sRaiseF, List.set_cons_zero, List.set_cons_succ, List.getElem?_cons_zero, List.getElem?_cons_succ, truD_bl, cSum, lkL_lst, Option.bind_some, intsD_map]); (try simp only [if_true, Bool.false_eq_true, if_false, decide_true, decide_false, Bool.not_true, Bool.not_false, List.length_cons, List.length_nil, sizeLine_eq, Nat.reduceAdd, Nat.reduceLeDiff, true_and, and_true, pw6, pw10, pw11, pw12, pw13, pw30, pw40, pw60, cSum, lkL_lst, Option.bind_some, intsD_map]); (try dsimp only [sAsg, sIf, sRet, sRetN, sDrop, sNext, asg, setAll, eT, eOp, eUn, eLst, eTup, eCons, eNil, eVar, eC, eCall, eCB, eNot, eAnd, eOr, eTru, eAndT, eOrT, eNotT, eIf, ePart, eNoPart, eYes, eChain, eChain3, oI, oI0, oLt, oLe, oGt, oGe, oNeg, oSub, oMod, oMul, oDivW, eXp, eXa, eConsX, eCallX, eCallN, eLstX, eCBX, sDropX, sRetX, sAsgX, sRaise, sRaiseF, List.set_cons_zero, List.set_cons_succ, List.getElem?_cons_zero, List.getElem?_cons_succ, truD_bl, cSum, lkL_lst, Option.bind_some, intsD_map])
    refine add_ii (fin_id ?_)
    exact k
  · simp only [List.map_nil, List.sum_nil, Int.add_zero]
theorem d_RingWalk_is_crowd (ds : List D) (G : Gp) (Q : DK) (h : F_RingWalk_is_crowd ds G Q) : r_RingWalk_is_crowd (fin G Q) (startD 3 ds) G := by
  obtain ⟨x, s, dx, n, rs, nb, met, ss, d, ins, rfl, hw, hr, hi, ha, k1, k2⟩ := h
  have n1 := hr.n1
  refine seq_gen fun W hW => ?_
  (try dsimp only [sAsg, sIf, sRet, sRetN, sDrop, sNext, asg, setAll, eT, eOp, eUn, eLst, eTup, eCons, eNil, eVar, eC, eCall, eCB, eNot, eAnd, eOr, eTru, eAndT, eOrT, eNotT, eIf, ePart, eNoPart, eYes, eChain, eChain3, oI, oI0, oLt, oLe, oGt, oGe, oNeg, oSub, oMod, oMul, oDivW, eXp, eXa, eConsX, eCallX, eCallN, eLstX, eCBX, sDropX, sRetX, sAsgX, sRaise, sRaiseF, List.set_cons_zero, List.set_cons_succ, List.getElem?_cons_zero, List.getElem?_cons_succ, truD_bl, startD, List.map_cons, List.map_nil, List.cons_append, List.nil_append, List.replicate]); (try simp only [if_true, Bool.false_eq_true, if_false, decide_true, decide_false, Bool.not_true, Bool.not_false, List.length_cons, List.length_nil, sizeLine_eq, Nat.reduceAdd, Nat.reduceLeDiff, true_and, and_true, pw6, pw10, pw11, pw12, pw13, pw30, pw40, pw60, startD, List.map_cons, List.map_nil, List.cons_append, List.nil_append, List.replicate]); (try dsimp only [sAsg, sIf, sRet, sRetN, sDrop, sNext, asg, setAll, eT, eOp, eUn, eLst, eTup, eCons, eNil, eVar, eC, eCall, eCB, eNot, eAnd, eOr, eTru, eAndT, eOrT, eNotT, eIf, ePart, eNoPart, eYes, eChain, eChain3, oI, oI0, oLt, oLe, oGt, oGe, oNeg, oSub, oMod, oMul, oDivW, eXp, eXa, eConsX, eCallX, eCallN, eLstX, eCBX, sDropX, sRetX, sAsgX, sRaise, sRaiseF, List.set_cons_zero, List.set_cons_succ, List.getElem?_cons_zero, List.getElem?_cons_succ, truD_bl, startD, List.map_cons, List.map_nil, List.cons_append, List.nil_append, List.replicate])
  have no : (∀ m, d ≠ .int m) → W [some (.ref x), some d, some (.lst (nD ins))] G → True := fun _ _ => trivial
  by_cases c : ∃ m, d = .int m
  · obtain ⟨m, rfl⟩ := c
    have k1 := k1 m rfl
    refine whole_any ha ?_
    (try dsimp only [sAsg, sIf, sRet, sRetN, sDrop, sNext, asg, setAll, eT, eOp, eUn, eLst, eTup, eCons, eNil, eVar, eC, eCall, eCB, eNot, eAnd, eOr, eTru, eAndT, eOrT, eNotT, eIf, ePart, eNoPart, eYes, eChain, eChain3, oI, oI0, oLt, oLe, oGt, oGe, oNeg, oSub, oMod, oMul, oDivW, eXp, eXa, eConsX, eCallX, eCallN, eLstX, eCBX, sDropX, sRetX, sAsgX, sRaise, sRaiseF, List.set_cons_zero, List.set_cons_succ, List.getElem?_cons_zero, List.getElem?_cons_succ, truD_bl, whB]); (try simp only [if_true, Bool.false_eq_true, if_false, decide_true, decide_false, Bool.not_true, Bool.not_false, List.length_cons, List.length_nil, sizeLine_eq, Nat.reduceAdd, Nat.reduceLeDiff, true_and, and_true, pw6, pw10, pw11, pw12, pw13, pw30, pw40, pw60, whB]); (try dsimp only [sAsg, sIf, sRet, sRetN, sDrop, sNext, asg, setAll, eT, eOp, eUn, eLst, eTup, eCons, eNil, eVar, eC, eCall, eCB, eNot, eAnd, eOr, eTru, eAndT, eOrT, eNotT, eIf, ePart, eNoPart, eYes, eChain, eChain3, oI, oI0, oLt, oLe, oGt, oGe, oNeg, oSub, oMod, oMul, oDivW, eXp, eXa, eConsX, eCallX, eCallN, eLstX, eCBX, sDropX, sRetX, sAsgX, sRaise, sRaiseF, List.set_cons_zero, List.set_cons_succ, List.getElem?_cons_zero, List.getElem?_cons_succ, truD_bl, whB])
    by_cases c0 : 0 ≤ m
    · rw [decide_eq_true c0]
      (try dsimp only [sAsg, sIf, sRet, sRetN, sDrop, sNext, asg, setAll, eT, eOp, eUn, eLst, eTup, eCons, eNil, eVar, eC, eCall, eCB, eNot, eAnd, eOr, eTru, eAndT, eOrT, eNotT, eIf, ePart, eNoPart, eYes, eChain, eChain3, oI, oI0, oLt, oLe, oGt, oGe, oNeg, oSub, oMod, oMul, oDivW, eXp, eXa, eConsX, eCallX, eCallN, eLstX, eCBX, sDropX, sRetX, sAsgX, sRaise, sRaiseF, List.set_cons_zero, List.set_cons_succ, List.getElem?_cons_zero, List.getElem?_cons_succ, truD_bl]); (try simp only [if_true, Bool.false_eq_true, if_false, decide_true, decide_false, Bool.not_true, Bool.not_false, List.length_cons, List.length_nil, sizeLine_eq, Nat.reduceAdd, Nat.reduceLeDiff, true_and, and_true, pw6, pw10, pw11, pw12, pw13, pw30, pw40, pw60]); (try dsimp only [sAsg, sIf, sRet, sRetN, sDrop, sNext, asg, setAll, eT, eOp, eUn, eLst, eTup, eCons, eNil, eVar, eC, eCall, eCB, eNot, eAnd, eOr, eTru, eAndT, eOrT, eNotT, eIf, ePart, eNoPart, eYes, eChain, eChain3, oI, oI0, oLt, oLe, oGt, oGe, oNeg, oSub, oMod, oMul, oDivW, eXp, eXa, eConsX, eCallX, eCallN, eLstX, eCBX, sDropX, sRetX, sAsgX, sRaise, sRaiseF, List.set_cons_zero, List.set_cons_succ, List.getElem?_cons_zero, List.getElem?_cons_succ, truD_bl])
      refine w_rg rfl hw ?_
      (try dsimp only [sAsg, sIf, sRet, sRetN, sDrop, sNext, asg, setAll, eT, eOp, eUn, eLst, eTup, eCons, eNil, eVar, eC, eCall, eCB, eNot, eAnd, eOr, eTru, eAndT, eOrT, eNotT, eIf, ePart, eNoPart, eYes, eChain, eChain3, oI, oI0, oLt, oLe, oGt, oGe, oNeg, oSub, oMod, oMul, oDivW, eXp, eXa, eConsX, eCallX, eCallN, eLstX, eCBX, sDropX, sRetX, sAsgX, sRaise, sRaiseF, List.set_cons_zero, List.set_cons_succ, List.getElem?_cons_zero, List.getElem?_cons_succ, truD_bl]); (try simp only [if_true, Bool.false_eq_true, if_false, decide_true, decide_false, Bool.not_true, Bool.not_false, List.length_cons, List.length_nil, sizeLine_eq, Nat.reduceAdd, Nat.reduceLeDiff, true_and, and_true, pw6, pw10, pw11, pw12, pw13, pw30, pw40, pw60]); (try dsimp only [sAsg, sIf, sRet, sRetN, sDrop, sNext, asg, setAll, eT, eOp, eUn, eLst, eTup, eCons, eNil, eVar, eC, eCall, eCB, eNot, eAnd, eOr, eTru, eAndT, eOrT, eNotT, eIf, ePart, eNoPart, eYes, eChain, eChain3, oI, oI0, oLt, oLe, oGt, oGe, oNeg, oSub, oMod, oMul, oDivW, eXp, eXa, eConsX, eCallX, eCallN, eLstX, eCBX, sDropX, sRetX, sAsgX, sRaise, sRaiseF, List.set_cons_zero, List.set_cons_succ, List.getElem?_cons_zero, List.getElem?_cons_succ, truD_bl])
      refine ixg_0 ?_
      (try dsimp only [sAsg, sIf, sRet, sRetN, sDrop, sNext, asg, setAll, eT, eOp, eUn, eLst, eTup, eCons, eNil, eVar, eC, eCall, eCB, eNot, eAnd, eOr, eTru, eAndT, eOrT, eNotT, eIf, ePart, eNoPart, eYes, eChain, eChain3, oI, oI0, oLt, oLe, oGt, oGe, oNeg, oSub, oMod, oMul, oDivW, eXp, eXa, eConsX, eCallX, eCallN, eLstX, eCBX, sDropX, sRetX, sAsgX, sRaise, sRaiseF, List.set_cons_zero, List.set_cons_succ, List.getElem?_cons_zero, List.getElem?_cons_succ, truD_bl]); (try simp only [if_true, Bool.false_eq_true, if_false, decide_true, decide_false, Bool.not_true, Bool.not_false, List.length_cons, List.length_nil, sizeLine_eq, Nat.reduceAdd, Nat.reduceLeDiff, true_and, and_true, pw6, pw10, pw11, pw12, pw13, pw30, pw40, pw60]); (try dsimp only [sAsg, sIf, sRet, sRetN, sDrop, sNext, asg, setAll, eT, eOp, eUn, eLst, eTup, eCons, eNil, eVar, eC, eCall, eCB, eNot, eAnd, eOr, eTru, eAndT, eOrT, eNotT, eIf, ePart, eNoPart, eYes, eChain, eChain3, oI, oI0, oLt, oLe, oGt, oGe, oNeg, oSub, oMod, oMul, oDivW, eXp, eXa, eConsX, eCallX, eCallN, eLstX, eCBX, sDropX, sRetX, sAsgX, sRaise, sRaiseF, List.set_cons_zero, List.set_cons_succ, List.getElem?_cons_zero, List.getElem?_cons_succ, truD_bl])
      by_cases c1 : m < n
      · rw [decide_eq_true c1]
        (try dsimp only [sAsg, sIf, sRet, sRetN, sDrop, sNext, asg, setAll, eT, eOp, eUn, eLst, eTup, eCons, eNil, eVar, eC, eCall, eCB, eNot, eAnd, eOr, eTru, eAndT, eOrT, eNotT, eIf, ePart, eNoPart, eYes, eChain, eChain3, oI, oI0, oLt, oLe, oGt, oGe, oNeg, oSub, oMod, oMul, oDivW, eXp, eXa, eConsX, eCallX, eCallN, eLstX, eCBX, sDropX, sRetX, sAsgX, sRaise, sRaiseF, List.set_cons_zero, List.set_cons_succ, List.getElem?_cons_zero, List.getElem?_cons_succ, truD_bl]); (try simp only [if_true, Bool.false_eq_true, if_false, decide_true, decide_false, Bool.not_true, Bool.not_false, List.length_cons, List.length_nil, sizeLine_eq, Nat.reduceAdd, Nat.reduceLeDiff, true_and, and_true, pw6, pw10, pw11, pw12, pw13, pw30, pw40, pw60]); (try dsimp only [sAsg, sIf, sRet, sRetN, sDrop, sNext, asg, setAll, eT, eOp, eUn, eLst, eTup, eCons, eNil, eVar, eC, eCall, eCB, eNot, eAnd, eOr, eTru, eAndT, eOrT, eNotT, eIf, ePart, eNoPart, eYes, eChain, eChain3, oI, oI0, oLt, oLe, oGt, oGe, oNeg, oSub, oMod, oMul, oDivW, eXp, eXa, eConsX, eCallX, eCallN, eLstX, eCBX, sDropX, sRetX, sAsgX, sRaise, sRaiseF, List.set_cons_zero, List.set_cons_succ, List.getElem?_cons_zero, List.getElem?_cons_succ, truD_bl])
        refine hW _ _ ?_
        (try dsimp only [sAsg, sIf, sRet, sRetN, sDrop, sNext, asg, setAll, eT, eOp, eUn, eLst, eTup, eCons, eNil, eVar, eC, eCall, eCB, eNot, eAnd, eOr, eTru, eAndT, eOrT, eNotT, eIf, ePart, eNoPart, eYes, eChain, eChain3, oI, oI0, oLt, oLe, oGt, oGe, oNeg, oSub, oMod, oMul, oDivW, eXp, eXa, eConsX, eCallX, eCallN, eLstX, eCBX, sDropX, sRetX, sAsgX, sRaise, sRaiseF, List.set_cons_zero, List.set_cons_succ, List.getElem?_cons_zero, List.getElem?_cons_succ, truD_bl]); (try simp only [if_true, Bool.false_eq_true, if_false, decide_true, decide_false, Bool.not_true, Bool.not_false, List.length_cons, List.length_nil, sizeLine_eq, Nat.reduceAdd, Nat.reduceLeDiff, true_and, and_true, pw6, pw10, pw11, pw12, pw13, pw30, pw40, pw60]); (try dsimp only [sAsg, sIf, sRet, sRetN, sDrop, sNext, asg, setAll, eT, eOp, eUn, eLst, eTup, eCons, eNil, eVar, eC, eCall, eCB, eNot, eAnd, eOr, eTru, eAndT, eOrT, eNotT, eIf, ePart, eNoPart, eYes, eChain, eChain3, oI, oI0, oLt, oLe, oGt, oGe, oNeg, oSub, oMod, oMul, oDivW, eXp, eXa, eConsX, eCallX, eCallN, eLstX, eCBX, sDropX, sRetX, sAsgX, sRaise, sRaiseF, List.set_cons_zero, List.set_cons_succ, List.getElem?_cons_zero, List.getElem?_cons_succ, truD_bl])
        refine w_rg rfl hw (load_on_ok (by omega) hi (w_bn rfl hw ?_))
        (try dsimp only [sAsg, sIf, sRet, sRetN, sDrop, sNext, asg, setAll, eT, eOp, eUn, eLst, eTup, eCons, eNil, eVar, eC, eCall, eCB, eNot, eAnd, eOr, eTru, eAndT, eOrT, eNotT, eIf, ePart, eNoPart, eYes, eChain, eChain3, oI, oI0, oLt, oLe, oGt, oGe, oNeg, oSub, oMod, oMul, oDivW, eXp, eXa, eConsX, eCallX, eCallN, eLstX, eCBX, sDropX, sRetX, sAsgX, sRaise, sRaiseF, List.set_cons_zero, List.set_cons_succ, List.getElem?_cons_zero, List.getElem?_cons_succ, truD_bl]); (try simp only [if_true, Bool.false_eq_true, if_false, decide_true, decide_false, Bool.not_true, Bool.not_false, List.length_cons, List.length_nil, sizeLine_eq, Nat.reduceAdd, Nat.reduceLeDiff, true_and, and_true, pw6, pw10, pw11, pw12, pw13, pw30, pw40, pw60]); (try dsimp only [sAsg, sIf, sRet, sRetN, sDrop, sNext, asg, setAll, eT, eOp, eUn, eLst, eTup, eCons, eNil, eVar, eC, eCall, eCB, eNot, eAnd, eOr, eTru, eAndT, eOrT, eNotT, eIf, ePart, eNoPart, eYes, eChain, eChain3, oI, oI0, oLt, oLe, oGt, oGe, oNeg, oSub, oMod, oMul, oDivW, eXp, eXa, eConsX, eCallX, eCallN, eLstX, eCBX, sDropX, sRetX, sAsgX, sRaise, sRaiseF, List.set_cons_zero, List.set_cons_succ, List.getElem?_cons_zero, List.getElem?_cons_succ, truD_bl])
        refine fin_id ?_
        rw [show (decide ((0 ≤ m ∧ m < n) ∧ nb < (loadOn n rs ins m : Int))) = decide (((loadOn n rs ins m : Nat) : Int) > nb) by simp [c0, c1]] at k1
        exact k1
      · rw [decide_eq_false c1]
        (try dsimp only [sAsg, sIf, sRet, sRetN, sDrop, sNext, asg, setAll, eT, eOp, eUn, eLst, eTup, eCons, eNil, eVar, eC, eCall, eCB, eNot, eAnd, eOr, eTru, eAndT, eOrT, eNotT, eIf, ePart, eNoPart, eYes, eChain, eChain3, oI, oI0, oLt, oLe, oGt, oGe, oNeg, oSub, oMod, oMul, oDivW, eXp, eXa, eConsX, eCallX, eCallN, eLstX, eCBX, sDropX, sRetX, sAsgX, sRaise, sRaiseF, List.set_cons_zero, List.set_cons_succ, List.getElem?_cons_zero, List.getElem?_cons_succ, truD_bl]); (try simp only [if_true, Bool.false_eq_true, if_false, decide_true, decide_false, Bool.not_true, Bool.not_false, List.length_cons, List.length_nil, sizeLine_eq, Nat.reduceAdd, Nat.reduceLeDiff, true_and, and_true, pw6, pw10, pw11, pw12, pw13, pw30, pw40, pw60]); (try dsimp only [sAsg, sIf, sRet, sRetN, sDrop, sNext, asg, setAll, eT, eOp, eUn, eLst, eTup, eCons, eNil, eVar, eC, eCall, eCB, eNot, eAnd, eOr, eTru, eAndT, eOrT, eNotT, eIf, ePart, eNoPart, eYes, eChain, eChain3, oI, oI0, oLt, oLe, oGt, oGe, oNeg, oSub, oMod, oMul, oDivW, eXp, eXa, eConsX, eCallX, eCallN, eLstX, eCBX, sDropX, sRetX, sAsgX, sRaise, sRaiseF, List.set_cons_zero, List.set_cons_succ, List.getElem?_cons_zero, List.getElem?_cons_succ, truD_bl])
        rw [show (decide ((0 ≤ m ∧ m < n) ∧ nb < (loadOn n rs ins m : Int))) = false by simp [c1]] at k1
        exact fin_id k1
    · rw [decide_eq_false c0]
      (try dsimp only [sAsg, sIf, sRet, sRetN, sDrop, sNext, asg, setAll, eT, eOp, eUn, eLst, eTup, eCons, eNil, eVar, eC, eCall, eCB, eNot, eAnd, eOr, eTru, eAndT, eOrT, eNotT, eIf, ePart, eNoPart, eYes, eChain, eChain3, oI, oI0, oLt, oLe, oGt, oGe, oNeg, oSub, oMod, oMul, oDivW, eXp, eXa, eConsX, eCallX, eCallN, eLstX, eCBX, sDropX, sRetX, sAsgX, sRaise, sRaiseF, List.set_cons_zero, List.set_cons_succ, List.getElem?_cons_zero, List.getElem?_cons_succ, truD_bl]); (try simp only [if_true, Bool.false_eq_true, if_false, decide_true, decide_false, Bool.not_true, Bool.not_false, List.length_cons, List.length_nil, sizeLine_eq, Nat.reduceAdd, Nat.reduceLeDiff, true_and, and_true, pw6, pw10, pw11, pw12, pw13, pw30, pw40, pw60]); (try dsimp only [sAsg, sIf, sRet, sRetN, sDrop, sNext, asg, setAll, eT, eOp, eUn, eLst, eTup, eCons, eNil, eVar, eC, eCall, eCB, eNot, eAnd, eOr, eTru, eAndT, eOrT, eNotT, eIf, ePart, eNoPart, eYes, eChain, eChain3, oI, oI0, oLt, oLe, oGt, oGe, oNeg, oSub, oMod, oMul, oDivW, eXp, eXa, eConsX, eCallX, eCallN, eLstX, eCBX, sDropX, sRetX, sAsgX, sRaise, sRaiseF, List.set_cons_zero, List.set_cons_succ, List.getElem?_cons_zero, List.getElem?_cons_succ, truD_bl])
      rw [show (decide ((0 ≤ m ∧ m < n) ∧ nb < (loadOn n rs ins m : Int))) = false by simp [c0]] at k1
      exact fin_id k1
  · have k2 := k2 fun m e => c ⟨m, e⟩
    refine whole_any ha ?_
    have : whB d = false := by
      cases d with
      | int m => exact absurd ⟨m, rfl⟩ c
      | _ => rfl
    rw [this]
    (try dsimp only [sAsg, sIf, sRet, sRetN, sDrop, sNext, asg, setAll, eT, eOp, eUn, eLst, eTup, eCons, eNil, eVar, eC, eCall, eCB, eNot, eAnd, eOr, eTru, eAndT, eOrT, eNotT, eIf, ePart, eNoPart, eYes, eChain, eChain3, oI, oI0, oLt, oLe, oGt, oGe, oNeg, oSub, oMod, oMul, oDivW, eXp, eXa, eConsX, eCallX, eCallN, eLstX, eCBX, sDropX, sRetX, sAsgX, sRaise, sRaiseF, List.set_cons_zero, List.set_cons_succ, List.getElem?_cons_zero, List.getElem?_cons_succ, truD_bl]); (try simp only [if_true, Bool.false_eq_true, if_false, decide_true, decide_false, Bool.not_true, Bool.not_false, List.length_cons, List.length_nil, sizeLine_eq, Nat.reduceAdd, Nat.reduceLeDiff, true_and, and_true, pw6, pw10, pw11, pw12, pw13, pw30, pw40, pw60]); (try dsimp only [sAsg, sIf, sRet, sRetN, sDrop, sNext, asg, setAll, eT, eOp, eUn, eLst, eTup, eCons, eNil, eVar, eC, eCall, eCB, eNot, eAnd, eOr, eTru, eAndT, eOrT, eNotT, eIf, ePart, eNoPart, eYes, eChain, eChain3, oI, oI0, oLt, oLe, oGt, oGe, oNeg, oSub, oMod, oMul, oDivW, eXp, eXa, eConsX, eCallX, eCallN, eLstX, eCBX, sDropX, sRetX, sAsgX, sRaise, sRaiseF, List.set_cons_zero, List.set_cons_succ, List.getElem?_cons_zero, List.getElem?_cons_succ, truD_bl])
    exact fin_id k2
theorem d_RingWalk_is_split (ds : List D) (G : Gp) (Q : DK) (h : F_RingWalk_is_split ds G Q) : r_RingWalk_is_split (fin G Q) (startD 4 ds) G := by
  obtain ⟨x, s, dx, n, rs, nb, met, ss, t, ins, outs, rfl, hw, hr, k1, k2⟩ := h
  have kl : kitB "list" "list" = some true := by decide +kernel
  refine seq_gen fun W hW => ?_
  (try dsimp only [sAsg, sIf, sRet, sRetN, sDrop, sNext, asg, setAll, eT, eOp, eUn, eLst, eTup, eCons, eNil, eVar, eC, eCall, eCB, eNot, eAnd, eOr, eTru, eAndT, eOrT, eNotT, eIf, ePart, eNoPart, eYes, eChain, eChain3, oI, oI0, oLt, oLe, oGt, oGe, oNeg, oSub, oMod, oMul, oDivW, eXp, eXa, eConsX, eCallX, eCallN, eLstX, eCBX, sDropX, sRetX, sAsgX, sRaise, sRaiseF, List.set_cons_zero, List.set_cons_succ, List.getElem?_cons_zero, List.getElem?_cons_succ, truD_bl, startD, List.map_cons, List.map_nil, List.cons_append, List.nil_append, List.replicate]); (try simp only [if_true, Bool.false_eq_true, if_false, decide_true, decide_false, Bool.not_true, Bool.not_false, List.length_cons, List.length_nil, sizeLine_eq, Nat.reduceAdd, Nat.reduceLeDiff, true_and, and_true, pw6, pw10, pw11, pw12, pw13, pw30, pw40, pw60, startD, List.map_cons, List.map_nil, List.cons_append, List.nil_append, List.replicate]); (try dsimp only [sAsg, sIf, sRet, sRetN, sDrop, sNext, asg, setAll, eT, eOp, eUn, eLst, eTup, eCons, eNil, eVar, eC, eCall, eCB, eNot, eAnd, eOr, eTru, eAndT, eOrT, eNotT, eIf, ePart, eNoPart, eYes, eChain, eChain3, oI, oI0, oLt, oLe, oGt, oGe, oNeg, oSub, oMod, oMul, oDivW, eXp, eXa, eConsX, eCallX, eCallN, eLstX, eCBX, sDropX, sRetX, sAsgX, sRaise, sRaiseF, List.set_cons_zero, List.set_cons_succ, List.getElem?_cons_zero, List.getElem?_cons_succ, truD_bl, startD, List.map_cons, List.map_nil, List.cons_append, List.nil_append, List.replicate])
  cases t with
  | pr pp =>
    (try dsimp only [sAsg, sIf, sRet, sRetN, sDrop, sNext, asg, setAll, eT, eOp, eUn, eLst, eTup, eCons, eNil, eVar, eC, eCall, eCB, eNot, eAnd, eOr, eTru, eAndT, eOrT, eNotT, eIf, ePart, eNoPart, eYes, eChain, eChain3, oI, oI0, oLt, oLe, oGt, oGe, oNeg, oSub, oMod, oMul, oDivW, eXp, eXa, eConsX, eCallX, eCallN, eLstX, eCBX, sDropX, sRetX, sAsgX, sRaise, sRaiseF, List.set_cons_zero, List.set_cons_succ, List.getElem?_cons_zero, List.getElem?_cons_succ, truD_bl, Tr.d]); (try simp only [if_true, Bool.false_eq_true, if_false, decide_true, decide_false, Bool.not_true, Bool.not_false, List.length_cons, List.length_nil, sizeLine_eq, Nat.reduceAdd, Nat.reduceLeDiff, true_and, and_true, pw6, pw10, pw11, pw12, pw13, pw30, pw40, pw60, Tr.d]); (try dsimp only [sAsg, sIf, sRet, sRetN, sDrop, sNext, asg, setAll, eT, eOp, eUn, eLst, eTup, eCons, eNil, eVar, eC, eCall, eCB, eNot, eAnd, eOr, eTru, eAndT, eOrT, eNotT, eIf, ePart, eNoPart, eYes, eChain, eChain3, oI, oI0, oLt, oLe, oGt, oGe, oNeg, oSub, oMod, oMul, oDivW, eXp, eXa, eConsX, eCallX, eCallN, eLstX, eCBX, sDropX, sRetX, sAsgX, sRaise, sRaiseF, List.set_cons_zero, List.set_cons_succ, List.getElem?_cons_zero, List.getElem?_cons_succ, truD_bl, Tr.d])
    refine len_tup (ne_ii ?_)
    rw [decide_eq_false (by simp)]
    (try dsimp only [sAsg, sIf, sRet, sRetN, sDrop, sNext, asg, setAll, eT, eOp, eUn, eLst, eTup, eCons, eNil, eVar, eC, eCall, eCB, eNot, eAnd, eOr, eTru, eAndT, eOrT, eNotT, eIf, ePart, eNoPart, eYes, eChain, eChain3, oI, oI0, oLt, oLe, oGt, oGe, oNeg, oSub, oMod, oMul, oDivW, eXp, eXa, eConsX, eCallX, eCallN, eLstX, eCBX, sDropX, sRetX, sAsgX, sRaise, sRaiseF, List.set_cons_zero, List.set_cons_succ, List.getElem?_cons_zero, List.getElem?_cons_succ, truD_bl]); (try simp only [if_true, Bool.false_eq_true, if_false, decide_true, decide_false, Bool.not_true, Bool.not_false, List.length_cons, List.length_nil, sizeLine_eq, Nat.reduceAdd, Nat.reduceLeDiff, true_and, and_true, pw6, pw10, pw11, pw12, pw13, pw30, pw40, pw60]); (try dsimp only [sAsg, sIf, sRet, sRetN, sDrop, sNext, asg, setAll, eT, eOp, eUn, eLst, eTup, eCons, eNil, eVar, eC, eCall, eCB, eNot, eAnd, eOr, eTru, eAndT, eOrT, eNotT, eIf, ePart, eNoPart, eYes, eChain, eChain3, oI, oI0, oLt, oLe, oGt, oGe, oNeg, oSub, oMod, oMul, oDivW, eXp, eXa, eConsX, eCallX, eCallN, eLstX, eCBX, sDropX, sRetX, sAsgX, sRaise, sRaiseF, List.set_cons_zero, List.set_cons_succ, List.getElem?_cons_zero, List.getElem?_cons_succ, truD_bl])
    exact fin_id (k2 fun i a b e => by cases e)
  | cr m =>
    (try dsimp only [sAsg, sIf, sRet, sRetN, sDrop, sNext, asg, setAll, eT, eOp, eUn, eLst, eTup, eCons, eNil, eVar, eC, eCall, eCB, eNot, eAnd, eOr, eTru, eAndT, eOrT, eNotT, eIf, ePart, eNoPart, eYes, eChain, eChain3, oI, oI0, oLt, oLe, oGt, oGe, oNeg, oSub, oMod, oMul, oDivW, eXp, eXa, eConsX, eCallX, eCallN, eLstX, eCBX, sDropX, sRetX, sAsgX, sRaise, sRaiseF, List.set_cons_zero, List.set_cons_succ, List.getElem?_cons_zero, List.getElem?_cons_succ, truD_bl, Tr.d]); (try simp only [if_true, Bool.false_eq_true, if_false, decide_true, decide_false, Bool.not_true, Bool.not_false, List.length_cons, List.length_nil, sizeLine_eq, Nat.reduceAdd, Nat.reduceLeDiff, true_and, and_true, pw6, pw10, pw11, pw12, pw13, pw30, pw40, pw60, Tr.d]); (try dsimp only [sAsg, sIf, sRet, sRetN, sDrop, sNext, asg, setAll, eT, eOp, eUn, eLst, eTup, eCons, eNil, eVar, eC, eCall, eCB, eNot, eAnd, eOr, eTru, eAndT, eOrT, eNotT, eIf, ePart, eNoPart, eYes, eChain, eChain3, oI, oI0, oLt, oLe, oGt, oGe, oNeg, oSub, oMod, oMul, oDivW, eXp, eXa, eConsX, eCallX, eCallN, eLstX, eCBX, sDropX, sRetX, sAsgX, sRaise, sRaiseF, List.set_cons_zero, List.set_cons_succ, List.getElem?_cons_zero, List.getElem?_cons_succ, truD_bl, Tr.d])
    refine len_tup (ne_ii ?_)
    rw [decide_eq_false (by simp)]
    (try dsimp only [sAsg, sIf, sRet, sRetN, sDrop, sNext, asg, setAll, eT, eOp, eUn, eLst, eTup, eCons, eNil, eVar, eC, eCall, eCB, eNot, eAnd, eOr, eTru, eAndT, eOrT, eNotT, eIf, ePart, eNoPart, eYes, eChain, eChain3, oI, oI0, oLt, oLe, oGt, oGe, oNeg, oSub, oMod, oMul, oDivW, eXp, eXa, eConsX, eCallX, eCallN, eLstX, eCBX, sDropX, sRetX, sAsgX, sRaise, sRaiseF, List.set_cons_zero, List.set_cons_succ, List.getElem?_cons_zero, List.getElem?_cons_succ, truD_bl]); (try simp only [if_true, Bool.false_eq_true, if_false, decide_true, decide_false, Bool.not_true, Bool.not_false, List.length_cons, List.length_nil, sizeLine_eq, Nat.reduceAdd, Nat.reduceLeDiff, true_and, and_true, pw6, pw10, pw11, pw12, pw13, pw30, pw40, pw60]); (try dsimp only [sAsg, sIf, sRet, sRetN, sDrop, sNext, asg, setAll, eT, eOp, eUn, eLst, eTup, eCons, eNil, eVar, eC, eCall, eCB, eNot, eAnd, eOr, eTru, eAndT, eOrT, eNotT, eIf, ePart, eNoPart, eYes, eChain, eChain3, oI, oI0, oLt, oLe, oGt, oGe, oNeg, oSub, oMod, oMul, oDivW, eXp, eXa, eConsX, eCallX, eCallN, eLstX, eCBX, sDropX, sRetX, sAsgX, sRaise, sRaiseF, List.set_cons_zero, List.set_cons_succ, List.getElem?_cons_zero, List.getElem?_cons_succ, truD_bl])
    exact fin_id (k2 fun i a b e => by cases e)
  | sp i a b =>
    have k1 := k1 i a b rfl
    (try dsimp only [sAsg, sIf, sRet, sRetN, sDrop, sNext, asg, setAll, eT, eOp, eUn, eLst, eTup, eCons, eNil, eVar, eC, eCall, eCB, eNot, eAnd, eOr, eTru, eAndT, eOrT, eNotT, eIf, ePart, eNoPart, eYes, eChain, eChain3, oI, oI0, oLt, oLe, oGt, oGe, oNeg, oSub, oMod, oMul, oDivW, eXp, eXa, eConsX, eCallX, eCallN, eLstX, eCBX, sDropX, sRetX, sAsgX, sRaise, sRaiseF, List.set_cons_zero, List.set_cons_succ, List.getElem?_cons_zero, List.getElem?_cons_succ, truD_bl, Tr.d]); (try simp only [if_true, Bool.false_eq_true, if_false, decide_true, decide_false, Bool.not_true, Bool.not_false, List.length_cons, List.length_nil, sizeLine_eq, Nat.reduceAdd, Nat.reduceLeDiff, true_and, and_true, pw6, pw10, pw11, pw12, pw13, pw30, pw40, pw60, Tr.d]); (try dsimp only [sAsg, sIf, sRet, sRetN, sDrop, sNext, asg, setAll, eT, eOp, eUn, eLst, eTup, eCons, eNil, eVar, eC, eCall, eCB, eNot, eAnd, eOr, eTru, eAndT, eOrT, eNotT, eIf, ePart, eNoPart, eYes, eChain, eChain3, oI, oI0, oLt, oLe, oGt, oGe, oNeg, oSub, oMod, oMul, oDivW, eXp, eXa, eConsX, eCallX, eCallN, eLstX, eCBX, sDropX, sRetX, sAsgX, sRaise, sRaiseF, List.set_cons_zero, List.set_cons_succ, List.getElem?_cons_zero, List.getElem?_cons_succ, truD_bl, Tr.d])
    refine len_tup (ne_ii ?_)
    rw [decide_eq_true (by rfl)]
    (try dsimp only [sAsg, sIf, sRet, sRetN, sDrop, sNext, asg, setAll, eT, eOp, eUn, eLst, eTup, eCons, eNil, eVar, eC, eCall, eCB, eNot, eAnd, eOr, eTru, eAndT, eOrT, eNotT, eIf, ePart, eNoPart, eYes, eChain, eChain3, oI, oI0, oLt, oLe, oGt, oGe, oNeg, oSub, oMod, oMul, oDivW, eXp, eXa, eConsX, eCallX, eCallN, eLstX, eCBX, sDropX, sRetX, sAsgX, sRaise, sRaiseF, List.set_cons_zero, List.set_cons_succ, List.getElem?_cons_zero, List.getElem?_cons_succ, truD_bl]); (try simp only [if_true, Bool.false_eq_true, if_false, decide_true, decide_false, Bool.not_true, Bool.not_false, List.length_cons, List.length_nil, sizeLine_eq, Nat.reduceAdd, Nat.reduceLeDiff, true_and, and_true, pw6, pw10, pw11, pw12, pw13, pw30, pw40, pw60]); (try dsimp only [sAsg, sIf, sRet, sRetN, sDrop, sNext, asg, setAll, eT, eOp, eUn, eLst, eTup, eCons, eNil, eVar, eC, eCall, eCB, eNot, eAnd, eOr, eTru, eAndT, eOrT, eNotT, eIf, ePart, eNoPart, eYes, eChain, eChain3, oI, oI0, oLt, oLe, oGt, oGe, oNeg, oSub, oMod, oMul, oDivW, eXp, eXa, eConsX, eCallX, eCallN, eLstX, eCBX, sDropX, sRetX, sAsgX, sRaise, sRaiseF, List.set_cons_zero, List.set_cons_succ, List.getElem?_cons_zero, List.getElem?_cons_succ, truD_bl])
    refine ixt_0 (d := .str "split") rfl (ne_ss (asc_of _) (asc_of _) ?_)
    rw [decide_eq_true rfl]
    (try dsimp only [sAsg, sIf, sRet, sRetN, sDrop, sNext, asg, setAll, eT, eOp, eUn, eLst, eTup, eCons, eNil, eVar, eC, eCall, eCB, eNot, eAnd, eOr, eTru, eAndT, eOrT, eNotT, eIf, ePart, eNoPart, eYes, eChain, eChain3, oI, oI0, oLt, oLe, oGt, oGe, oNeg, oSub, oMod, oMul, oDivW, eXp, eXa, eConsX, eCallX, eCallN, eLstX, eCBX, sDropX, sRetX, sAsgX, sRaise, sRaiseF, List.set_cons_zero, List.set_cons_succ, List.getElem?_cons_zero, List.getElem?_cons_succ, truD_bl]); (try simp only [if_true, Bool.false_eq_true, if_false, decide_true, decide_false, Bool.not_true, Bool.not_false, List.length_cons, List.length_nil, sizeLine_eq, Nat.reduceAdd, Nat.reduceLeDiff, true_and, and_true, pw6, pw10, pw11, pw12, pw13, pw30, pw40, pw60]); (try dsimp only [sAsg, sIf, sRet, sRetN, sDrop, sNext, asg, setAll, eT, eOp, eUn, eLst, eTup, eCons, eNil, eVar, eC, eCall, eCB, eNot, eAnd, eOr, eTru, eAndT, eOrT, eNotT, eIf, ePart, eNoPart, eYes, eChain, eChain3, oI, oI0, oLt, oLe, oGt, oGe, oNeg, oSub, oMod, oMul, oDivW, eXp, eXa, eConsX, eCallX, eCallN, eLstX, eCBX, sDropX, sRetX, sAsgX, sRaise, sRaiseF, List.set_cons_zero, List.set_cons_succ, List.getElem?_cons_zero, List.getElem?_cons_succ, truD_bl])
    refine ixt_0 (d := .int (i : Int)) rfl (whole_int ?_)
    (try dsimp only [sAsg, sIf, sRet, sRetN, sDrop, sNext, asg, setAll, eT, eOp, eUn, eLst, eTup, eCons, eNil, eVar, eC, eCall, eCB, eNot, eAnd, eOr, eTru, eAndT, eOrT, eNotT, eIf, ePart, eNoPart, eYes, eChain, eChain3, oI, oI0, oLt, oLe, oGt, oGe, oNeg, oSub, oMod, oMul, oDivW, eXp, eXa, eConsX, eCallX, eCallN, eLstX, eCBX, sDropX, sRetX, sAsgX, sRaise, sRaiseF, List.set_cons_zero, List.set_cons_succ, List.getElem?_cons_zero, List.getElem?_cons_succ, truD_bl]); (try simp only [if_true, Bool.false_eq_true, if_false, decide_true, decide_false, Bool.not_true, Bool.not_false, List.length_cons, List.length_nil, sizeLine_eq, Nat.reduceAdd, Nat.reduceLeDiff, true_and, and_true, pw6, pw10, pw11, pw12, pw13, pw30, pw40, pw60]); (try dsimp only [sAsg, sIf, sRet, sRetN, sDrop, sNext, asg, setAll, eT, eOp, eUn, eLst, eTup, eCons, eNil, eVar, eC, eCall, eCB, eNot, eAnd, eOr, eTru, eAndT, eOrT, eNotT, eIf, ePart, eNoPart, eYes, eChain, eChain3, oI, oI0, oLt, oLe, oGt, oGe, oNeg, oSub, oMod, oMul, oDivW, eXp, eXa, eConsX, eCallX, eCallN, eLstX, eCBX, sDropX, sRetX, sAsgX, sRaise, sRaiseF, List.set_cons_zero, List.set_cons_succ, List.getElem?_cons_zero, List.getElem?_cons_succ, truD_bl])
    refine hW _ _ ?_
    (try dsimp only [sAsg, sIf, sRet, sRetN, sDrop, sNext, asg, setAll, eT, eOp, eUn, eLst, eTup, eCons, eNil, eVar, eC, eCall, eCB, eNot, eAnd, eOr, eTru, eAndT, eOrT, eNotT, eIf, ePart, eNoPart, eYes, eChain, eChain3, oI, oI0, oLt, oLe, oGt, oGe, oNeg, oSub, oMod, oMul, oDivW, eXp, eXa, eConsX, eCallX, eCallN, eLstX, eCBX, sDropX, sRetX, sAsgX, sRaise, sRaiseF, List.set_cons_zero, List.set_cons_succ, List.getElem?_cons_zero, List.getElem?_cons_succ, truD_bl, eMeth]); (try simp only [if_true, Bool.false_eq_true, if_false, decide_true, decide_false, Bool.not_true, Bool.not_false, List.length_cons, List.length_nil, sizeLine_eq, Nat.reduceAdd, Nat.reduceLeDiff, true_and, and_true, pw6, pw10, pw11, pw12, pw13, pw30, pw40, pw60, eMeth]); (try dsimp only [sAsg, sIf, sRet, sRetN, sDrop, sNext, asg, setAll, eT, eOp, eUn, eLst, eTup, eCons, eNil, eVar, eC, eCall, eCB, eNot, eAnd, eOr, eTru, eAndT, eOrT, eNotT, eIf, ePart, eNoPart, eYes, eChain, eChain3, oI, oI0, oLt, oLe, oGt, oGe, oNeg, oSub, oMod, oMul, oDivW, eXp, eXa, eConsX, eCallX, eCallN, eLstX, eCBX, sDropX, sRetX, sAsgX, sRaise, sRaiseF, List.set_cons_zero, List.set_cons_succ, List.getElem?_cons_zero, List.getElem?_cons_succ, truD_bl, eMeth])
    refine ixt_0 (d := .int (i : Int)) rfl ⟨is_wk hw, x, s, dx, n, rs, nb, met, ss, ins, outs, rfl, hw, hr, in_natsL ?_⟩
    by_cases c : i ∈ freeZ rs ins outs
    · rw [decide_eq_true c] at k1 ⊢
      (try dsimp only [sAsg, sIf, sRet, sRetN, sDrop, sNext, asg, setAll, eT, eOp, eUn, eLst, eTup, eCons, eNil, eVar, eC, eCall, eCB, eNot, eAnd, eOr, eTru, eAndT, eOrT, eNotT, eIf, ePart, eNoPart, eYes, eChain, eChain3, oI, oI0, oLt, oLe, oGt, oGe, oNeg, oSub, oMod, oMul, oDivW, eXp, eXa, eConsX, eCallX, eCallN, eLstX, eCBX, sDropX, sRetX, sAsgX, sRaise, sRaiseF, List.set_cons_zero, List.set_cons_succ, List.getElem?_cons_zero, List.getElem?_cons_succ, truD_bl]); (try simp only [if_true, Bool.false_eq_true, if_false, decide_true, decide_false, Bool.not_true, Bool.not_false, List.length_cons, List.length_nil, sizeLine_eq, Nat.reduceAdd, Nat.reduceLeDiff, true_and, and_true, pw6, pw10, pw11, pw12, pw13, pw30, pw40, pw60]); (try dsimp only [sAsg, sIf, sRet, sRetN, sDrop, sNext, asg, setAll, eT, eOp, eUn, eLst, eTup, eCons, eNil, eVar, eC, eCall, eCB, eNot, eAnd, eOr, eTru, eAndT, eOrT, eNotT, eIf, ePart, eNoPart, eYes, eChain, eChain3, oI, oI0, oLt, oLe, oGt, oGe, oNeg, oSub, oMod, oMul, oDivW, eXp, eXa, eConsX, eCallX, eCallN, eLstX, eCBX, sDropX, sRetX, sAsgX, sRaise, sRaiseF, List.set_cons_zero, List.set_cons_succ, List.getElem?_cons_zero, List.getElem?_cons_succ, truD_bl])
      refine ixt_0 (d := .lst [a.d, b.d]) rfl ?_
      (try dsimp only [sAsg, sIf, sRet, sRetN, sDrop, sNext, asg, setAll, eT, eOp, eUn, eLst, eTup, eCons, eNil, eVar, eC, eCall, eCB, eNot, eAnd, eOr, eTru, eAndT, eOrT, eNotT, eIf, ePart, eNoPart, eYes, eChain, eChain3, oI, oI0, oLt, oLe, oGt, oGe, oNeg, oSub, oMod, oMul, oDivW, eXp, eXa, eConsX, eCallX, eCallN, eLstX, eCBX, sDropX, sRetX, sAsgX, sRaise, sRaiseF, List.set_cons_zero, List.set_cons_succ, List.getElem?_cons_zero, List.getElem?_cons_succ, truD_bl, cIsi, tyD, Option.bind_some, kl]); (try simp only [if_true, Bool.false_eq_true, if_false, decide_true, decide_false, Bool.not_true, Bool.not_false, List.length_cons, List.length_nil, sizeLine_eq, Nat.reduceAdd, Nat.reduceLeDiff, true_and, and_true, pw6, pw10, pw11, pw12, pw13, pw30, pw40, pw60, cIsi, tyD, Option.bind_some, kl]); (try dsimp only [sAsg, sIf, sRet, sRetN, sDrop, sNext, asg, setAll, eT, eOp, eUn, eLst, eTup, eCons, eNil, eVar, eC, eCall, eCB, eNot, eAnd, eOr, eTru, eAndT, eOrT, eNotT, eIf, ePart, eNoPart, eYes, eChain, eChain3, oI, oI0, oLt, oLe, oGt, oGe, oNeg, oSub, oMod, oMul, oDivW, eXp, eXa, eConsX, eCallX, eCallN, eLstX, eCBX, sDropX, sRetX, sAsgX, sRaise, sRaiseF, List.set_cons_zero, List.set_cons_succ, List.getElem?_cons_zero, List.getElem?_cons_succ, truD_bl, cIsi, tyD, Option.bind_some, kl])
      refine ixt_0 (d := .lst [a.d, b.d]) rfl (len_lst (eq_ii ?_))
      exact fin_id k1
    · rw [decide_eq_false c] at k1 ⊢
      (try dsimp only [sAsg, sIf, sRet, sRetN, sDrop, sNext, asg, setAll, eT, eOp, eUn, eLst, eTup, eCons, eNil, eVar, eC, eCall, eCB, eNot, eAnd, eOr, eTru, eAndT, eOrT, eNotT, eIf, ePart, eNoPart, eYes, eChain, eChain3, oI, oI0, oLt, oLe, oGt, oGe, oNeg, oSub, oMod, oMul, oDivW, eXp, eXa, eConsX, eCallX, eCallN, eLstX, eCBX, sDropX, sRetX, sAsgX, sRaise, sRaiseF, List.set_cons_zero, List.set_cons_succ, List.getElem?_cons_zero, List.getElem?_cons_succ, truD_bl]); (try simp only [if_true, Bool.false_eq_true, if_false, decide_true, decide_false, Bool.not_true, Bool.not_false, List.length_cons, List.length_nil, sizeLine_eq, Nat.reduceAdd, Nat.reduceLeDiff, true_and, and_true, pw6, pw10, pw11, pw12, pw13, pw30, pw40, pw60]); (try dsimp only [sAsg, sIf, sRet, sRetN, sDrop, sNext, asg, setAll, eT, eOp, eUn, eLst, eTup, eCons, eNil, eVar, eC, eCall, eCB, eNot, eAnd, eOr, eTru, eAndT, eOrT, eNotT, eIf, ePart, eNoPart, eYes, eChain, eChain3, oI, oI0, oLt, oLe, oGt, oGe, oNeg, oSub, oMod, oMul, oDivW, eXp, eXa, eConsX, eCallX, eCallN, eLstX, eCBX, sDropX, sRetX, sAsgX, sRaise, sRaiseF, List.set_cons_zero, List.set_cons_succ, List.getElem?_cons_zero, List.getElem?_cons_succ, truD_bl])
      exact fin_id k1
theorem ne_nil_tup {xs : List PyData} {x : D} {y : PyData} {m : Nat} {G : Gp} {Q : DK} (e : toPy G x = some (.tuple (y :: xs))) (s : Shp m (.tuple (y :: xs))) (q : Q (.bl false) G) (hm : m ≤ 64) : oEq x (.tup []) G Q := by
  have s2 : Shp 1 (.tuple []) := shp_tuple fun x hx => by cases hx
  have e2 : toPy G (.tup []) = some (.tuple []) := by simp
  simp only [oEq, e, e2, s.shaped hm, s2.shaped (by decide), true_and]
  simpa [PyData.eqv, PyData.eqvAll] using q
theorem Tr.neNil {t : Tr} {G : Gp} {Q : DK} (h : t.dep ≤ 30) (q : Q (.bl false) G) : oEq t.d (.tup []) G Q := by
  have s := t.shp
  cases t with
  | pr pp => exact ne_nil_tup (Tr.toPy _) s q (by omega)
  | cr m => exact ne_nil_tup (Tr.toPy _) s q (by omega)
  | sp i a b => exact ne_nil_tup (Tr.toPy _) s q (by omega)
theorem app_d {L M : List Nat} {G : Gp} {Q : DK} (h : L.length + M.length ≤ 16777216) (q : Q (.lst (nD (L ++ M))) G) : oAdd (.lst (nD L)) (.lst (nD M)) G Q := by
  refine add_ok (by simp [nD]; omega) ?_
  rw [show nD L ++ nD M = nD (L ++ M) by unfold nD; rw [List.map_append]]
  exact q
theorem wlk_ms {n : Int} {rs : List Stretch} {nb : Int} : ∀ (t : Tr) {met : Nat} {ins outs : List Nat} {m' : Nat} {s' : List Int}, wlk n rs nb t met ins outs = some (m', s') → m' ≤ 500 ∧ met + s'.length ≤ m' ∧ met < m'
  | .pr pp, met, ins, outs, m', s', h => by
    unfold wlk at h
    split at h
    · cases h; simp; omega
    · cases h
  | .cr m, met, ins, outs, m', s', h => by
    unfold wlk at h
    split at h
    · cases h; simp; omega
    · cases h
  | .sp i a b, met, ins, outs, m', s', h => by
    unfold wlk at h
    split at h
    · split at h
      · rename_i m1 s1 e1
        split at h
        · rename_i m2 s2 e2
          cases h
          have h1 := wlk_ms a e1
          have h2 := wlk_ms b e2
          rw [List.length_append]
          omega
        · cases h
      · cases h
    · cases h
theorem d_RingWalk_go (k : Nat) (ds : List D) (G : Gp) (Q : DK) (U : Ux) (h : F_RingWalk_go (k + 1) ds G Q U) : r_RingWalk_go k (finX G Q U) (startD 5 ds) G := by
  obtain ⟨x, s, dx, n, rs, nb, met, ss, t, ins, outs, way, rfl, H, pap, dk, i9, o9, w9, d30, kq, ku⟩ := h
  obtain ⟨hw, hr, hi, z1, z2, z3, ms, m5⟩ := H
  have xs := hw.ne
  have n1 := hr.n1
  have kt : kitB "tuple" "tuple" = some true := by decide +kernel
  have ks : kitB "str" "str" = some true := by decide +kernel
  refine seq_gen fun W hW => ?_
  have k1 : putFk "met" wkKs = wkKs := by decide +kernel
  (try dsimp only [sAsg, sIf, sRet, sRetN, sDrop, sNext, asg, setAll, eT, eOp, eUn, eLst, eTup, eCons, eNil, eVar, eC, eCall, eCB, eNot, eAnd, eOr, eTru, eAndT, eOrT, eNotT, eIf, ePart, eNoPart, eYes, eChain, eChain3, oI, oI0, oLt, oLe, oGt, oGe, oNeg, oSub, oMod, oMul, oDivW, eXp, eXa, eConsX, eCallX, eCallN, eLstX, eCBX, sDropX, sRetX, sAsgX, sRaise, sRaiseF, List.set_cons_zero, List.set_cons_succ, List.getElem?_cons_zero, List.getElem?_cons_succ, truD_bl, startD, List.map_cons, List.map_nil, List.cons_append, List.nil_append, List.replicate]); (try simp only [if_true, Bool.false_eq_true, if_false, decide_true, decide_false, Bool.not_true, Bool.not_false, List.length_cons, List.length_nil, sizeLine_eq, Nat.reduceAdd, Nat.reduceLeDiff, true_and, and_true, pw6, pw10, pw11, pw12, pw13, pw30, pw40, pw60, startD, List.map_cons, List.map_nil, List.cons_append, List.nil_append, List.replicate]); (try dsimp only [sAsg, sIf, sRet, sRetN, sDrop, sNext, asg, setAll, eT, eOp, eUn, eLst, eTup, eCons, eNil, eVar, eC, eCall, eCB, eNot, eAnd, eOr, eTru, eAndT, eOrT, eNotT, eIf, ePart, eNoPart, eYes, eChain, eChain3, oI, oI0, oLt, oLe, oGt, oGe, oNeg, oSub, oMod, oMul, oDivW, eXp, eXa, eConsX, eCallX, eCallN, eLstX, eCBX, sDropX, sRetX, sAsgX, sRaise, sRaiseF, List.set_cons_zero, List.set_cons_succ, List.getElem?_cons_zero, List.getElem?_cons_succ, truD_bl, startD, List.map_cons, List.map_nil, List.cons_append, List.nil_append, List.replicate])
  refine set_wk (v := .int ((met : Int) + 1)) rfl (fun Q q => by (try dsimp only [sAsg, sIf, sRet, sRetN, sDrop, sNext, asg, setAll, eT, eOp, eUn, eLst, eTup, eCons, eNil, eVar, eC, eCall, eCB, eNot, eAnd, eOr, eTru, eAndT, eOrT, eNotT, eIf, ePart, eNoPart, eYes, eChain, eChain3, oI, oI0, oLt, oLe, oGt, oGe, oNeg, oSub, oMod, oMul, oDivW, eXp, eXa, eConsX, eCallX, eCallN, eLstX, eCBX, sDropX, sRetX, sAsgX, sRaise, sRaiseF, List.set_cons_zero, List.set_cons_succ, List.getElem?_cons_zero, List.getElem?_cons_succ, truD_bl]); (try simp only [if_true, Bool.false_eq_true, if_false, decide_true, decide_false, Bool.not_true, Bool.not_false, List.length_cons, List.length_nil, sizeLine_eq, Nat.reduceAdd, Nat.reduceLeDiff, true_and, and_true, pw6, pw10, pw11, pw12, pw13, pw30, pw40, pw60]); (try dsimp only [sAsg, sIf, sRet, sRetN, sDrop, sNext, asg, setAll, eT, eOp, eUn, eLst, eTup, eCons, eNil, eVar, eC, eCall, eCB, eNot, eAnd, eOr, eTru, eAndT, eOrT, eNotT, eIf, ePart, eNoPart, eYes, eChain, eChain3, oI, oI0, oLt, oLe, oGt, oGe, oNeg, oSub, oMod, oMul, oDivW, eXp, eXa, eConsX, eCallX, eCallN, eLstX, eCBX, sDropX, sRetX, sAsgX, sRaise, sRaiseF, List.set_cons_zero, List.set_cons_succ, List.getElem?_cons_zero, List.getElem?_cons_succ, truD_bl]); exact w_mt rfl hw (add_ii q)) hw.ob k1 (by simp [putFv]; rfl) (by decide) (hW _ _ ?_)
  generalize hG1 : gput G x (.ins "RingWalk" dx wkKs [ringD n rs, .int nb, .int ((met : Int) + 1), .ref s]) = G1
  have eG : G1 = wput G x s dx n rs nb (met + 1) ss := by
    rw [← hG1]
    unfold wput wkO
    rw [show (((met + 1 : Nat) : Int)) = (met : Int) + 1 by omega]
    congr 1
    funext b
    by_cases e : b = s
    · rw [e, gput_same]; exact hw.su
    · rw [gput_ne e]
  subst eG
  have hw1 := wput_at (G := G) (dx := dx) (n := n) (rs := rs) (nb := nb) (met := met + 1) (ss := ss) xs
  generalize hG1' : wput G x s dx n rs nb (met + 1) ss = G1 at hw1 ⊢
  refine seq_gen fun W2 hW2 => ?_
  (try dsimp only [sAsg, sIf, sRet, sRetN, sDrop, sNext, asg, setAll, eT, eOp, eUn, eLst, eTup, eCons, eNil, eVar, eC, eCall, eCB, eNot, eAnd, eOr, eTru, eAndT, eOrT, eNotT, eIf, ePart, eNoPart, eYes, eChain, eChain3, oI, oI0, oLt, oLe, oGt, oGe, oNeg, oSub, oMod, oMul, oDivW, eXp, eXa, eConsX, eCallX, eCallN, eLstX, eCBX, sDropX, sRetX, sAsgX, sRaise, sRaiseF, List.set_cons_zero, List.set_cons_succ, List.getElem?_cons_zero, List.getElem?_cons_succ, truD_bl]); (try simp only [if_true, Bool.false_eq_true, if_false, decide_true, decide_false, Bool.not_true, Bool.not_false, List.length_cons, List.length_nil, sizeLine_eq, Nat.reduceAdd, Nat.reduceLeDiff, true_and, and_true, pw6, pw10, pw11, pw12, pw13, pw30, pw40, pw60]); (try dsimp only [sAsg, sIf, sRet, sRetN, sDrop, sNext, asg, setAll, eT, eOp, eUn, eLst, eTup, eCons, eNil, eVar, eC, eCall, eCB, eNot, eAnd, eOr, eTru, eAndT, eOrT, eNotT, eIf, ePart, eNoPart, eYes, eChain, eChain3, oI, oI0, oLt, oLe, oGt, oGe, oNeg, oSub, oMod, oMul, oDivW, eXp, eXa, eConsX, eCallX, eCallN, eLstX, eCBX, sDropX, sRetX, sAsgX, sRaise, sRaiseF, List.set_cons_zero, List.set_cons_succ, List.getElem?_cons_zero, List.getElem?_cons_succ, truD_bl])
  refine w_mt rfl hw1 ?_
  (try dsimp only [sAsg, sIf, sRet, sRetN, sDrop, sNext, asg, setAll, eT, eOp, eUn, eLst, eTup, eCons, eNil, eVar, eC, eCall, eCB, eNot, eAnd, eOr, eTru, eAndT, eOrT, eNotT, eIf, ePart, eNoPart, eYes, eChain, eChain3, oI, oI0, oLt, oLe, oGt, oGe, oNeg, oSub, oMod, oMul, oDivW, eXp, eXa, eConsX, eCallX, eCallN, eLstX, eCBX, sDropX, sRetX, sAsgX, sRaise, sRaiseF, List.set_cons_zero, List.set_cons_succ, List.getElem?_cons_zero, List.getElem?_cons_succ, truD_bl]); (try simp only [if_true, Bool.false_eq_true, if_false, decide_true, decide_false, Bool.not_true, Bool.not_false, List.length_cons, List.length_nil, sizeLine_eq, Nat.reduceAdd, Nat.reduceLeDiff, true_and, and_true, pw6, pw10, pw11, pw12, pw13, pw30, pw40, pw60]); (try dsimp only [sAsg, sIf, sRet, sRetN, sDrop, sNext, asg, setAll, eT, eOp, eUn, eLst, eTup, eCons, eNil, eVar, eC, eCall, eCB, eNot, eAnd, eOr, eTru, eAndT, eOrT, eNotT, eIf, ePart, eNoPart, eYes, eChain, eChain3, oI, oI0, oLt, oLe, oGt, oGe, oNeg, oSub, oMod, oMul, oDivW, eXp, eXa, eConsX, eCallX, eCallN, eLstX, eCBX, sDropX, sRetX, sAsgX, sRaise, sRaiseF, List.set_cons_zero, List.set_cons_succ, List.getElem?_cons_zero, List.getElem?_cons_succ, truD_bl])
  by_cases c5 : (((met + 1 : Nat) : Int)) > 500
  · rw [decide_eq_true c5]
    (try dsimp only [sAsg, sIf, sRet, sRetN, sDrop, sNext, asg, setAll, eT, eOp, eUn, eLst, eTup, eCons, eNil, eVar, eC, eCall, eCB, eNot, eAnd, eOr, eTru, eAndT, eOrT, eNotT, eIf, ePart, eNoPart, eYes, eChain, eChain3, oI, oI0, oLt, oLe, oGt, oGe, oNeg, oSub, oMod, oMul, oDivW, eXp, eXa, eConsX, eCallX, eCallN, eLstX, eCBX, sDropX, sRetX, sAsgX, sRaise, sRaiseF, List.set_cons_zero, List.set_cons_succ, List.getElem?_cons_zero, List.getElem?_cons_succ, truD_bl]); (try simp only [if_true, Bool.false_eq_true, if_false, decide_true, decide_false, Bool.not_true, Bool.not_false, List.length_cons, List.length_nil, sizeLine_eq, Nat.reduceAdd, Nat.reduceLeDiff, true_and, and_true, pw6, pw10, pw11, pw12, pw13, pw30, pw40, pw60]); (try dsimp only [sAsg, sIf, sRet, sRetN, sDrop, sNext, asg, setAll, eT, eOp, eUn, eLst, eTup, eCons, eNil, eVar, eC, eCall, eCB, eNot, eAnd, eOr, eTru, eAndT, eOrT, eNotT, eIf, ePart, eNoPart, eYes, eChain, eChain3, oI, oI0, oLt, oLe, oGt, oGe, oNeg, oSub, oMod, oMul, oDivW, eXp, eXa, eConsX, eCallX, eCallN, eLstX, eCBX, sDropX, sRetX, sAsgX, sRaise, sRaiseF, List.set_cons_zero, List.set_cons_succ, List.getElem?_cons_zero, List.getElem?_cons_succ, truD_bl])
    rw [← hG1']
    refine finX_id (ku ?_ _ _ way)
    cases t <;> unfold wlk <;> rw [if_neg (by omega)]
  rw [decide_eq_false c5]
  (try dsimp only [sAsg, sIf, sRet, sRetN, sDrop, sNext, asg, setAll, eT, eOp, eUn, eLst, eTup, eCons, eNil, eVar, eC, eCall, eCB, eNot, eAnd, eOr, eTru, eAndT, eOrT, eNotT, eIf, ePart, eNoPart, eYes, eChain, eChain3, oI, oI0, oLt, oLe, oGt, oGe, oNeg, oSub, oMod, oMul, oDivW, eXp, eXa, eConsX, eCallX, eCallN, eLstX, eCBX, sDropX, sRetX, sAsgX, sRaise, sRaiseF, List.set_cons_zero, List.set_cons_succ, List.getElem?_cons_zero, List.getElem?_cons_succ, truD_bl]); (try simp only [if_true, Bool.false_eq_true, if_false, decide_true, decide_false, Bool.not_true, Bool.not_false, List.length_cons, List.length_nil, sizeLine_eq, Nat.reduceAdd, Nat.reduceLeDiff, true_and, and_true, pw6, pw10, pw11, pw12, pw13, pw30, pw40, pw60]); (try dsimp only [sAsg, sIf, sRet, sRetN, sDrop, sNext, asg, setAll, eT, eOp, eUn, eLst, eTup, eCons, eNil, eVar, eC, eCall, eCB, eNot, eAnd, eOr, eTru, eAndT, eOrT, eNotT, eIf, ePart, eNoPart, eYes, eChain, eChain3, oI, oI0, oLt, oLe, oGt, oGe, oNeg, oSub, oMod, oMul, oDivW, eXp, eXa, eConsX, eCallX, eCallN, eLstX, eCBX, sDropX, sRetX, sAsgX, sRaise, sRaiseF, List.set_cons_zero, List.set_cons_succ, List.getElem?_cons_zero, List.getElem?_cons_succ, truD_bl])
  have tyT : tyD G1 t.d = some "tuple" := by cases t <;> rfl
  (try dsimp only [sAsg, sIf, sRet, sRetN, sDrop, sNext, asg, setAll, eT, eOp, eUn, eLst, eTup, eCons, eNil, eVar, eC, eCall, eCB, eNot, eAnd, eOr, eTru, eAndT, eOrT, eNotT, eIf, ePart, eNoPart, eYes, eChain, eChain3, oI, oI0, oLt, oLe, oGt, oGe, oNeg, oSub, oMod, oMul, oDivW, eXp, eXa, eConsX, eCallX, eCallN, eLstX, eCBX, sDropX, sRetX, sAsgX, sRaise, sRaiseF, List.set_cons_zero, List.set_cons_succ, List.getElem?_cons_zero, List.getElem?_cons_succ, truD_bl, cIsi, tyT, Option.bind_some, kt]); (try simp only [if_true, Bool.false_eq_true, if_false, decide_true, decide_false, Bool.not_true, Bool.not_false, List.length_cons, List.length_nil, sizeLine_eq, Nat.reduceAdd, Nat.reduceLeDiff, true_and, and_true, pw6, pw10, pw11, pw12, pw13, pw30, pw40, pw60, cIsi, tyT, Option.bind_some, kt]); (try dsimp only [sAsg, sIf, sRet, sRetN, sDrop, sNext, asg, setAll, eT, eOp, eUn, eLst, eTup, eCons, eNil, eVar, eC, eCall, eCB, eNot, eAnd, eOr, eTru, eAndT, eOrT, eNotT, eIf, ePart, eNoPart, eYes, eChain, eChain3, oI, oI0, oLt, oLe, oGt, oGe, oNeg, oSub, oMod, oMul, oDivW, eXp, eXa, eConsX, eCallX, eCallN, eLstX, eCBX, sDropX, sRetX, sAsgX, sRaise, sRaiseF, List.set_cons_zero, List.set_cons_succ, List.getElem?_cons_zero, List.getElem?_cons_succ, truD_bl, cIsi, tyT, Option.bind_some, kt])
  refine Tr.neNil d30 ?_
  (try dsimp only [sAsg, sIf, sRet, sRetN, sDrop, sNext, asg, setAll, eT, eOp, eUn, eLst, eTup, eCons, eNil, eVar, eC, eCall, eCB, eNot, eAnd, eOr, eTru, eAndT, eOrT, eNotT, eIf, ePart, eNoPart, eYes, eChain, eChain3, oI, oI0, oLt, oLe, oGt, oGe, oNeg, oSub, oMod, oMul, oDivW, eXp, eXa, eConsX, eCallX, eCallN, eLstX, eCBX, sDropX, sRetX, sAsgX, sRaise, sRaiseF, List.set_cons_zero, List.set_cons_succ, List.getElem?_cons_zero, List.getElem?_cons_succ, truD_bl]); (try simp only [if_true, Bool.false_eq_true, if_false, decide_true, decide_false, Bool.not_true, Bool.not_false, List.length_cons, List.length_nil, sizeLine_eq, Nat.reduceAdd, Nat.reduceLeDiff, true_and, and_true, pw6, pw10, pw11, pw12, pw13, pw30, pw40, pw60]); (try dsimp only [sAsg, sIf, sRet, sRetN, sDrop, sNext, asg, setAll, eT, eOp, eUn, eLst, eTup, eCons, eNil, eVar, eC, eCall, eCB, eNot, eAnd, eOr, eTru, eAndT, eOrT, eNotT, eIf, ePart, eNoPart, eYes, eChain, eChain3, oI, oI0, oLt, oLe, oGt, oGe, oNeg, oSub, oMod, oMul, oDivW, eXp, eXa, eConsX, eCallX, eCallN, eLstX, eCBX, sDropX, sRetX, sAsgX, sRaise, sRaiseF, List.set_cons_zero, List.set_cons_succ, List.getElem?_cons_zero, List.getElem?_cons_succ, truD_bl])
  have ix0 : ∃ z : Str, (∀ {Q : DK}, Q (.str z) G1 → oIx t.d (.int 0) G1 Q) ∧ z = (match t with
      | .pr _ => "prices"
      | .cr _ => "crowd"
      | .sp _ _ _ => "split") := by
    cases t with
    | pr pp => exact ⟨_, fun q => ixt_0 rfl q, rfl⟩
    | cr m => exact ⟨_, fun q => ixt_0 rfl q, rfl⟩
    | sp i a b => exact ⟨_, fun q => ixt_0 rfl q, rfl⟩
  obtain ⟨z, hz, ez⟩ := ix0
  refine hz ?_
  (try dsimp only [sAsg, sIf, sRet, sRetN, sDrop, sNext, asg, setAll, eT, eOp, eUn, eLst, eTup, eCons, eNil, eVar, eC, eCall, eCB, eNot, eAnd, eOr, eTru, eAndT, eOrT, eNotT, eIf, ePart, eNoPart, eYes, eChain, eChain3, oI, oI0, oLt, oLe, oGt, oGe, oNeg, oSub, oMod, oMul, oDivW, eXp, eXa, eConsX, eCallX, eCallN, eLstX, eCBX, sDropX, sRetX, sAsgX, sRaise, sRaiseF, List.set_cons_zero, List.set_cons_succ, List.getElem?_cons_zero, List.getElem?_cons_succ, truD_bl, cIsi, tyD, Option.bind_some, ks]); (try simp only [if_true, Bool.false_eq_true, if_false, decide_true, decide_false, Bool.not_true, Bool.not_false, List.length_cons, List.length_nil, sizeLine_eq, Nat.reduceAdd, Nat.reduceLeDiff, true_and, and_true, pw6, pw10, pw11, pw12, pw13, pw30, pw40, pw60, cIsi, tyD, Option.bind_some, ks]); (try dsimp only [sAsg, sIf, sRet, sRetN, sDrop, sNext, asg, setAll, eT, eOp, eUn, eLst, eTup, eCons, eNil, eVar, eC, eCall, eCB, eNot, eAnd, eOr, eTru, eAndT, eOrT, eNotT, eIf, ePart, eNoPart, eYes, eChain, eChain3, oI, oI0, oLt, oLe, oGt, oGe, oNeg, oSub, oMod, oMul, oDivW, eXp, eXa, eConsX, eCallX, eCallN, eLstX, eCBX, sDropX, sRetX, sAsgX, sRaise, sRaiseF, List.set_cons_zero, List.set_cons_succ, List.getElem?_cons_zero, List.getElem?_cons_succ, truD_bl, cIsi, tyD, Option.bind_some, ks])
  refine hW2 _ _ ?_
  cases t with
  | pr pp =>
    obtain ⟨pk, pb⟩ := pap
    (try dsimp only [sAsg, sIf, sRet, sRetN, sDrop, sNext, asg, setAll, eT, eOp, eUn, eLst, eTup, eCons, eNil, eVar, eC, eCall, eCB, eNot, eAnd, eOr, eTru, eAndT, eOrT, eNotT, eIf, ePart, eNoPart, eYes, eChain, eChain3, oI, oI0, oLt, oLe, oGt, oGe, oNeg, oSub, oMod, oMul, oDivW, eXp, eXa, eConsX, eCallX, eCallN, eLstX, eCBX, sDropX, sRetX, sAsgX, sRaise, sRaiseF, List.set_cons_zero, List.set_cons_succ, List.getElem?_cons_zero, List.getElem?_cons_succ, truD_bl, Tr.d]); (try simp only [if_true, Bool.false_eq_true, if_false, decide_true, decide_false, Bool.not_true, Bool.not_false, List.length_cons, List.length_nil, sizeLine_eq, Nat.reduceAdd, Nat.reduceLeDiff, true_and, and_true, pw6, pw10, pw11, pw12, pw13, pw30, pw40, pw60, Tr.d]); (try dsimp only [sAsg, sIf, sRet, sRetN, sDrop, sNext, asg, setAll, eT, eOp, eUn, eLst, eTup, eCons, eNil, eVar, eC, eCall, eCB, eNot, eAnd, eOr, eTru, eAndT, eOrT, eNotT, eIf, ePart, eNoPart, eYes, eChain, eChain3, oI, oI0, oLt, oLe, oGt, oGe, oNeg, oSub, oMod, oMul, oDivW, eXp, eXa, eConsX, eCallX, eCallN, eLstX, eCBX, sDropX, sRetX, sAsgX, sRaise, sRaiseF, List.set_cons_zero, List.set_cons_succ, List.getElem?_cons_zero, List.getElem?_cons_succ, truD_bl, Tr.d])
    refine len_tup (eq_ii ?_)
    rw [decide_eq_true (by rfl)]
    (try dsimp only [sAsg, sIf, sRet, sRetN, sDrop, sNext, asg, setAll, eT, eOp, eUn, eLst, eTup, eCons, eNil, eVar, eC, eCall, eCB, eNot, eAnd, eOr, eTru, eAndT, eOrT, eNotT, eIf, ePart, eNoPart, eYes, eChain, eChain3, oI, oI0, oLt, oLe, oGt, oGe, oNeg, oSub, oMod, oMul, oDivW, eXp, eXa, eConsX, eCallX, eCallN, eLstX, eCBX, sDropX, sRetX, sAsgX, sRaise, sRaiseF, List.set_cons_zero, List.set_cons_succ, List.getElem?_cons_zero, List.getElem?_cons_succ, truD_bl]); (try simp only [if_true, Bool.false_eq_true, if_false, decide_true, decide_false, Bool.not_true, Bool.not_false, List.length_cons, List.length_nil, sizeLine_eq, Nat.reduceAdd, Nat.reduceLeDiff, true_and, and_true, pw6, pw10, pw11, pw12, pw13, pw30, pw40, pw60]); (try dsimp only [sAsg, sIf, sRet, sRetN, sDrop, sNext, asg, setAll, eT, eOp, eUn, eLst, eTup, eCons, eNil, eVar, eC, eCall, eCB, eNot, eAnd, eOr, eTru, eAndT, eOrT, eNotT, eIf, ePart, eNoPart, eYes, eChain, eChain3, oI, oI0, oLt, oLe, oGt, oGe, oNeg, oSub, oMod, oMul, oDivW, eXp, eXa, eConsX, eCallX, eCallN, eLstX, eCBX, sDropX, sRetX, sAsgX, sRaise, sRaiseF, List.set_cons_zero, List.set_cons_succ, List.getElem?_cons_zero, List.getElem?_cons_succ, truD_bl])
    refine ixt_0 (d := .str "prices") rfl (eq_ss (asc_of _) (asc_of _) ?_)
    rw [decide_eq_true rfl]
    (try dsimp only [sAsg, sIf, sRet, sRetN, sDrop, sNext, asg, setAll, eT, eOp, eUn, eLst, eTup, eCons, eNil, eVar, eC, eCall, eCB, eNot, eAnd, eOr, eTru, eAndT, eOrT, eNotT, eIf, ePart, eNoPart, eYes, eChain, eChain3, oI, oI0, oLt, oLe, oGt, oGe, oNeg, oSub, oMod, oMul, oDivW, eXp, eXa, eConsX, eCallX, eCallN, eLstX, eCBX, sDropX, sRetX, sAsgX, sRaise, sRaiseF, List.set_cons_zero, List.set_cons_succ, List.getElem?_cons_zero, List.getElem?_cons_succ, truD_bl]); (try simp only [if_true, Bool.false_eq_true, if_false, decide_true, decide_false, Bool.not_true, Bool.not_false, List.length_cons, List.length_nil, sizeLine_eq, Nat.reduceAdd, Nat.reduceLeDiff, true_and, and_true, pw6, pw10, pw11, pw12, pw13, pw30, pw40, pw60]); (try dsimp only [sAsg, sIf, sRet, sRetN, sDrop, sNext, asg, setAll, eT, eOp, eUn, eLst, eTup, eCons, eNil, eVar, eC, eCall, eCB, eNot, eAnd, eOr, eTru, eAndT, eOrT, eNotT, eIf, ePart, eNoPart, eYes, eChain, eChain3, oI, oI0, oLt, oLe, oGt, oGe, oNeg, oSub, oMod, oMul, oDivW, eXp, eXa, eConsX, eCallX, eCallN, eLstX, eCBX, sDropX, sRetX, sAsgX, sRaise, sRaiseF, List.set_cons_zero, List.set_cons_succ, List.getElem?_cons_zero, List.getElem?_cons_succ, truD_bl])
    refine w_rg rfl hw1 ?_
    (try dsimp only [sAsg, sIf, sRet, sRetN, sDrop, sNext, asg, setAll, eT, eOp, eUn, eLst, eTup, eCons, eNil, eVar, eC, eCall, eCB, eNot, eAnd, eOr, eTru, eAndT, eOrT, eNotT, eIf, ePart, eNoPart, eYes, eChain, eChain3, oI, oI0, oLt, oLe, oGt, oGe, oNeg, oSub, oMod, oMul, oDivW, eXp, eXa, eConsX, eCallX, eCallN, eLstX, eCBX, sDropX, sRetX, sAsgX, sRaise, sRaiseF, List.set_cons_zero, List.set_cons_succ, List.getElem?_cons_zero, List.getElem?_cons_succ, truD_bl]); (try simp only [if_true, Bool.false_eq_true, if_false, decide_true, decide_false, Bool.not_true, Bool.not_false, List.length_cons, List.length_nil, sizeLine_eq, Nat.reduceAdd, Nat.reduceLeDiff, true_and, and_true, pw6, pw10, pw11, pw12, pw13, pw30, pw40, pw60]); (try dsimp only [sAsg, sIf, sRet, sRetN, sDrop, sNext, asg, setAll, eT, eOp, eUn, eLst, eTup, eCons, eNil, eVar, eC, eCall, eCB, eNot, eAnd, eOr, eTru, eAndT, eOrT, eNotT, eIf, ePart, eNoPart, eYes, eChain, eChain3, oI, oI0, oLt, oLe, oGt, oGe, oNeg, oSub, oMod, oMul, oDivW, eXp, eXa, eConsX, eCallX, eCallN, eLstX, eCBX, sDropX, sRetX, sAsgX, sRaise, sRaiseF, List.set_cons_zero, List.set_cons_succ, List.getElem?_cons_zero, List.getElem?_cons_succ, truD_bl])
    refine ixt_0 (d := .lst (pp.map qD)) rfl ?_
    refine ⟨n, rs, _, rfl, (by simp only [anyD]; exact anyDs_mem.mpr fun d hd => by obtain ⟨x, _, rfl⟩ := List.mem_map.mp hd; rfl), fun c hc => ?_⟩
    have := hc.mpr ⟨pp, rfl, pk, pb⟩
    subst this
    (try dsimp only [sAsg, sIf, sRet, sRetN, sDrop, sNext, asg, setAll, eT, eOp, eUn, eLst, eTup, eCons, eNil, eVar, eC, eCall, eCB, eNot, eAnd, eOr, eTru, eAndT, eOrT, eNotT, eIf, ePart, eNoPart, eYes, eChain, eChain3, oI, oI0, oLt, oLe, oGt, oGe, oNeg, oSub, oMod, oMul, oDivW, eXp, eXa, eConsX, eCallX, eCallN, eLstX, eCBX, sDropX, sRetX, sAsgX, sRaise, sRaiseF, List.set_cons_zero, List.set_cons_succ, List.getElem?_cons_zero, List.getElem?_cons_succ, truD_bl, eBm, eMeth]); (try simp only [if_true, Bool.false_eq_true, if_false, decide_true, decide_false, Bool.not_true, Bool.not_false, List.length_cons, List.length_nil, sizeLine_eq, Nat.reduceAdd, Nat.reduceLeDiff, true_and, and_true, pw6, pw10, pw11, pw12, pw13, pw30, pw40, pw60, eBm, eMeth]); (try dsimp only [sAsg, sIf, sRet, sRetN, sDrop, sNext, asg, setAll, eT, eOp, eUn, eLst, eTup, eCons, eNil, eVar, eC, eCall, eCB, eNot, eAnd, eOr, eTru, eAndT, eOrT, eNotT, eIf, ePart, eNoPart, eYes, eChain, eChain3, oI, oI0, oLt, oLe, oGt, oGe, oNeg, oSub, oMod, oMul, oDivW, eXp, eXa, eConsX, eCallX, eCallN, eLstX, eCBX, sDropX, sRetX, sAsgX, sRaise, sRaiseF, List.set_cons_zero, List.set_cons_succ, List.getElem?_cons_zero, List.getElem?_cons_succ, truD_bl, eBm, eMeth])
    refine w_su rfl hw1 ⟨⟨_, hw1.su⟩, is_wk hw1, ?_⟩
    refine ixt_0 (d := .lst (pp.map qD)) rfl ?_
    refine ⟨x, s, dx, n, rs, nb, met + 1, ss, pp, ins, outs, rfl, hw1, hr, hi, pk, ?_⟩
    refine app_ref hw1.su (by simp [iD]; omega) ?_
    refine finX_nx0 ?_
    have ew : wlk n rs nb (.pr pp) met ins outs = some (met + 1, [priceZ n rs nb pp ins outs]) := by
      unfold wlk
      rw [if_pos (by omega)]
    have e2 : gput G1 s (.lst (iD ss ++ [.int (priceZ n rs nb pp ins outs)])) = wput G x s dx n rs nb (met + 1) (ss ++ [priceZ n rs nb pp ins outs]) := by
      rw [← hG1']
      unfold wput
      rw [gput_swap xs]
      simp [iD]
    rw [e2]
    exact kq _ _ ew
  | cr m =>
    (try dsimp only [sAsg, sIf, sRet, sRetN, sDrop, sNext, asg, setAll, eT, eOp, eUn, eLst, eTup, eCons, eNil, eVar, eC, eCall, eCB, eNot, eAnd, eOr, eTru, eAndT, eOrT, eNotT, eIf, ePart, eNoPart, eYes, eChain, eChain3, oI, oI0, oLt, oLe, oGt, oGe, oNeg, oSub, oMod, oMul, oDivW, eXp, eXa, eConsX, eCallX, eCallN, eLstX, eCBX, sDropX, sRetX, sAsgX, sRaise, sRaiseF, List.set_cons_zero, List.set_cons_succ, List.getElem?_cons_zero, List.getElem?_cons_succ, truD_bl, Tr.d]); (try simp only [if_true, Bool.false_eq_true, if_false, decide_true, decide_false, Bool.not_true, Bool.not_false, List.length_cons, List.length_nil, sizeLine_eq, Nat.reduceAdd, Nat.reduceLeDiff, true_and, and_true, pw6, pw10, pw11, pw12, pw13, pw30, pw40, pw60, Tr.d]); (try dsimp only [sAsg, sIf, sRet, sRetN, sDrop, sNext, asg, setAll, eT, eOp, eUn, eLst, eTup, eCons, eNil, eVar, eC, eCall, eCB, eNot, eAnd, eOr, eTru, eAndT, eOrT, eNotT, eIf, ePart, eNoPart, eYes, eChain, eChain3, oI, oI0, oLt, oLe, oGt, oGe, oNeg, oSub, oMod, oMul, oDivW, eXp, eXa, eConsX, eCallX, eCallN, eLstX, eCBX, sDropX, sRetX, sAsgX, sRaise, sRaiseF, List.set_cons_zero, List.set_cons_succ, List.getElem?_cons_zero, List.getElem?_cons_succ, truD_bl, Tr.d])
    refine len_tup (eq_ii ?_)
    rw [decide_eq_true (by rfl)]
    (try dsimp only [sAsg, sIf, sRet, sRetN, sDrop, sNext, asg, setAll, eT, eOp, eUn, eLst, eTup, eCons, eNil, eVar, eC, eCall, eCB, eNot, eAnd, eOr, eTru, eAndT, eOrT, eNotT, eIf, ePart, eNoPart, eYes, eChain, eChain3, oI, oI0, oLt, oLe, oGt, oGe, oNeg, oSub, oMod, oMul, oDivW, eXp, eXa, eConsX, eCallX, eCallN, eLstX, eCBX, sDropX, sRetX, sAsgX, sRaise, sRaiseF, List.set_cons_zero, List.set_cons_succ, List.getElem?_cons_zero, List.getElem?_cons_succ, truD_bl]); (try simp only [if_true, Bool.false_eq_true, if_false, decide_true, decide_false, Bool.not_true, Bool.not_false, List.length_cons, List.length_nil, sizeLine_eq, Nat.reduceAdd, Nat.reduceLeDiff, true_and, and_true, pw6, pw10, pw11, pw12, pw13, pw30, pw40, pw60]); (try dsimp only [sAsg, sIf, sRet, sRetN, sDrop, sNext, asg, setAll, eT, eOp, eUn, eLst, eTup, eCons, eNil, eVar, eC, eCall, eCB, eNot, eAnd, eOr, eTru, eAndT, eOrT, eNotT, eIf, ePart, eNoPart, eYes, eChain, eChain3, oI, oI0, oLt, oLe, oGt, oGe, oNeg, oSub, oMod, oMul, oDivW, eXp, eXa, eConsX, eCallX, eCallN, eLstX, eCBX, sDropX, sRetX, sAsgX, sRaise, sRaiseF, List.set_cons_zero, List.set_cons_succ, List.getElem?_cons_zero, List.getElem?_cons_succ, truD_bl])
    refine ixt_0 (d := .str "crowd") rfl (eq_ss (asc_of _) (asc_of _) ?_)
    rw [decide_eq_false (by decide +kernel)]
    (try dsimp only [sAsg, sIf, sRet, sRetN, sDrop, sNext, asg, setAll, eT, eOp, eUn, eLst, eTup, eCons, eNil, eVar, eC, eCall, eCB, eNot, eAnd, eOr, eTru, eAndT, eOrT, eNotT, eIf, ePart, eNoPart, eYes, eChain, eChain3, oI, oI0, oLt, oLe, oGt, oGe, oNeg, oSub, oMod, oMul, oDivW, eXp, eXa, eConsX, eCallX, eCallN, eLstX, eCBX, sDropX, sRetX, sAsgX, sRaise, sRaiseF, List.set_cons_zero, List.set_cons_succ, List.getElem?_cons_zero, List.getElem?_cons_succ, truD_bl, eMeth]); (try simp only [if_true, Bool.false_eq_true, if_false, decide_true, decide_false, Bool.not_true, Bool.not_false, List.length_cons, List.length_nil, sizeLine_eq, Nat.reduceAdd, Nat.reduceLeDiff, true_and, and_true, pw6, pw10, pw11, pw12, pw13, pw30, pw40, pw60, eMeth]); (try dsimp only [sAsg, sIf, sRet, sRetN, sDrop, sNext, asg, setAll, eT, eOp, eUn, eLst, eTup, eCons, eNil, eVar, eC, eCall, eCB, eNot, eAnd, eOr, eTru, eAndT, eOrT, eNotT, eIf, ePart, eNoPart, eYes, eChain, eChain3, oI, oI0, oLt, oLe, oGt, oGe, oNeg, oSub, oMod, oMul, oDivW, eXp, eXa, eConsX, eCallX, eCallN, eLstX, eCBX, sDropX, sRetX, sAsgX, sRaise, sRaiseF, List.set_cons_zero, List.set_cons_succ, List.getElem?_cons_zero, List.getElem?_cons_succ, truD_bl, eMeth])
    refine ⟨is_wk hw1, x, s, dx, n, rs, nb, met + 1, ss, .cr m, ins, outs, rfl, hw1, hr, (fun i a b e => by cases e), fun _ => ?_⟩
    (try dsimp only [sAsg, sIf, sRet, sRetN, sDrop, sNext, asg, setAll, eT, eOp, eUn, eLst, eTup, eCons, eNil, eVar, eC, eCall, eCB, eNot, eAnd, eOr, eTru, eAndT, eOrT, eNotT, eIf, ePart, eNoPart, eYes, eChain, eChain3, oI, oI0, oLt, oLe, oGt, oGe, oNeg, oSub, oMod, oMul, oDivW, eXp, eXa, eConsX, eCallX, eCallN, eLstX, eCBX, sDropX, sRetX, sAsgX, sRaise, sRaiseF, List.set_cons_zero, List.set_cons_succ, List.getElem?_cons_zero, List.getElem?_cons_succ, truD_bl]); (try simp only [if_true, Bool.false_eq_true, if_false, decide_true, decide_false, Bool.not_true, Bool.not_false, List.length_cons, List.length_nil, sizeLine_eq, Nat.reduceAdd, Nat.reduceLeDiff, true_and, and_true, pw6, pw10, pw11, pw12, pw13, pw30, pw40, pw60]); (try dsimp only [sAsg, sIf, sRet, sRetN, sDrop, sNext, asg, setAll, eT, eOp, eUn, eLst, eTup, eCons, eNil, eVar, eC, eCall, eCB, eNot, eAnd, eOr, eTru, eAndT, eOrT, eNotT, eIf, ePart, eNoPart, eYes, eChain, eChain3, oI, oI0, oLt, oLe, oGt, oGe, oNeg, oSub, oMod, oMul, oDivW, eXp, eXa, eConsX, eCallX, eCallN, eLstX, eCBX, sDropX, sRetX, sAsgX, sRaise, sRaiseF, List.set_cons_zero, List.set_cons_succ, List.getElem?_cons_zero, List.getElem?_cons_succ, truD_bl])
    refine len_tup (ne_ii ?_)
    rw [decide_eq_true (by rfl)]
    (try dsimp only [sAsg, sIf, sRet, sRetN, sDrop, sNext, asg, setAll, eT, eOp, eUn, eLst, eTup, eCons, eNil, eVar, eC, eCall, eCB, eNot, eAnd, eOr, eTru, eAndT, eOrT, eNotT, eIf, ePart, eNoPart, eYes, eChain, eChain3, oI, oI0, oLt, oLe, oGt, oGe, oNeg, oSub, oMod, oMul, oDivW, eXp, eXa, eConsX, eCallX, eCallN, eLstX, eCBX, sDropX, sRetX, sAsgX, sRaise, sRaiseF, List.set_cons_zero, List.set_cons_succ, List.getElem?_cons_zero, List.getElem?_cons_succ, truD_bl]); (try simp only [if_true, Bool.false_eq_true, if_false, decide_true, decide_false, Bool.not_true, Bool.not_false, List.length_cons, List.length_nil, sizeLine_eq, Nat.reduceAdd, Nat.reduceLeDiff, true_and, and_true, pw6, pw10, pw11, pw12, pw13, pw30, pw40, pw60]); (try dsimp only [sAsg, sIf, sRet, sRetN, sDrop, sNext, asg, setAll, eT, eOp, eUn, eLst, eTup, eCons, eNil, eVar, eC, eCall, eCB, eNot, eAnd, eOr, eTru, eAndT, eOrT, eNotT, eIf, ePart, eNoPart, eYes, eChain, eChain3, oI, oI0, oLt, oLe, oGt, oGe, oNeg, oSub, oMod, oMul, oDivW, eXp, eXa, eConsX, eCallX, eCallN, eLstX, eCBX, sDropX, sRetX, sAsgX, sRaise, sRaiseF, List.set_cons_zero, List.set_cons_succ, List.getElem?_cons_zero, List.getElem?_cons_succ, truD_bl])
    refine ixt_0 (d := .str "crowd") rfl (ne_ss (asc_of _) (asc_of _) ?_)
    rw [decide_eq_true rfl]
    (try dsimp only [sAsg, sIf, sRet, sRetN, sDrop, sNext, asg, setAll, eT, eOp, eUn, eLst, eTup, eCons, eNil, eVar, eC, eCall, eCB, eNot, eAnd, eOr, eTru, eAndT, eOrT, eNotT, eIf, ePart, eNoPart, eYes, eChain, eChain3, oI, oI0, oLt, oLe, oGt, oGe, oNeg, oSub, oMod, oMul, oDivW, eXp, eXa, eConsX, eCallX, eCallN, eLstX, eCBX, sDropX, sRetX, sAsgX, sRaise, sRaiseF, List.set_cons_zero, List.set_cons_succ, List.getElem?_cons_zero, List.getElem?_cons_succ, truD_bl, eMeth]); (try simp only [if_true, Bool.false_eq_true, if_false, decide_true, decide_false, Bool.not_true, Bool.not_false, List.length_cons, List.length_nil, sizeLine_eq, Nat.reduceAdd, Nat.reduceLeDiff, true_and, and_true, pw6, pw10, pw11, pw12, pw13, pw30, pw40, pw60, eMeth]); (try dsimp only [sAsg, sIf, sRet, sRetN, sDrop, sNext, asg, setAll, eT, eOp, eUn, eLst, eTup, eCons, eNil, eVar, eC, eCall, eCB, eNot, eAnd, eOr, eTru, eAndT, eOrT, eNotT, eIf, ePart, eNoPart, eYes, eChain, eChain3, oI, oI0, oLt, oLe, oGt, oGe, oNeg, oSub, oMod, oMul, oDivW, eXp, eXa, eConsX, eCallX, eCallN, eLstX, eCBX, sDropX, sRetX, sAsgX, sRaise, sRaiseF, List.set_cons_zero, List.set_cons_succ, List.getElem?_cons_zero, List.getElem?_cons_succ, truD_bl, eMeth])
    refine ⟨is_wk hw1, ixt_0 (d := .int m) rfl ?_⟩
    refine ⟨x, s, dx, n, rs, nb, met + 1, ss, .int m, ins, rfl, hw1, hr, hi, rfl, fun m' e => ?_, fun q => absurd rfl (q m)⟩
    cases e
    by_cases c : (0 ≤ m ∧ m < n) ∧ nb < (loadOn n rs ins m : Int)
    · rw [decide_eq_true c]
      (try dsimp only [sAsg, sIf, sRet, sRetN, sDrop, sNext, asg, setAll, eT, eOp, eUn, eLst, eTup, eCons, eNil, eVar, eC, eCall, eCB, eNot, eAnd, eOr, eTru, eAndT, eOrT, eNotT, eIf, ePart, eNoPart, eYes, eChain, eChain3, oI, oI0, oLt, oLe, oGt, oGe, oNeg, oSub, oMod, oMul, oDivW, eXp, eXa, eConsX, eCallX, eCallN, eLstX, eCBX, sDropX, sRetX, sAsgX, sRaise, sRaiseF, List.set_cons_zero, List.set_cons_succ, List.getElem?_cons_zero, List.getElem?_cons_succ, truD_bl]); (try simp only [if_true, Bool.false_eq_true, if_false, decide_true, decide_false, Bool.not_true, Bool.not_false, List.length_cons, List.length_nil, sizeLine_eq, Nat.reduceAdd, Nat.reduceLeDiff, true_and, and_true, pw6, pw10, pw11, pw12, pw13, pw30, pw40, pw60]); (try dsimp only [sAsg, sIf, sRet, sRetN, sDrop, sNext, asg, setAll, eT, eOp, eUn, eLst, eTup, eCons, eNil, eVar, eC, eCall, eCB, eNot, eAnd, eOr, eTru, eAndT, eOrT, eNotT, eIf, ePart, eNoPart, eYes, eChain, eChain3, oI, oI0, oLt, oLe, oGt, oGe, oNeg, oSub, oMod, oMul, oDivW, eXp, eXa, eConsX, eCallX, eCallN, eLstX, eCBX, sDropX, sRetX, sAsgX, sRaise, sRaiseF, List.set_cons_zero, List.set_cons_succ, List.getElem?_cons_zero, List.getElem?_cons_succ, truD_bl])
      refine finX_nx0 ?_
      have ew : wlk n rs nb (.cr m) met ins outs = some (met + 1, []) := by
        unfold wlk
        rw [if_pos ⟨by omega, c.1, c.2⟩]
      have := kq _ _ ew
      rw [List.append_nil, hG1'] at this
      exact this
    · rw [decide_eq_false c]
      (try dsimp only [sAsg, sIf, sRet, sRetN, sDrop, sNext, asg, setAll, eT, eOp, eUn, eLst, eTup, eCons, eNil, eVar, eC, eCall, eCB, eNot, eAnd, eOr, eTru, eAndT, eOrT, eNotT, eIf, ePart, eNoPart, eYes, eChain, eChain3, oI, oI0, oLt, oLe, oGt, oGe, oNeg, oSub, oMod, oMul, oDivW, eXp, eXa, eConsX, eCallX, eCallN, eLstX, eCBX, sDropX, sRetX, sAsgX, sRaise, sRaiseF, List.set_cons_zero, List.set_cons_succ, List.getElem?_cons_zero, List.getElem?_cons_succ, truD_bl]); (try simp only [if_true, Bool.false_eq_true, if_false, decide_true, decide_false, Bool.not_true, Bool.not_false, List.length_cons, List.length_nil, sizeLine_eq, Nat.reduceAdd, Nat.reduceLeDiff, true_and, and_true, pw6, pw10, pw11, pw12, pw13, pw30, pw40, pw60]); (try dsimp only [sAsg, sIf, sRet, sRetN, sDrop, sNext, asg, setAll, eT, eOp, eUn, eLst, eTup, eCons, eNil, eVar, eC, eCall, eCB, eNot, eAnd, eOr, eTru, eAndT, eOrT, eNotT, eIf, ePart, eNoPart, eYes, eChain, eChain3, oI, oI0, oLt, oLe, oGt, oGe, oNeg, oSub, oMod, oMul, oDivW, eXp, eXa, eConsX, eCallX, eCallN, eLstX, eCBX, sDropX, sRetX, sAsgX, sRaise, sRaiseF, List.set_cons_zero, List.set_cons_succ, List.getElem?_cons_zero, List.getElem?_cons_succ, truD_bl])
      rw [← hG1']
      refine finX_id (ku ?_ _ _ way)
      unfold wlk
      rw [if_neg fun q => c q.2]
  | sp i a b =>
    obtain ⟨pa, pb⟩ := pap
    have da : a.dep ≤ k - 1 ∧ b.dep ≤ k - 1 ∧ 1 ≤ k := by
      simp only [Tr.dep] at dk
      have := a.dep1
      omega
    obtain ⟨k', rfl⟩ : ∃ k', k = k' + 1 := ⟨k - 1, by omega⟩
    have dA : a.dep + 1 ≤ (Tr.sp i a b).dep := by simp only [Tr.dep]; omega
    have dB : b.dep + 1 ≤ (Tr.sp i a b).dep := by simp only [Tr.dep]; omega
    (try dsimp only [sAsg, sIf, sRet, sRetN, sDrop, sNext, asg, setAll, eT, eOp, eUn, eLst, eTup, eCons, eNil, eVar, eC, eCall, eCB, eNot, eAnd, eOr, eTru, eAndT, eOrT, eNotT, eIf, ePart, eNoPart, eYes, eChain, eChain3, oI, oI0, oLt, oLe, oGt, oGe, oNeg, oSub, oMod, oMul, oDivW, eXp, eXa, eConsX, eCallX, eCallN, eLstX, eCBX, sDropX, sRetX, sAsgX, sRaise, sRaiseF, List.set_cons_zero, List.set_cons_succ, List.getElem?_cons_zero, List.getElem?_cons_succ, truD_bl, Tr.d]); (try simp only [if_true, Bool.false_eq_true, if_false, decide_true, decide_false, Bool.not_true, Bool.not_false, List.length_cons, List.length_nil, sizeLine_eq, Nat.reduceAdd, Nat.reduceLeDiff, true_and, and_true, pw6, pw10, pw11, pw12, pw13, pw30, pw40, pw60, Tr.d]); (try dsimp only [sAsg, sIf, sRet, sRetN, sDrop, sNext, asg, setAll, eT, eOp, eUn, eLst, eTup, eCons, eNil, eVar, eC, eCall, eCB, eNot, eAnd, eOr, eTru, eAndT, eOrT, eNotT, eIf, ePart, eNoPart, eYes, eChain, eChain3, oI, oI0, oLt, oLe, oGt, oGe, oNeg, oSub, oMod, oMul, oDivW, eXp, eXa, eConsX, eCallX, eCallN, eLstX, eCBX, sDropX, sRetX, sAsgX, sRaise, sRaiseF, List.set_cons_zero, List.set_cons_succ, List.getElem?_cons_zero, List.getElem?_cons_succ, truD_bl, Tr.d])
    refine len_tup (eq_ii ?_)
    rw [decide_eq_false (by simp)]
    (try dsimp only [sAsg, sIf, sRet, sRetN, sDrop, sNext, asg, setAll, eT, eOp, eUn, eLst, eTup, eCons, eNil, eVar, eC, eCall, eCB, eNot, eAnd, eOr, eTru, eAndT, eOrT, eNotT, eIf, ePart, eNoPart, eYes, eChain, eChain3, oI, oI0, oLt, oLe, oGt, oGe, oNeg, oSub, oMod, oMul, oDivW, eXp, eXa, eConsX, eCallX, eCallN, eLstX, eCBX, sDropX, sRetX, sAsgX, sRaise, sRaiseF, List.set_cons_zero, List.set_cons_succ, List.getElem?_cons_zero, List.getElem?_cons_succ, truD_bl, eMeth]); (try simp only [if_true, Bool.false_eq_true, if_false, decide_true, decide_false, Bool.not_true, Bool.not_false, List.length_cons, List.length_nil, sizeLine_eq, Nat.reduceAdd, Nat.reduceLeDiff, true_and, and_true, pw6, pw10, pw11, pw12, pw13, pw30, pw40, pw60, eMeth]); (try dsimp only [sAsg, sIf, sRet, sRetN, sDrop, sNext, asg, setAll, eT, eOp, eUn, eLst, eTup, eCons, eNil, eVar, eC, eCall, eCB, eNot, eAnd, eOr, eTru, eAndT, eOrT, eNotT, eIf, ePart, eNoPart, eYes, eChain, eChain3, oI, oI0, oLt, oLe, oGt, oGe, oNeg, oSub, oMod, oMul, oDivW, eXp, eXa, eConsX, eCallX, eCallN, eLstX, eCBX, sDropX, sRetX, sAsgX, sRaise, sRaiseF, List.set_cons_zero, List.set_cons_succ, List.getElem?_cons_zero, List.getElem?_cons_succ, truD_bl, eMeth])
    refine ⟨is_wk hw1, x, s, dx, n, rs, nb, met + 1, ss, .sp i a b, ins, outs, rfl, hw1, hr, fun i' a' b' e => ?_, fun q => absurd rfl (q i a b)⟩
    cases e
    by_cases c : i ∈ freeZ rs ins outs
    · rw [decide_eq_true c]
      (try dsimp only [sAsg, sIf, sRet, sRetN, sDrop, sNext, asg, setAll, eT, eOp, eUn, eLst, eTup, eCons, eNil, eVar, eC, eCall, eCB, eNot, eAnd, eOr, eTru, eAndT, eOrT, eNotT, eIf, ePart, eNoPart, eYes, eChain, eChain3, oI, oI0, oLt, oLe, oGt, oGe, oNeg, oSub, oMod, oMul, oDivW, eXp, eXa, eConsX, eCallX, eCallN, eLstX, eCBX, sDropX, sRetX, sAsgX, sRaise, sRaiseF, List.set_cons_zero, List.set_cons_succ, List.getElem?_cons_zero, List.getElem?_cons_succ, truD_bl]); (try simp only [if_true, Bool.false_eq_true, if_false, decide_true, decide_false, Bool.not_true, Bool.not_false, List.length_cons, List.length_nil, sizeLine_eq, Nat.reduceAdd, Nat.reduceLeDiff, true_and, and_true, pw6, pw10, pw11, pw12, pw13, pw30, pw40, pw60]); (try dsimp only [sAsg, sIf, sRet, sRetN, sDrop, sNext, asg, setAll, eT, eOp, eUn, eLst, eTup, eCons, eNil, eVar, eC, eCall, eCB, eNot, eAnd, eOr, eTru, eAndT, eOrT, eNotT, eIf, ePart, eNoPart, eYes, eChain, eChain3, oI, oI0, oLt, oLe, oGt, oGe, oNeg, oSub, oMod, oMul, oDivW, eXp, eXa, eConsX, eCallX, eCallN, eLstX, eCBX, sDropX, sRetX, sAsgX, sRaise, sRaiseF, List.set_cons_zero, List.set_cons_succ, List.getElem?_cons_zero, List.getElem?_cons_succ, truD_bl])
      obtain ⟨f1, f2, f3⟩ := free_mem.mp c
      have atI1 : ∀ {Q : DK}, Q (.int (i : Int)) G1 → oIx (.tup [.str "split", .int (i : Int), .lst [a.d, b.d]]) (.int 1) G1 Q := fun q => ixt_0 rfl q
      refine seq_gen fun W3 hW3 => ?_
      (try dsimp only [sAsg, sIf, sRet, sRetN, sDrop, sNext, asg, setAll, eT, eOp, eUn, eLst, eTup, eCons, eNil, eVar, eC, eCall, eCB, eNot, eAnd, eOr, eTru, eAndT, eOrT, eNotT, eIf, ePart, eNoPart, eYes, eChain, eChain3, oI, oI0, oLt, oLe, oGt, oGe, oNeg, oSub, oMod, oMul, oDivW, eXp, eXa, eConsX, eCallX, eCallN, eLstX, eCBX, sDropX, sRetX, sAsgX, sRaise, sRaiseF, List.set_cons_zero, List.set_cons_succ, List.getElem?_cons_zero, List.getElem?_cons_succ, truD_bl, eMethX]); (try simp only [if_true, Bool.false_eq_true, if_false, decide_true, decide_false, Bool.not_true, Bool.not_false, List.length_cons, List.length_nil, sizeLine_eq, Nat.reduceAdd, Nat.reduceLeDiff, true_and, and_true, pw6, pw10, pw11, pw12, pw13, pw30, pw40, pw60, eMethX]); (try dsimp only [sAsg, sIf, sRet, sRetN, sDrop, sNext, asg, setAll, eT, eOp, eUn, eLst, eTup, eCons, eNil, eVar, eC, eCall, eCB, eNot, eAnd, eOr, eTru, eAndT, eOrT, eNotT, eIf, ePart, eNoPart, eYes, eChain, eChain3, oI, oI0, oLt, oLe, oGt, oGe, oNeg, oSub, oMod, oMul, oDivW, eXp, eXa, eConsX, eCallX, eCallN, eLstX, eCBX, sDropX, sRetX, sAsgX, sRaise, sRaiseF, List.set_cons_zero, List.set_cons_succ, List.getElem?_cons_zero, List.getElem?_cons_succ, truD_bl, eMethX])
      refine ⟨is_wk hw1, ?_⟩
      refine ixt_0 (d := .lst [a.d, b.d]) rfl (ix_at (d := a.d) rfl ?_)
      refine ixt_0 (d := .int (i : Int)) rfl ?_
      refine app_d (M := [i]) (by simp; omega) ?_
      refine app_d (M := [0]) (by simp; omega) ?_
      refine ⟨x, s, dx, n, rs, nb, met + 1, ss, a, ins ++ [i], outs, way ++ [0], rfl, ⟨hw1, hr, fun j hj => ?_, by simp; omega, by omega, by simp; omega, by omega, by omega⟩, pa, by omega, by simp; omega, by omega, by simp; omega, by omega, fun m1 s1 e1 => ?_, fun e1 m1 s1 w => ?_⟩
      · rcases List.mem_append.mp hj with q | q
        · exact hi j q
        · rw [List.mem_singleton.mp q]; exact f1
      · have l1 := wlk_ms a e1
        refine hW3 _ _ ?_
        rw [← hG1', wput_wput xs]
        have hw2 := wput_at (G := G) (dx := dx) (n := n) (rs := rs) (nb := nb) (met := m1) (ss := ss ++ s1) xs
        generalize hG2 : wput G x s dx n rs nb m1 (ss ++ s1) = G2 at hw2 ⊢
        (try dsimp only [sAsg, sIf, sRet, sRetN, sDrop, sNext, asg, setAll, eT, eOp, eUn, eLst, eTup, eCons, eNil, eVar, eC, eCall, eCB, eNot, eAnd, eOr, eTru, eAndT, eOrT, eNotT, eIf, ePart, eNoPart, eYes, eChain, eChain3, oI, oI0, oLt, oLe, oGt, oGe, oNeg, oSub, oMod, oMul, oDivW, eXp, eXa, eConsX, eCallX, eCallN, eLstX, eCBX, sDropX, sRetX, sAsgX, sRaise, sRaiseF, List.set_cons_zero, List.set_cons_succ, List.getElem?_cons_zero, List.getElem?_cons_succ, truD_bl, eMethX]); (try simp only [if_true, Bool.false_eq_true, if_false, decide_true, decide_false, Bool.not_true, Bool.not_false, List.length_cons, List.length_nil, sizeLine_eq, Nat.reduceAdd, Nat.reduceLeDiff, true_and, and_true, pw6, pw10, pw11, pw12, pw13, pw30, pw40, pw60, eMethX]); (try dsimp only [sAsg, sIf, sRet, sRetN, sDrop, sNext, asg, setAll, eT, eOp, eUn, eLst, eTup, eCons, eNil, eVar, eC, eCall, eCB, eNot, eAnd, eOr, eTru, eAndT, eOrT, eNotT, eIf, ePart, eNoPart, eYes, eChain, eChain3, oI, oI0, oLt, oLe, oGt, oGe, oNeg, oSub, oMod, oMul, oDivW, eXp, eXa, eConsX, eCallX, eCallN, eLstX, eCBX, sDropX, sRetX, sAsgX, sRaise, sRaiseF, List.set_cons_zero, List.set_cons_succ, List.getElem?_cons_zero, List.getElem?_cons_succ, truD_bl, eMethX])
        refine ⟨is_wk hw2, ?_⟩
        refine ixt_0 (d := .lst [a.d, b.d]) rfl (ix_at (d := b.d) rfl ?_)
        refine ixt_0 (d := .int (i : Int)) rfl ?_
        refine app_d (M := [i]) (by simp; omega) ?_
        refine app_d (M := [1]) (by simp; omega) ?_
        refine ⟨x, s, dx, n, rs, nb, m1, ss ++ s1, b, ins, outs ++ [i], way ++ [1], rfl, ⟨hw2, hr, hi, by omega, by simp; omega, by simp; omega, by simp; omega, by omega⟩, pb, by omega, by omega, by simp; omega, by simp; omega, by omega, fun m2 s2 e2 => ?_, fun e2 m2 s2 w => ?_⟩
        · refine finX_nx0 ?_
          rw [← hG2, wput_wput xs, List.append_assoc]
          refine kq _ _ ?_
          unfold wlk
          rw [if_pos ⟨by omega, c⟩]
          simp only [e1, e2]
        · rw [← hG2, wput_wput xs]
          refine finX_id (ku ?_ _ _ w)
          unfold wlk
          rw [if_pos ⟨by omega, c⟩]
          simp only [e1, e2]
      · rw [← hG1', wput_wput xs]
        refine finX_id (ku ?_ _ _ w)
        unfold wlk
        rw [if_pos ⟨by omega, c⟩]
        simp only [e1]
    · rw [decide_eq_false c]
      (try dsimp only [sAsg, sIf, sRet, sRetN, sDrop, sNext, asg, setAll, eT, eOp, eUn, eLst, eTup, eCons, eNil, eVar, eC, eCall, eCB, eNot, eAnd, eOr, eTru, eAndT, eOrT, eNotT, eIf, ePart, eNoPart, eYes, eChain, eChain3, oI, oI0, oLt, oLe, oGt, oGe, oNeg, oSub, oMod, oMul, oDivW, eXp, eXa, eConsX, eCallX, eCallN, eLstX, eCBX, sDropX, sRetX, sAsgX, sRaise, sRaiseF, List.set_cons_zero, List.set_cons_succ, List.getElem?_cons_zero, List.getElem?_cons_succ, truD_bl]); (try simp only [if_true, Bool.false_eq_true, if_false, decide_true, decide_false, Bool.not_true, Bool.not_false, List.length_cons, List.length_nil, sizeLine_eq, Nat.reduceAdd, Nat.reduceLeDiff, true_and, and_true, pw6, pw10, pw11, pw12, pw13, pw30, pw40, pw60]); (try dsimp only [sAsg, sIf, sRet, sRetN, sDrop, sNext, asg, setAll, eT, eOp, eUn, eLst, eTup, eCons, eNil, eVar, eC, eCall, eCB, eNot, eAnd, eOr, eTru, eAndT, eOrT, eNotT, eIf, ePart, eNoPart, eYes, eChain, eChain3, oI, oI0, oLt, oLe, oGt, oGe, oNeg, oSub, oMod, oMul, oDivW, eXp, eXa, eConsX, eCallX, eCallN, eLstX, eCBX, sDropX, sRetX, sAsgX, sRaise, sRaiseF, List.set_cons_zero, List.set_cons_succ, List.getElem?_cons_zero, List.getElem?_cons_succ, truD_bl])
      refine len_tup (ne_ii ?_)
      rw [decide_eq_false (by simp)]
      (try dsimp only [sAsg, sIf, sRet, sRetN, sDrop, sNext, asg, setAll, eT, eOp, eUn, eLst, eTup, eCons, eNil, eVar, eC, eCall, eCB, eNot, eAnd, eOr, eTru, eAndT, eOrT, eNotT, eIf, ePart, eNoPart, eYes, eChain, eChain3, oI, oI0, oLt, oLe, oGt, oGe, oNeg, oSub, oMod, oMul, oDivW, eXp, eXa, eConsX, eCallX, eCallN, eLstX, eCBX, sDropX, sRetX, sAsgX, sRaise, sRaiseF, List.set_cons_zero, List.set_cons_succ, List.getElem?_cons_zero, List.getElem?_cons_succ, truD_bl]); (try simp only [if_true, Bool.false_eq_true, if_false, decide_true, decide_false, Bool.not_true, Bool.not_false, List.length_cons, List.length_nil, sizeLine_eq, Nat.reduceAdd, Nat.reduceLeDiff, true_and, and_true, pw6, pw10, pw11, pw12, pw13, pw30, pw40, pw60]); (try dsimp only [sAsg, sIf, sRet, sRetN, sDrop, sNext, asg, setAll, eT, eOp, eUn, eLst, eTup, eCons, eNil, eVar, eC, eCall, eCB, eNot, eAnd, eOr, eTru, eAndT, eOrT, eNotT, eIf, ePart, eNoPart, eYes, eChain, eChain3, oI, oI0, oLt, oLe, oGt, oGe, oNeg, oSub, oMod, oMul, oDivW, eXp, eXa, eConsX, eCallX, eCallN, eLstX, eCBX, sDropX, sRetX, sAsgX, sRaise, sRaiseF, List.set_cons_zero, List.set_cons_succ, List.getElem?_cons_zero, List.getElem?_cons_succ, truD_bl])
      rw [← hG1']
      refine finX_id (ku ?_ _ _ way)
      unfold wlk
      rw [if_neg fun q => c q.2]
theorem wlk_ne {n : Int} {rs : List Stretch} {nb : Int} (h0 : 0 ≤ nb) : ∀ (t : Tr) {met : Nat} {outs : List Nat} {m' : Nat} {s' : List Int}, wlk n rs nb t met [] outs = some (m', s') → s' ≠ []
  | .pr pp, met, outs, m', s', h => by
    unfold wlk at h
    split at h
    · cases h; simp
    · cases h
  | .cr m, met, outs, m', s', h => by
    unfold wlk at h
    split at h
    · rename_i c
      have : loadOn n rs [] m = 0 := rfl
      omega
    · cases h
  | .sp i a b, met, outs, m', s', h => by
    unfold wlk at h
    split at h
    · split at h
      · rename_i m1 s1 e1
        split at h
        · rename_i m2 s2 e2
          cases h
          have h2 := wlk_ne h0 b e2
          simp [h2]
        · cases h
      · cases h
    · cases h
theorem d_tree_claim (ds : List D) (G : Gp) (Q : DK) (U : Ux) (h : F_tree_claim ds G Q U) : r_tree_claim (finX G Q U) (startD 4 ds) G := by
  obtain ⟨n, rs, nb, t, rfl, hr, n0, pap, dk, kq, ku⟩ := h
  refine seq_gen fun W hW => ?_
  (try dsimp only [sAsg, sIf, sRet, sRetN, sDrop, sNext, asg, setAll, eT, eOp, eUn, eLst, eTup, eCons, eNil, eVar, eC, eCall, eCB, eNot, eAnd, eOr, eTru, eAndT, eOrT, eNotT, eIf, ePart, eNoPart, eYes, eChain, eChain3, oI, oI0, oLt, oLe, oGt, oGe, oNeg, oSub, oMod, oMul, oDivW, eXp, eXa, eConsX, eCallX, eCallN, eLstX, eCBX, sDropX, sRetX, sAsgX, sRaise, sRaiseF, List.set_cons_zero, List.set_cons_succ, List.getElem?_cons_zero, List.getElem?_cons_succ, truD_bl, startD, List.map_cons, List.map_nil, List.cons_append, List.nil_append, List.replicate, eMake]); (try simp only [if_true, Bool.false_eq_true, if_false, decide_true, decide_false, Bool.not_true, Bool.not_false, List.length_cons, List.length_nil, sizeLine_eq, Nat.reduceAdd, Nat.reduceLeDiff, true_and, and_true, pw6, pw10, pw11, pw12, pw13, pw30, pw40, pw60, startD, List.map_cons, List.map_nil, List.cons_append, List.nil_append, List.replicate, eMake]); (try dsimp only [sAsg, sIf, sRet, sRetN, sDrop, sNext, asg, setAll, eT, eOp, eUn, eLst, eTup, eCons, eNil, eVar, eC, eCall, eCB, eNot, eAnd, eOr, eTru, eAndT, eOrT, eNotT, eIf, ePart, eNoPart, eYes, eChain, eChain3, oI, oI0, oLt, oLe, oGt, oGe, oNeg, oSub, oMod, oMul, oDivW, eXp, eXa, eConsX, eCallX, eCallN, eLstX, eCBX, sDropX, sRetX, sAsgX, sRaise, sRaiseF, List.set_cons_zero, List.set_cons_succ, List.getElem?_cons_zero, List.getElem?_cons_succ, truD_bl, startD, List.map_cons, List.map_nil, List.cons_append, List.nil_append, List.replicate, eMake])
  intro x dx hx
  refine ⟨x, dx, n, rs, nb, rfl, gput_same, fun s hs => ⟨rfl, hW _ _ ?_⟩⟩
  have xs : x ≠ s := fun e => by rw [← e, gput_same] at hs; cases hs
  rw [gput_ne xs.symm] at hs
  have hw := wput_at (G := gput G x (.ins "RingWalk" dx [] [])) (dx := dx) (n := n) (rs := rs) (nb := nb) (met := 0) (ss := []) xs
  generalize hG1 : wput (gput G x (.ins "RingWalk" dx [] [])) x s dx n rs nb 0 [] = G1 at hw ⊢
  have keep : ∀ {m2 : Nat} {s2 : List Int} (b : Addr) (o : GO), G b = some o → wput G1 x s dx n rs nb m2 s2 b = some o := fun {m2 s2} b o e => by
    have bx : b ≠ x := fun z => by rw [z, hx] at e; cases e
    have bs : b ≠ s := fun z => by rw [z, hs] at e; cases e
    rw [wput_off bx bs, ← hG1, wput_off bx bs, gput_ne bx]
    exact e
  refine seq_gen fun W2 hW2 => ?_
  (try dsimp only [sAsg, sIf, sRet, sRetN, sDrop, sNext, asg, setAll, eT, eOp, eUn, eLst, eTup, eCons, eNil, eVar, eC, eCall, eCB, eNot, eAnd, eOr, eTru, eAndT, eOrT, eNotT, eIf, ePart, eNoPart, eYes, eChain, eChain3, oI, oI0, oLt, oLe, oGt, oGe, oNeg, oSub, oMod, oMul, oDivW, eXp, eXa, eConsX, eCallX, eCallN, eLstX, eCBX, sDropX, sRetX, sAsgX, sRaise, sRaiseF, List.set_cons_zero, List.set_cons_succ, List.getElem?_cons_zero, List.getElem?_cons_succ, truD_bl, eMethX]); (try simp only [if_true, Bool.false_eq_true, if_false, decide_true, decide_false, Bool.not_true, Bool.not_false, List.length_cons, List.length_nil, sizeLine_eq, Nat.reduceAdd, Nat.reduceLeDiff, true_and, and_true, pw6, pw10, pw11, pw12, pw13, pw30, pw40, pw60, eMethX]); (try dsimp only [sAsg, sIf, sRet, sRetN, sDrop, sNext, asg, setAll, eT, eOp, eUn, eLst, eTup, eCons, eNil, eVar, eC, eCall, eCB, eNot, eAnd, eOr, eTru, eAndT, eOrT, eNotT, eIf, ePart, eNoPart, eYes, eChain, eChain3, oI, oI0, oLt, oLe, oGt, oGe, oNeg, oSub, oMod, oMul, oDivW, eXp, eXa, eConsX, eCallX, eCallN, eLstX, eCBX, sDropX, sRetX, sAsgX, sRaise, sRaiseF, List.set_cons_zero, List.set_cons_succ, List.getElem?_cons_zero, List.getElem?_cons_succ, truD_bl, eMethX])
  refine ⟨is_wk hw, ?_⟩
  refine ⟨x, s, dx, n, rs, nb, 0, [], t, [], [], [], rfl, ⟨hw, hr, (fun i hi => by cases hi), by simp, by simp, by simp, Nat.le_refl _, by decide⟩, pap, dk, by simp; omega, by simp; omega, by simp; omega, by omega, fun m' s' e => hW2 _ _ ?_, fun e m' s' w => ?_⟩
  · rw [List.nil_append]
    have hw2 := wput_at (G := G1) (dx := dx) (n := n) (rs := rs) (nb := nb) (met := m') (ss := s') xs
    (try dsimp only [sAsg, sIf, sRet, sRetN, sDrop, sNext, asg, setAll, eT, eOp, eUn, eLst, eTup, eCons, eNil, eVar, eC, eCall, eCB, eNot, eAnd, eOr, eTru, eAndT, eOrT, eNotT, eIf, ePart, eNoPart, eYes, eChain, eChain3, oI, oI0, oLt, oLe, oGt, oGe, oNeg, oSub, oMod, oMul, oDivW, eXp, eXa, eConsX, eCallX, eCallN, eLstX, eCBX, sDropX, sRetX, sAsgX, sRaise, sRaiseF, List.set_cons_zero, List.set_cons_succ, List.getElem?_cons_zero, List.getElem?_cons_succ, truD_bl]); (try simp only [if_true, Bool.false_eq_true, if_false, decide_true, decide_false, Bool.not_true, Bool.not_false, List.length_cons, List.length_nil, sizeLine_eq, Nat.reduceAdd, Nat.reduceLeDiff, true_and, and_true, pw6, pw10, pw11, pw12, pw13, pw30, pw40, pw60]); (try dsimp only [sAsg, sIf, sRet, sRetN, sDrop, sNext, asg, setAll, eT, eOp, eUn, eLst, eTup, eCons, eNil, eVar, eC, eCall, eCB, eNot, eAnd, eOr, eTru, eAndT, eOrT, eNotT, eIf, ePart, eNoPart, eYes, eChain, eChain3, oI, oI0, oLt, oLe, oGt, oGe, oNeg, oSub, oMod, oMul, oDivW, eXp, eXa, eConsX, eCallX, eCallN, eLstX, eCBX, sDropX, sRetX, sAsgX, sRaise, sRaiseF, List.set_cons_zero, List.set_cons_succ, List.getElem?_cons_zero, List.getElem?_cons_succ, truD_bl])
    refine w_su rfl hw2 ?_
    have e2 := hw2.su
    have ne := wlk_ne n0 t e
    (try dsimp only [sAsg, sIf, sRet, sRetN, sDrop, sNext, asg, setAll, eT, eOp, eUn, eLst, eTup, eCons, eNil, eVar, eC, eCall, eCB, eNot, eAnd, eOr, eTru, eAndT, eOrT, eNotT, eIf, ePart, eNoPart, eYes, eChain, eChain3, oI, oI0, oLt, oLe, oGt, oGe, oNeg, oSub, oMod, oMul, oDivW, eXp, eXa, eConsX, eCallX, eCallN, eLstX, eCBX, sDropX, sRetX, sAsgX, sRaise, sRaiseF, List.set_cons_zero, List.set_cons_succ, List.getElem?_cons_zero, List.getElem?_cons_succ, truD_bl, cMax, lkL_ref, e2, Option.bind_some, iD, intsD_map]); (try simp only [if_true, Bool.false_eq_true, if_false, decide_true, decide_false, Bool.not_true, Bool.not_false, List.length_cons, List.length_nil, sizeLine_eq, Nat.reduceAdd, Nat.reduceLeDiff, true_and, and_true, pw6, pw10, pw11, pw12, pw13, pw30, pw40, pw60, cMax, lkL_ref, e2, Option.bind_some, iD, intsD_map]); (try dsimp only [sAsg, sIf, sRet, sRetN, sDrop, sNext, asg, setAll, eT, eOp, eUn, eLst, eTup, eCons, eNil, eVar, eC, eCall, eCB, eNot, eAnd, eOr, eTru, eAndT, eOrT, eNotT, eIf, ePart, eNoPart, eYes, eChain, eChain3, oI, oI0, oLt, oLe, oGt, oGe, oNeg, oSub, oMod, oMul, oDivW, eXp, eXa, eConsX, eCallX, eCallN, eLstX, eCBX, sDropX, sRetX, sAsgX, sRaise, sRaiseF, List.set_cons_zero, List.set_cons_succ, List.getElem?_cons_zero, List.getElem?_cons_succ, truD_bl, cMax, lkL_ref, e2, Option.bind_some, iD, intsD_map])
    refine ⟨List.length_pos_iff.mpr ne, fun v hv hm => ?_⟩
    exact fin_back (fun b o e => keep b o e) (by simp only [RefIn]) (kq m' s' e v hv hm)
  · exact finX_back (fun b o e => keep b o e) (by simp only [refX]; exact refIn_plain (by simp only [plainD]; exact plain_nD _)) (ku e w)
end DL
set_option Elab.async false
set_option linter.all false
set_option maxRecDepth 100000
set_option maxHeartbeats 4000000
namespace DL
open PySem PySem.Spec PyProof.Rows L2 LN
theorem tx_list2 {n m : Nat} {a b : PyData} (ha : Tx n a) (hb : Tx m b) : Tx (n + m + 6) (.list [a, b]) := by
  have e : ∀ x ∈ [a, b], x.showable = true ∧ x.hasDict = false ∧ Asc x.shown := fun x hx => by
    simp only [List.mem_cons, List.not_mem_nil, or_false] at hx
    rcases hx with rfl | rfl
    · exact ⟨ha.sh, ha.nd, ha.asc⟩
    · exact ⟨hb.sh, hb.nd, hb.asc⟩
  refine ⟨by simp only [PyData.showable]; exact showableAll_of fun x hx => (e x hx).1, by simp only [PyData.hasDict]; exact noDictAll_of fun x hx => (e x hx).2.1, ?_, ?_⟩
  · simp only [PyData.shown, shownAll_map]
    exact asc_app (asc_from (asc_of _) fun t ht => by obtain ⟨x, hx, rfl⟩ := List.mem_map.mp ht; exact (e x hx).2.2) (asc_of _)
  · simp only [PyData.shown, shownAll_map]
    have h1 := listText_le ([a, b].map PyData.shown)
    simp only [List.map_cons, List.map_nil, piled_cons, piled, List.sum_cons, List.sum_nil] at h1 ⊢
    have := ha.len
    have := hb.len
    omega
theorem tx_tup3 {n m l : Nat} {a b c : PyData} (ha : Tx n a) (hb : Tx m b) (hc : Tx l c) : Tx (n + m + l + 10) (.tuple [a, b, c]) := by
  have e : ∀ x ∈ [a, b, c], x.showable = true ∧ x.hasDict = false ∧ Asc x.shown := fun x hx => by
    simp only [List.mem_cons, List.not_mem_nil, or_false] at hx
    rcases hx with rfl | rfl | rfl
    · exact ⟨ha.sh, ha.nd, ha.asc⟩
    · exact ⟨hb.sh, hb.nd, hb.asc⟩
    · exact ⟨hc.sh, hc.nd, hc.asc⟩
  refine ⟨by simp only [PyData.showable]; exact showableAll_of fun x hx => (e x hx).1, by simp only [PyData.hasDict]; exact noDictAll_of fun x hx => (e x hx).2.1, ?_, ?_⟩
  · simp only [PyData.shown, shownAll_map]
    exact asc_app (asc_app (asc_of _) (asc_join (asc_of _) fun t ht => by obtain ⟨x, hx, rfl⟩ := List.mem_map.mp ht; exact (e x hx).2.2)) (asc_of _)
  · simp only [PyData.shown, shownAll_map]
    have h1 := tupleText_le ([a, b, c].map PyData.shown)
    simp only [List.map_cons, List.map_nil, piled_cons, piled, List.sum_cons, List.sum_nil] at h1 ⊢
    have := ha.len
    have := hb.len
    have := hc.len
    omega
/-- no price above c -/
def Tr.le (c : Int) : Tr → Prop
  | .pr pp => ∀ x ∈ pp, x.2 ≤ c
  | .cr _ => True
  | .sp _ a b => a.le c ∧ b.le c
/-- small numbers in it -/
def Tr.small : Tr → Prop
  | .pr _ => True
  | .cr m => 0 ≤ m ∧ m ≤ 1000
  | .sp i a b => i ≤ 1000 ∧ a.small ∧ b.small
theorem Tr.tx {n : Int} : ∀ t : Tr, t.pap n → t.small → Tx (13000 * t.size) t.py
  | .pr pp, h, _ => by
    obtain ⟨h, _⟩ := h
    refine (tx_tuple (n := 6338) (m := 2) (fun x hx => ?_) (by simp)).mono (by simp only [Tr.size]; omega)
    simp only [List.mem_cons, List.not_mem_nil, or_false] at hx
    rcases hx with rfl | rfl
    · exact (tx_str (n := 6) (asc_of _) (by decide +kernel)).mono (by decide)
    · exact tx_paper h
  | .cr m, _, h => by
    refine (tx_tuple (n := 100) (m := 2) (fun x hx => ?_) (by simp)).mono (by simp only [Tr.size]; omega)
    simp only [List.mem_cons, List.not_mem_nil, or_false] at hx
    have := h.1
    have := h.2
    rcases hx with rfl | rfl
    · exact (tx_str (n := 5) (asc_of _) (by decide +kernel)).mono (by decide)
    · exact (tx_i (by omega) (by omega)).mono (by decide)
  | .sp i a b, h, hs => by
    have h1 := Tr.tx a h.1 hs.2.1
    have h2 := Tr.tx b h.2 hs.2.2
    have := hs.1
    exact (tx_tup3 ((tx_str (n := 5) (asc_of "split") (by decide +kernel))) (tx_i (i := (i : Int)) (by omega) (by omega)) (tx_list2 h1 h2)).mono (by simp only [Tr.size]; omega)
theorem Tr.toPx {G : Gp} : ∀ t : Tr, DL.toPx G t.d = some t.py
  | .pr pp => by
    have e : toPxs G (pp.map qD) = some (pp.map fun x => PyData.tuple [.int x.1, .int x.2]) := by
      induction pp with
      | nil => simp
      | cons x r ih => simp [qD, ih]
    simp [Tr.d, Tr.py, e]
  | .cr m => by simp [Tr.d, Tr.py]
  | .sp i a b => by simp [Tr.d, Tr.py, Tr.toPx a, Tr.toPx b]
theorem show_gen {d : D} {q : PyData} {n : Nat} (e : ∀ G, toPx G d = some q) (hb : boxX d = true) (t : Tx n q) (hd : q.depth ≤ 40) (hn : n ≤ 16000000) : ∃ z : Str, Asc z ∧ ∀ (G : Gp) (Q : DK), Q (.str z) G → cStrX [d] G Q := by
  refine ⟨q.shown, t.asc, fun G Q k => ?_⟩
  have go : boxX d = true ∧ (match toPx G d with
    | some p => p.showable = true ∧ p.depth ≤ 40 ∧ p.shown.length ≤ sizeLine ∧ Q (.str p.shown) G
    | none => False) := by
    rw [e]
    exact ⟨hb, t.sh, hd, Nat.le_trans t.len (Nat.le_trans hn line_ge), k⟩
  cases d with
  | lst ds => exact go
  | tup ds => exact go
  | dct ks ds => exact go
  | _ => first | exact go | cases hb
def TrOk (n : Int) (rs : List Stretch) (nb : Int) : Tr → List Nat → List Nat → Prop
  | .pr pp, _, _ => POk pp ∧ ∀ x ∈ pp, 0 ≤ x.1 ∧ x.1 < n
  | .cr m, ins, _ => (0 ≤ m ∧ m < n) ∧ nb < (loadOn n rs ins m : Int)
  | .sp i a b, ins, outs => i ∈ freeZ rs ins outs ∧ TrOk n rs nb a (ins ++ [i]) outs ∧ TrOk n rs nb b ins (outs ++ [i])
def cls (n : Int) (rs : List Stretch) (nb : Int) : Tr → List Nat → List Nat → List Int
  | .pr pp, ins, outs => [priceZ n rs nb pp ins outs]
  | .cr _, _, _ => []
  | .sp i a b, ins, outs => cls n rs nb a (ins ++ [i]) outs ++ cls n rs nb b ins (outs ++ [i])
theorem TrOk.pap {n : Int} {rs : List Stretch} {nb : Int} : ∀ {t : Tr} {ins outs : List Nat}, TrOk n rs nb t ins outs → t.pap n
  | .pr _, _, _, h => h
  | .cr _, _, _, _ => trivial
  | .sp _ _ _, _, _, h => ⟨TrOk.pap h.2.1, TrOk.pap h.2.2⟩
theorem TrOk.small {n : Int} {rs : List Stretch} {nb : Int} (hr : RgOk n rs) : ∀ {t : Tr} {ins outs : List Nat}, TrOk n rs nb t ins outs → t.small
  | .pr _, _, _, h => trivial
  | .cr m, _, _, h => by have := hr.n2; have := h.1; simp only [Tr.small]; omega
  | .sp i _ _, _, _, h => ⟨by have := (free_mem.mp h.1).1; have := hr.len; omega, TrOk.small hr h.2.1, TrOk.small hr h.2.2⟩
theorem wlk_ok {n : Int} {rs : List Stretch} {nb : Int} : ∀ {t : Tr} {ins outs : List Nat} {met : Nat}, TrOk n rs nb t ins outs → met + t.size ≤ 500 → wlk n rs nb t met ins outs = some (met + t.size, cls n rs nb t ins outs)
  | .pr pp, ins, outs, met, h, hm => by
    simp only [Tr.size] at hm
    unfold wlk
    rw [if_pos (by omega)]
    rfl
  | .cr m, ins, outs, met, h, hm => by
    simp only [Tr.size] at hm
    unfold wlk
    rw [if_pos ⟨by omega, h.1, h.2⟩]
    rfl
  | .sp i a b, ins, outs, met, h, hm => by
    simp only [Tr.size] at hm
    have h1 := wlk_ok (met := met + 1) h.2.1 (by omega)
    have h2 := wlk_ok (met := met + 1 + a.size) h.2.2 (by omega)
    unfold wlk
    rw [if_pos ⟨by omega, h.1⟩]
    simp only [h1, h2]
    rw [show met + 1 + a.size + b.size = met + (Tr.sp i a b).size by simp only [Tr.size]; omega]
    rfl
theorem Tr.size_le : ∀ t : Tr, t.size + 1 ≤ 2 ^ t.dep
  | .pr _ => by simp only [Tr.size, Tr.dep]; decide
  | .cr _ => by simp only [Tr.size, Tr.dep]; decide
  | .sp _ a b => by
    have h1 := Tr.size_le a
    have h2 := Tr.size_le b
    simp only [Tr.size, Tr.dep]
    have h3 : 2 ^ a.dep ≤ 2 ^ max a.dep b.dep := Nat.pow_le_pow_right (by decide) (Nat.le_max_left _ _)
    have h4 : 2 ^ b.dep ≤ 2 ^ max a.dep b.dep := Nat.pow_le_pow_right (by decide) (Nat.le_max_right _ _)
    rw [Nat.pow_succ]
    omega
def F__law_load_in : Sf := F_load_on
def F__law_ring_paper57 : Sf := fun ds G Q => ∃ a x y z n rs, ds = [.ref a, ringD n rs] ∧ G a = some (stO x y z) ∧ Ok3 x y z ∧ RgOk n rs ∧ ∀ pp x' y' z', Ok3 x' y' z' → POk pp → (∀ x ∈ pp, 0 ≤ x.1 ∧ x.1 < n) → (∀ x ∈ pp, x.2 ≤ 1000000000000) → Q (.lst (pp.map qD)) (gput G a (stO x' y' z'))
def F__law_tree : Nat → Sf
  | 0 => fun _ _ _ => False
  | k + 1 => fun ds G Q => ∃ a x y z n rs nb, ∃ (ins outs : List Nat) (deep : Nat), ds = [.ref a, ringD n rs, .int nb, .tup [.lst (nD ins), .lst (nD outs)], .int (deep : Int)] ∧ G a = some (stO x y z) ∧ Ok3 x y z ∧ RgOk n rs ∧ deep ≤ k ∧ (∀ i ∈ ins, i < rs.length) ∧ ins.length + deep ≤ 500 ∧ outs.length + deep ≤ 500 ∧
    ∀ t x' y' z', Ok3 x' y' z' → TrOk n rs nb t ins outs → t.dep ≤ deep + 1 → t.le 1000000000000 → Q t.d (gput G a (stO x' y' z'))
def r__law_load_in : ES :=
  (sSeq (sAsg (eVar 0) (.tp [3, 4]))
  (sRet (eCB cLen (eCons (eLc (iL (eVar 1)) (.nm 5) (eT (eOp oLt (eOp oMod (eOp oSub (eVar 2) (eOp oIx (eOp oIx (eVar 4) (eVar 5)) (eC (.int 1)))) (eVar 3)) (eOp oIx (eOp oIx (eVar 4) (eVar 5)) (eC (.int 2))))) (eVar 5) [5]) eNil))))
def r__law_ring_paper57_L1 : ES :=
  (sSeq (sAsg (eCall F__law_take (eCons (eVar 0) (eCons (eOp oIx (eVar 1) (eC (.int 0))) eNil))) (.nm 4))
  (sPutD (eOp oAdd (eC (.int 1)) (eCall F__law_take (eCons (eVar 0) (eCons (eOp oIx (eLst (eCons (eC (.int 3)) (eCons (eC (.int 10)) (eCons (eC (.int 60)) (eCons (eC (.int 1000000000000)) eNil))))) (eCall F__law_take (eCons (eVar 0) (eCons (eC (.int 4)) eNil)))) eNil)))) (eVar 2) (eVar 4)))
def r__law_ring_paper57 : ES :=
  (sSeq (sAsg eDnewO (.nm 2))
  (sSeq (sFor (iR1 (eCons (eCall F__law_take (eCons (eVar 0) (eCons (eC (.int 6)) eNil))) eNil)) (.nm 3) r__law_ring_paper57_L1)
  (sRet (eLc (iL (eCB cSortedDI (eCons (eVar 2) eNil))) (.nm 4) eYes (eTup (eCons (eVar 4) (eCons (eOp oDGet (eVar 2) (eVar 4)) eNil))) [4]))))
def r__law_tree (n : Nat) : ES :=
  (sSeq (sAsg (eVar 3) (.tp [5, 6]))
  (sSeq (sAsg (eLc (iR1 (eCons (eOp oIx (eVar 1) (eC (.int 0))) eNil)) (.nm 11) (eT (eOp oGt (eCall F__law_load_in (eCons (eVar 1) (eCons (eVar 5) (eCons (eVar 11) eNil)))) (eVar 2))) (eVar 11) [11]) (.nm 7))
  (sSeq (sIf (eAnd (eT (eOp oNe (eVar 7) (eLst eNil))) (eT (eOp oGt (eCall F__law_take (eCons (eVar 0) (eCons (eC (.int 3)) eNil))) (eC (.int 0))))) (sRet (eTup (eCons (eC (.str "crowd")) (eCons (eOp oIx (eVar 7) (eCall F__law_take (eCons (eVar 0) (eCons (eCB cLen (eCons (eVar 7) eNil)) eNil)))) eNil)))) sNext)
  (sSeq (sAsg (eLc (iR1 (eCons (eCB cLen (eCons (eOp oIx (eVar 1) (eC (.int 1))) eNil)) eNil)) (.nm 9) (eAnd (eT (eOp (oIn true) (eVar 9) (eVar 5))) (eT (eOp (oIn true) (eVar 9) (eVar 6)))) (eVar 9) [9]) (.nm 8))
  (sSeq (sIf (eOr (eT (eOp oEq (eVar 8) (eLst eNil))) (eOr (eT (eOp oEq (eVar 4) (eC (.int 0)))) (eT (eOp oEq (eCall F__law_take (eCons (eVar 0) (eCons (eC (.int 4)) eNil))) (eC (.int 0)))))) (sRet (eTup (eCons (eC (.str "prices")) (eCons (eCall F__law_ring_paper57 (eCons (eVar 0) (eCons (eVar 1) eNil))) eNil)))) sNext)
  (sSeq (sAsg (eOp oIx (eVar 8) (eCall F__law_take (eCons (eVar 0) (eCons (eCB cLen (eCons (eVar 8) eNil)) eNil)))) (.nm 9))
  (sSeq (sAsg (eCall (F__law_tree n) (eCons (eVar 0) (eCons (eVar 1) (eCons (eVar 2) (eCons (eTup (eCons (eOp oAdd (eVar 5) (eLst (eCons (eVar 9) eNil))) (eCons (eVar 6) eNil))) (eCons (eOp oSub (eVar 4) (eC (.int 1))) eNil)))))) (.nm 10))
  (sRet (eTup (eCons (eC (.str "split")) (eCons (eVar 9) (eCons (eLst (eCons (eVar 10) (eCons (eCall (F__law_tree n) (eCons (eVar 0) (eCons (eVar 1) (eCons (eVar 2) (eCons (eTup (eCons (eVar 5) (eCons (eOp oAdd (eVar 6) (eLst (eCons (eVar 9) eNil))) eNil))) (eCons (eOp oSub (eVar 4) (eC (.int 1))) eNil)))))) eNil))) eNil))))))))))))
theorem d__law_load_in (ds : List D) (G : Gp) (Q : DK) (h : F__law_load_in ds G Q) : r__law_load_in (fin G Q) (startD 6 ds) G := by
  obtain ⟨n, rs, l, m, rfl, hn, hl, k⟩ := h
  refine seq_gen fun W hW => ?_
  (try dsimp only [sAsg, sIf, sRet, sRetN, sDrop, sNext, asg, setAll, eT, eOp, eUn, eLst, eTup, eCons, eNil, eVar, eC, eCall, eCB, eNot, eAnd, eOr, eTru, eAndT, eOrT, eNotT, eIf, ePart, eNoPart, eYes, eChain, eChain3, oI, oI0, oLt, oLe, oGt, oGe, oNeg, oSub, oMod, oMul, oDivW, eXp, eXa, eConsX, eCallX, eCallN, eLstX, eCBX, sDropX, sRetX, sAsgX, sRaise, sRaiseF, List.set_cons_zero, List.set_cons_succ, List.getElem?_cons_zero, List.getElem?_cons_succ, truD_bl, startD, List.map_cons, List.map_nil, List.cons_append, List.nil_append, List.replicate, ringD, lkQ_tup]); (try simp only [if_true, Bool.false_eq_true, if_false, decide_true, decide_false, Bool.not_true, Bool.not_false, List.length_cons, List.length_nil, sizeLine_eq, Nat.reduceAdd, Nat.reduceLeDiff, true_and, and_true, pw6, pw10, pw11, pw12, pw13, pw30, pw40, pw60, startD, List.map_cons, List.map_nil, List.cons_append, List.nil_append, List.replicate, ringD, lkQ_tup]); (try dsimp only [sAsg, sIf, sRet, sRetN, sDrop, sNext, asg, setAll, eT, eOp, eUn, eLst, eTup, eCons, eNil, eVar, eC, eCall, eCB, eNot, eAnd, eOr, eTru, eAndT, eOrT, eNotT, eIf, ePart, eNoPart, eYes, eChain, eChain3, oI, oI0, oLt, oLe, oGt, oGe, oNeg, oSub, oMod, oMul, oDivW, eXp, eXa, eConsX, eCallX, eCallN, eLstX, eCBX, sDropX, sRetX, sAsgX, sRaise, sRaiseF, List.set_cons_zero, List.set_cons_succ, List.getElem?_cons_zero, List.getElem?_cons_succ, truD_bl, startD, List.map_cons, List.map_nil, List.cons_append, List.nil_append, List.replicate, ringD, lkQ_tup])
  refine hW _ _ ?_
  (try dsimp only [sAsg, sIf, sRet, sRetN, sDrop, sNext, asg, setAll, eT, eOp, eUn, eLst, eTup, eCons, eNil, eVar, eC, eCall, eCB, eNot, eAnd, eOr, eTru, eAndT, eOrT, eNotT, eIf, ePart, eNoPart, eYes, eChain, eChain3, oI, oI0, oLt, oLe, oGt, oGe, oNeg, oSub, oMod, oMul, oDivW, eXp, eXa, eConsX, eCallX, eCallN, eLstX, eCBX, sDropX, sRetX, sAsgX, sRaise, sRaiseF, List.set_cons_zero, List.set_cons_succ, List.getElem?_cons_zero, List.getElem?_cons_succ, truD_bl, eLc, iL, lkL_lst]); (try simp only [if_true, Bool.false_eq_true, if_false, decide_true, decide_false, Bool.not_true, Bool.not_false, List.length_cons, List.length_nil, sizeLine_eq, Nat.reduceAdd, Nat.reduceLeDiff, true_and, and_true, pw6, pw10, pw11, pw12, pw13, pw30, pw40, pw60, eLc, iL, lkL_lst]); (try dsimp only [sAsg, sIf, sRet, sRetN, sDrop, sNext, asg, setAll, eT, eOp, eUn, eLst, eTup, eCons, eNil, eVar, eC, eCall, eCB, eNot, eAnd, eOr, eTru, eAndT, eOrT, eNotT, eIf, ePart, eNoPart, eYes, eChain, eChain3, oI, oI0, oLt, oLe, oGt, oGe, oNeg, oSub, oMod, oMul, oDivW, eXp, eXa, eConsX, eCallX, eCallN, eLstX, eCBX, sDropX, sRetX, sAsgX, sRaise, sRaiseF, List.set_cons_zero, List.set_cons_succ, List.getElem?_cons_zero, List.getElem?_cons_succ, truD_bl, eLc, iL, lkL_lst])
  refine compW_map (g := fun i : Nat => D.int (i : Int)) (p := fun i => overR n (st rs i) m) (f := fun i : Nat => D.int (i : Int)) trivial l [] (fun i hi => ⟨_, rfl, fun R r => ?_, fun _ R r => ?_⟩) ?_
  · (try dsimp only [sAsg, sIf, sRet, sRetN, sDrop, sNext, asg, setAll, eT, eOp, eUn, eLst, eTup, eCons, eNil, eVar, eC, eCall, eCB, eNot, eAnd, eOr, eTru, eAndT, eOrT, eNotT, eIf, ePart, eNoPart, eYes, eChain, eChain3, oI, oI0, oLt, oLe, oGt, oGe, oNeg, oSub, oMod, oMul, oDivW, eXp, eXa, eConsX, eCallX, eCallN, eLstX, eCBX, sDropX, sRetX, sAsgX, sRaise, sRaiseF, List.set_cons_zero, List.set_cons_succ, List.getElem?_cons_zero, List.getElem?_cons_succ, truD_bl, wipeD, List.foldl_cons, List.foldl_nil]); (try simp only [if_true, Bool.false_eq_true, if_false, decide_true, decide_false, Bool.not_true, Bool.not_false, List.length_cons, List.length_nil, sizeLine_eq, Nat.reduceAdd, Nat.reduceLeDiff, true_and, and_true, pw6, pw10, pw11, pw12, pw13, pw30, pw40, pw60, wipeD, List.foldl_cons, List.foldl_nil]); (try dsimp only [sAsg, sIf, sRet, sRetN, sDrop, sNext, asg, setAll, eT, eOp, eUn, eLst, eTup, eCons, eNil, eVar, eC, eCall, eCB, eNot, eAnd, eOr, eTru, eAndT, eOrT, eNotT, eIf, ePart, eNoPart, eYes, eChain, eChain3, oI, oI0, oLt, oLe, oGt, oGe, oNeg, oSub, oMod, oMul, oDivW, eXp, eXa, eConsX, eCallX, eCallN, eLstX, eCBX, sDropX, sRetX, sAsgX, sRaise, sRaiseF, List.set_cons_zero, List.set_cons_succ, List.getElem?_cons_zero, List.getElem?_cons_succ, truD_bl, wipeD, List.foldl_cons, List.foldl_nil])
    refine ix_at (bk_at (hl i hi)) (ixt_0 (d := .int (st rs i).b) rfl ?_)
    (try dsimp only [sAsg, sIf, sRet, sRetN, sDrop, sNext, asg, setAll, eT, eOp, eUn, eLst, eTup, eCons, eNil, eVar, eC, eCall, eCB, eNot, eAnd, eOr, eTru, eAndT, eOrT, eNotT, eIf, ePart, eNoPart, eYes, eChain, eChain3, oI, oI0, oLt, oLe, oGt, oGe, oNeg, oSub, oMod, oMul, oDivW, eXp, eXa, eConsX, eCallX, eCallN, eLstX, eCBX, sDropX, sRetX, sAsgX, sRaise, sRaiseF, List.set_cons_zero, List.set_cons_succ, List.getElem?_cons_zero, List.getElem?_cons_succ, truD_bl]); (try simp only [if_true, Bool.false_eq_true, if_false, decide_true, decide_false, Bool.not_true, Bool.not_false, List.length_cons, List.length_nil, sizeLine_eq, Nat.reduceAdd, Nat.reduceLeDiff, true_and, and_true, pw6, pw10, pw11, pw12, pw13, pw30, pw40, pw60]); (try dsimp only [sAsg, sIf, sRet, sRetN, sDrop, sNext, asg, setAll, eT, eOp, eUn, eLst, eTup, eCons, eNil, eVar, eC, eCall, eCB, eNot, eAnd, eOr, eTru, eAndT, eOrT, eNotT, eIf, ePart, eNoPart, eYes, eChain, eChain3, oI, oI0, oLt, oLe, oGt, oGe, oNeg, oSub, oMod, oMul, oDivW, eXp, eXa, eConsX, eCallX, eCallN, eLstX, eCBX, sDropX, sRetX, sAsgX, sRaise, sRaiseF, List.set_cons_zero, List.set_cons_succ, List.getElem?_cons_zero, List.getElem?_cons_succ, truD_bl])
    refine ⟨hn, ?_⟩
    refine ix_at (bk_at (hl i hi)) (ixt_0 (d := .int (st rs i).e) rfl ?_)
    exact r
  · (try dsimp only [sAsg, sIf, sRet, sRetN, sDrop, sNext, asg, setAll, eT, eOp, eUn, eLst, eTup, eCons, eNil, eVar, eC, eCall, eCB, eNot, eAnd, eOr, eTru, eAndT, eOrT, eNotT, eIf, ePart, eNoPart, eYes, eChain, eChain3, oI, oI0, oLt, oLe, oGt, oGe, oNeg, oSub, oMod, oMul, oDivW, eXp, eXa, eConsX, eCallX, eCallN, eLstX, eCBX, sDropX, sRetX, sAsgX, sRaise, sRaiseF, List.set_cons_zero, List.set_cons_succ, List.getElem?_cons_zero, List.getElem?_cons_succ, truD_bl]); (try simp only [if_true, Bool.false_eq_true, if_false, decide_true, decide_false, Bool.not_true, Bool.not_false, List.length_cons, List.length_nil, sizeLine_eq, Nat.reduceAdd, Nat.reduceLeDiff, true_and, and_true, pw6, pw10, pw11, pw12, pw13, pw30, pw40, pw60]); (try dsimp only [sAsg, sIf, sRet, sRetN, sDrop, sNext, asg, setAll, eT, eOp, eUn, eLst, eTup, eCons, eNil, eVar, eC, eCall, eCB, eNot, eAnd, eOr, eTru, eAndT, eOrT, eNotT, eIf, ePart, eNoPart, eYes, eChain, eChain3, oI, oI0, oLt, oLe, oGt, oGe, oNeg, oSub, oMod, oMul, oDivW, eXp, eXa, eConsX, eCallX, eCallN, eLstX, eCBX, sDropX, sRetX, sAsgX, sRaise, sRaiseF, List.set_cons_zero, List.set_cons_succ, List.getElem?_cons_zero, List.getElem?_cons_succ, truD_bl])
    exact r
  rw [List.nil_append]
  refine len_lst (fin_id ?_)
  rw [List.length_map]
  exact k
theorem paper_rise {kv : List (Int × Int)} {ms : List Int} (nd : (kv.map (·.1)).Nodup) (pm : ms.Perm (kv.map (·.1))) (up : ms.Pairwise (· ≤ ·)) : (paperD kv ms).Pairwise fun x y => x.1 < y.1 := by
  unfold paperD
  refine List.pairwise_map.mpr ?_
  have nd2 : ms.Nodup := pm.nodup_iff.mpr nd
  exact (up.and nd2).imp fun h => by have := h.1; have := h.2; show _ < _; omega
theorem d__law_ring_paper57 (ds : List D) (G : Gp) (Q : DK) (h : F__law_ring_paper57 ds G Q) : r__law_ring_paper57 (fin G Q) (startD 5 ds) G := by
  obtain ⟨a, x, y, z, n, rs, rfl, hG, ok, hr, k⟩ := h
  have n1 := hr.n1
  have n2 := hr.n2
  refine seq_gen fun W hW => ?_
  simp [startD]
  intro q hq
  have hqa : q ≠ a := fun e => by subst e; rw [hG] at hq; cases hq
  refine hW _ _ (seq_gen fun W3 hW3 => ?_)
  simp
  refine take_ok (by rw [gput_ne hqa.symm]; exact hG) ok (wd_of (by decide) (by decide)) fun c x y z ok c0 c1 => ?_
  have ek : gput (gput G q (.dct [] [])) a (stO x y z) = gput (gput G a (stO x y z)) q (.dct (kK []) (kW [])) := gput_comm hqa
  rw [ek]
  refine ⟨by omega, by omega, ?_⟩
  refine forW_rng (n := c.toNat) (fun j s G' => ∃ (kv : List (Int × Int)) (x y z : Int) (o3 o4 : Option D), s = [some (.ref a), some (ringD n rs), some (.ref q), o3, o4] ∧ G' = gput (gput G a (stO x y z)) q (.dct (kK kv) (kW kv)) ∧ Ok3 x y z ∧ KvR n kv ∧ kv.length ≤ j ∧ ∀ x ∈ kv, x.2 ≤ 1000000000000) ?_ ?_ ⟨[], x, y, z, _, _, rfl, rfl, ok, ⟨by simp, by simp, by simp, by simp, by simp⟩, by simp, by simp⟩
  · rintro j s G' W hj ⟨kv, x, y, z, o3, o4, rfl, rfl, ok, hkv, hlen, hle⟩ hW
    refine seq_gen fun W2 hW2 => ?_
    simp
    refine take_ok (by rw [gput_ne hqa.symm, gput_same]) ok (wd_of (by omega) (by omega)) fun m x y z ok m0 m1 => ?_
    simp [gput_swap hqa]
    refine hW2 _ _ ?_
    simp
    refine take_ok (by rw [gput_ne hqa.symm, gput_same]) ok (wd_of (by decide) (by decide)) fun c x y z ok c0 c1 => ?_
    obtain ⟨v, hv, v1, v2⟩ : ∃ v : Int, atI [D.int 3, D.int 10, D.int 60, D.int 1000000000000] c = some (.int v) ∧ 1 ≤ v ∧ v ≤ 1000000000000 := by
      obtain ⟨d, e, m⟩ := at_mem (ds := [D.int 3, D.int 10, D.int 60, D.int 1000000000000]) c0 (by simpa using c1)
      simp only [List.mem_cons, List.not_mem_nil, or_false] at m
      rcases m with rfl | rfl | rfl | rfl <;> exact ⟨_, e, by omega, by omega⟩
    simp [hv, gput_swap hqa]
    refine take_ok (by rw [gput_ne hqa.symm, gput_same]) ok (wd_of (by omega) (by omega)) fun p x y z ok p0 p1 => ?_
    simp [gput_swap hqa, gput_same, keyD]
    rw [putKs_kK _ _ (1 + p), putVs_kW, gput_gput]
    have := putI_len (kv := kv) (k := m) (v := 1 + p)
    exact ⟨by simp [kK]; omega, hW _ _ ⟨putI kv m (1 + p), _, _, _, _, _, rfl, rfl, ok, kvr_put hkv m0 m1 (by omega) (by omega), by omega, fun x hx => by
      rcases putI_mem hx with q | rfl
      · exact hle x q
      · show 1 + p ≤ _; omega⟩⟩
  · rintro s G' ⟨kv, x, y, z, o3, o4, rfl, rfl, ok, hkv, hlen, hle⟩
    refine hW3 _ _ ?_
    simp [gput_same, intKs_kK]
    refine ⟨by omega, fun ms pm up => ?_⟩
    refine paper_compG gput_same (by simp) (by decide) rfl pm ?_
    have pk := paper_perm hkv.nd pm
    have m : ∀ x ∈ paperD kv ms, x ∈ kv := fun x hx => pk.mem_iff.mp hx
    refine fin_st1 hG hq rfl (by simp only [plainD]; exact plainDs_map (fun _ => rfl) _) (k _ x y z ok ⟨by have := pk.length_eq; omega, paper_rise hkv.nd pm up, fun x hx => by have := hkv.lo x (m x hx); omega, fun x hx => by have := hkv.hi x (m x hx); omega, fun x hx => hkv.p1 x (m x hx), fun x hx => hkv.p2 x (m x hx)⟩ (fun x hx => ⟨hkv.lo x (m x hx), hkv.hi x (m x hx)⟩) fun x hx => hle x (m x hx))
theorem ne_nilI {l : List Nat} {G : Gp} {Q : DK} (q : Q (.bl (!decide (l = []))) G) : oNe (.lst (nD l)) (.lst []) G Q := ne_lists (b := []) q
theorem eq_nat_nilZ {l : List Nat} {G : Gp} {Q : DK} (q : Q (.bl (decide (l = []))) G) : oEq (.lst (nD l)) (.lst []) G Q := eq_lists (b := []) q
theorem atI_n {l : List Nat} {i : Int} (h0 : 0 ≤ i) (h1 : i < l.length) : ∃ j ∈ l, atI (nD l) i = some (.int (j : Int)) := by
  obtain ⟨k, rfl⟩ : ∃ k : Nat, i = (k : Int) := ⟨i.toNat, by omega⟩
  have hk : k < l.length := by omega
  refine ⟨l[k], List.getElem_mem hk, atI_nat ?_⟩
  unfold nD
  rw [List.getElem?_map, List.getElem?_eq_getElem hk]
  rfl
theorem d__law_tree (k : Nat) (ds : List D) (G : Gp) (Q : DK) (h : F__law_tree (k + 1) ds G Q) : r__law_tree k (fin G Q) (startD 12 ds) G := by
  obtain ⟨a, x, y, z, n, rs, nb, ins, outs, deep, rfl, hG, ok, hr, dk, hi, z1, z2, kq⟩ := h
  have n1 := hr.n1
  have n2 := hr.n2
  have rl := hr.len
  refine seq_gen fun W hW => ?_
  (try dsimp only [sAsg, sIf, sRet, sRetN, sDrop, sNext, asg, setAll, eT, eOp, eUn, eLst, eTup, eCons, eNil, eVar, eC, eCall, eCB, eNot, eAnd, eOr, eTru, eAndT, eOrT, eNotT, eIf, ePart, eNoPart, eYes, eChain, eChain3, oI, oI0, oLt, oLe, oGt, oGe, oNeg, oSub, oMod, oMul, oDivW, eXp, eXa, eConsX, eCallX, eCallN, eLstX, eCBX, sDropX, sRetX, sAsgX, sRaise, sRaiseF, List.set_cons_zero, List.set_cons_succ, List.getElem?_cons_zero, List.getElem?_cons_succ, truD_bl, startD, List.map_cons, List.map_nil, List.cons_append, List.nil_append, List.replicate, lkQ_tup]); (try simp only [if_true, Bool.false_eq_true, if_false, decide_true, decide_false, Bool.not_true, Bool.not_false, List.length_cons, List.length_nil, sizeLine_eq, Nat.reduceAdd, Nat.reduceLeDiff, true_and, and_true, pw6, pw10, pw11, pw12, pw13, pw30, pw40, pw60, startD, List.map_cons, List.map_nil, List.cons_append, List.nil_append, List.replicate, lkQ_tup]); (try dsimp only [sAsg, sIf, sRet, sRetN, sDrop, sNext, asg, setAll, eT, eOp, eUn, eLst, eTup, eCons, eNil, eVar, eC, eCall, eCB, eNot, eAnd, eOr, eTru, eAndT, eOrT, eNotT, eIf, ePart, eNoPart, eYes, eChain, eChain3, oI, oI0, oLt, oLe, oGt, oGe, oNeg, oSub, oMod, oMul, oDivW, eXp, eXa, eConsX, eCallX, eCallN, eLstX, eCBX, sDropX, sRetX, sAsgX, sRaise, sRaiseF, List.set_cons_zero, List.set_cons_succ, List.getElem?_cons_zero, List.getElem?_cons_succ, truD_bl, startD, List.map_cons, List.map_nil, List.cons_append, List.nil_append, List.replicate, lkQ_tup])
  refine hW _ _ ?_
  refine seq_gen fun W2 hW2 => ?_
  (try dsimp only [sAsg, sIf, sRet, sRetN, sDrop, sNext, asg, setAll, eT, eOp, eUn, eLst, eTup, eCons, eNil, eVar, eC, eCall, eCB, eNot, eAnd, eOr, eTru, eAndT, eOrT, eNotT, eIf, ePart, eNoPart, eYes, eChain, eChain3, oI, oI0, oLt, oLe, oGt, oGe, oNeg, oSub, oMod, oMul, oDivW, eXp, eXa, eConsX, eCallX, eCallN, eLstX, eCBX, sDropX, sRetX, sAsgX, sRaise, sRaiseF, List.set_cons_zero, List.set_cons_succ, List.getElem?_cons_zero, List.getElem?_cons_succ, truD_bl, eLc, iR1]); (try simp only [if_true, Bool.false_eq_true, if_false, decide_true, decide_false, Bool.not_true, Bool.not_false, List.length_cons, List.length_nil, sizeLine_eq, Nat.reduceAdd, Nat.reduceLeDiff, true_and, and_true, pw6, pw10, pw11, pw12, pw13, pw30, pw40, pw60, eLc, iR1]); (try dsimp only [sAsg, sIf, sRet, sRetN, sDrop, sNext, asg, setAll, eT, eOp, eUn, eLst, eTup, eCons, eNil, eVar, eC, eCall, eCB, eNot, eAnd, eOr, eTru, eAndT, eOrT, eNotT, eIf, ePart, eNoPart, eYes, eChain, eChain3, oI, oI0, oLt, oLe, oGt, oGe, oNeg, oSub, oMod, oMul, oDivW, eXp, eXa, eConsX, eCallX, eCallN, eLstX, eCBX, sDropX, sRetX, sAsgX, sRaise, sRaiseF, List.set_cons_zero, List.set_cons_succ, List.getElem?_cons_zero, List.getElem?_cons_succ, truD_bl, eLc, iR1])
  refine ixg_0 ?_
  (try dsimp only [sAsg, sIf, sRet, sRetN, sDrop, sNext, asg, setAll, eT, eOp, eUn, eLst, eTup, eCons, eNil, eVar, eC, eCall, eCB, eNot, eAnd, eOr, eTru, eAndT, eOrT, eNotT, eIf, ePart, eNoPart, eYes, eChain, eChain3, oI, oI0, oLt, oLe, oGt, oGe, oNeg, oSub, oMod, oMul, oDivW, eXp, eXa, eConsX, eCallX, eCallN, eLstX, eCBX, sDropX, sRetX, sAsgX, sRaise, sRaiseF, List.set_cons_zero, List.set_cons_succ, List.getElem?_cons_zero, List.getElem?_cons_succ, truD_bl]); (try simp only [if_true, Bool.false_eq_true, if_false, decide_true, decide_false, Bool.not_true, Bool.not_false, List.length_cons, List.length_nil, sizeLine_eq, Nat.reduceAdd, Nat.reduceLeDiff, true_and, and_true, pw6, pw10, pw11, pw12, pw13, pw30, pw40, pw60]); (try dsimp only [sAsg, sIf, sRet, sRetN, sDrop, sNext, asg, setAll, eT, eOp, eUn, eLst, eTup, eCons, eNil, eVar, eC, eCall, eCB, eNot, eAnd, eOr, eTru, eAndT, eOrT, eNotT, eIf, ePart, eNoPart, eYes, eChain, eChain3, oI, oI0, oLt, oLe, oGt, oGe, oNeg, oSub, oMod, oMul, oDivW, eXp, eXa, eConsX, eCallX, eCallN, eLstX, eCBX, sDropX, sRetX, sAsgX, sRaise, sRaiseF, List.set_cons_zero, List.set_cons_succ, List.getElem?_cons_zero, List.getElem?_cons_succ, truD_bl])
  refine ⟨by omega, by omega, ?_⟩
  rw [rng_nat0]
  refine compW_map (p := fun m : Nat => decide ((loadOn n rs ins (m : Int) : Int) > nb)) (f := fun m : Nat => D.int (m : Int)) trivial (List.range n.toNat) [] (fun m hm => ⟨_, rfl, fun R r => ?_, fun _ R r => ?_⟩) ?_
  · (try dsimp only [sAsg, sIf, sRet, sRetN, sDrop, sNext, asg, setAll, eT, eOp, eUn, eLst, eTup, eCons, eNil, eVar, eC, eCall, eCB, eNot, eAnd, eOr, eTru, eAndT, eOrT, eNotT, eIf, ePart, eNoPart, eYes, eChain, eChain3, oI, oI0, oLt, oLe, oGt, oGe, oNeg, oSub, oMod, oMul, oDivW, eXp, eXa, eConsX, eCallX, eCallN, eLstX, eCBX, sDropX, sRetX, sAsgX, sRaise, sRaiseF, List.set_cons_zero, List.set_cons_succ, List.getElem?_cons_zero, List.getElem?_cons_succ, truD_bl, wipeD, List.foldl_cons, List.foldl_nil]); (try simp only [if_true, Bool.false_eq_true, if_false, decide_true, decide_false, Bool.not_true, Bool.not_false, List.length_cons, List.length_nil, sizeLine_eq, Nat.reduceAdd, Nat.reduceLeDiff, true_and, and_true, pw6, pw10, pw11, pw12, pw13, pw30, pw40, pw60, wipeD, List.foldl_cons, List.foldl_nil]); (try dsimp only [sAsg, sIf, sRet, sRetN, sDrop, sNext, asg, setAll, eT, eOp, eUn, eLst, eTup, eCons, eNil, eVar, eC, eCall, eCB, eNot, eAnd, eOr, eTru, eAndT, eOrT, eNotT, eIf, ePart, eNoPart, eYes, eChain, eChain3, oI, oI0, oLt, oLe, oGt, oGe, oNeg, oSub, oMod, oMul, oDivW, eXp, eXa, eConsX, eCallX, eCallN, eLstX, eCBX, sDropX, sRetX, sAsgX, sRaise, sRaiseF, List.set_cons_zero, List.set_cons_succ, List.getElem?_cons_zero, List.getElem?_cons_succ, truD_bl, wipeD, List.foldl_cons, List.foldl_nil])
    refine load_on_ok (by omega) hi ?_
    (try dsimp only [sAsg, sIf, sRet, sRetN, sDrop, sNext, asg, setAll, eT, eOp, eUn, eLst, eTup, eCons, eNil, eVar, eC, eCall, eCB, eNot, eAnd, eOr, eTru, eAndT, eOrT, eNotT, eIf, ePart, eNoPart, eYes, eChain, eChain3, oI, oI0, oLt, oLe, oGt, oGe, oNeg, oSub, oMod, oMul, oDivW, eXp, eXa, eConsX, eCallX, eCallN, eLstX, eCBX, sDropX, sRetX, sAsgX, sRaise, sRaiseF, List.set_cons_zero, List.set_cons_succ, List.getElem?_cons_zero, List.getElem?_cons_succ, truD_bl]); (try simp only [if_true, Bool.false_eq_true, if_false, decide_true, decide_false, Bool.not_true, Bool.not_false, List.length_cons, List.length_nil, sizeLine_eq, Nat.reduceAdd, Nat.reduceLeDiff, true_and, and_true, pw6, pw10, pw11, pw12, pw13, pw30, pw40, pw60]); (try dsimp only [sAsg, sIf, sRet, sRetN, sDrop, sNext, asg, setAll, eT, eOp, eUn, eLst, eTup, eCons, eNil, eVar, eC, eCall, eCB, eNot, eAnd, eOr, eTru, eAndT, eOrT, eNotT, eIf, ePart, eNoPart, eYes, eChain, eChain3, oI, oI0, oLt, oLe, oGt, oGe, oNeg, oSub, oMod, oMul, oDivW, eXp, eXa, eConsX, eCallX, eCallN, eLstX, eCBX, sDropX, sRetX, sAsgX, sRaise, sRaiseF, List.set_cons_zero, List.set_cons_succ, List.getElem?_cons_zero, List.getElem?_cons_succ, truD_bl])
    exact r
  · (try dsimp only [sAsg, sIf, sRet, sRetN, sDrop, sNext, asg, setAll, eT, eOp, eUn, eLst, eTup, eCons, eNil, eVar, eC, eCall, eCB, eNot, eAnd, eOr, eTru, eAndT, eOrT, eNotT, eIf, ePart, eNoPart, eYes, eChain, eChain3, oI, oI0, oLt, oLe, oGt, oGe, oNeg, oSub, oMod, oMul, oDivW, eXp, eXa, eConsX, eCallX, eCallN, eLstX, eCBX, sDropX, sRetX, sAsgX, sRaise, sRaiseF, List.set_cons_zero, List.set_cons_succ, List.getElem?_cons_zero, List.getElem?_cons_succ, truD_bl]); (try simp only [if_true, Bool.false_eq_true, if_false, decide_true, decide_false, Bool.not_true, Bool.not_false, List.length_cons, List.length_nil, sizeLine_eq, Nat.reduceAdd, Nat.reduceLeDiff, true_and, and_true, pw6, pw10, pw11, pw12, pw13, pw30, pw40, pw60]); (try dsimp only [sAsg, sIf, sRet, sRetN, sDrop, sNext, asg, setAll, eT, eOp, eUn, eLst, eTup, eCons, eNil, eVar, eC, eCall, eCB, eNot, eAnd, eOr, eTru, eAndT, eOrT, eNotT, eIf, ePart, eNoPart, eYes, eChain, eChain3, oI, oI0, oLt, oLe, oGt, oGe, oNeg, oSub, oMod, oMul, oDivW, eXp, eXa, eConsX, eCallX, eCallN, eLstX, eCBX, sDropX, sRetX, sAsgX, sRaise, sRaiseF, List.set_cons_zero, List.set_cons_succ, List.getElem?_cons_zero, List.getElem?_cons_succ, truD_bl])
    exact r
  rw [List.nil_append]
  have eCr : ((List.range n.toNat).filter fun m : Nat => decide ((loadOn n rs ins (m : Int) : Int) > nb)).map (fun m : Nat => D.int (m : Int)) = nD ((List.range n.toNat).filter fun m : Nat => decide ((loadOn n rs ins (m : Int) : Int) > nb)) := rfl
  rw [eCr]
  generalize hcr : (List.range n.toNat).filter (fun m : Nat => decide ((loadOn n rs ins (m : Int) : Int) > nb)) = cr
  have hcr2 : ∀ m ∈ cr, ((0 : Int) ≤ (m : Int) ∧ (m : Int) < n) ∧ nb < (loadOn n rs ins (m : Int) : Int) := fun m hm => by
    rw [← hcr] at hm
    simp at hm
    omega
  have hcl : cr.length ≤ 40 := by
    rw [← hcr]
    exact Nat.le_trans (List.length_filter_le _ _) (by simp; omega)
  refine hW2 _ _ ?_
  refine seq_gen fun W3 hW3 => ?_
  -- behind the crowds
  have go : ∀ x y z, Ok3 x y z → W3 [some (.ref a), some (ringD n rs), some (.int nb), some (.tup [.lst (nD ins), .lst (nD outs)]), some (.int (deep : Int)), some (.lst (nD ins)), some (.lst (nD outs)), some (.lst (nD cr)), none, none, none, none] (gput G a (stO x y z)) := by
    intro x y z ok
    refine hW3 _ _ ?_
    refine seq_gen fun W4 hW4 => ?_
    (try dsimp only [sAsg, sIf, sRet, sRetN, sDrop, sNext, asg, setAll, eT, eOp, eUn, eLst, eTup, eCons, eNil, eVar, eC, eCall, eCB, eNot, eAnd, eOr, eTru, eAndT, eOrT, eNotT, eIf, ePart, eNoPart, eYes, eChain, eChain3, oI, oI0, oLt, oLe, oGt, oGe, oNeg, oSub, oMod, oMul, oDivW, eXp, eXa, eConsX, eCallX, eCallN, eLstX, eCBX, sDropX, sRetX, sAsgX, sRaise, sRaiseF, List.set_cons_zero, List.set_cons_succ, List.getElem?_cons_zero, List.getElem?_cons_succ, truD_bl, eLc, iR1]); (try simp only [if_true, Bool.false_eq_true, if_false, decide_true, decide_false, Bool.not_true, Bool.not_false, List.length_cons, List.length_nil, sizeLine_eq, Nat.reduceAdd, Nat.reduceLeDiff, true_and, and_true, pw6, pw10, pw11, pw12, pw13, pw30, pw40, pw60, eLc, iR1]); (try dsimp only [sAsg, sIf, sRet, sRetN, sDrop, sNext, asg, setAll, eT, eOp, eUn, eLst, eTup, eCons, eNil, eVar, eC, eCall, eCB, eNot, eAnd, eOr, eTru, eAndT, eOrT, eNotT, eIf, ePart, eNoPart, eYes, eChain, eChain3, oI, oI0, oLt, oLe, oGt, oGe, oNeg, oSub, oMod, oMul, oDivW, eXp, eXa, eConsX, eCallX, eCallN, eLstX, eCBX, sDropX, sRetX, sAsgX, sRaise, sRaiseF, List.set_cons_zero, List.set_cons_succ, List.getElem?_cons_zero, List.getElem?_cons_succ, truD_bl, eLc, iR1])
    refine ixg_1 ?_
    (try dsimp only [sAsg, sIf, sRet, sRetN, sDrop, sNext, asg, setAll, eT, eOp, eUn, eLst, eTup, eCons, eNil, eVar, eC, eCall, eCB, eNot, eAnd, eOr, eTru, eAndT, eOrT, eNotT, eIf, ePart, eNoPart, eYes, eChain, eChain3, oI, oI0, oLt, oLe, oGt, oGe, oNeg, oSub, oMod, oMul, oDivW, eXp, eXa, eConsX, eCallX, eCallN, eLstX, eCBX, sDropX, sRetX, sAsgX, sRaise, sRaiseF, List.set_cons_zero, List.set_cons_succ, List.getElem?_cons_zero, List.getElem?_cons_succ, truD_bl]); (try simp only [if_true, Bool.false_eq_true, if_false, decide_true, decide_false, Bool.not_true, Bool.not_false, List.length_cons, List.length_nil, sizeLine_eq, Nat.reduceAdd, Nat.reduceLeDiff, true_and, and_true, pw6, pw10, pw11, pw12, pw13, pw30, pw40, pw60]); (try dsimp only [sAsg, sIf, sRet, sRetN, sDrop, sNext, asg, setAll, eT, eOp, eUn, eLst, eTup, eCons, eNil, eVar, eC, eCall, eCB, eNot, eAnd, eOr, eTru, eAndT, eOrT, eNotT, eIf, ePart, eNoPart, eYes, eChain, eChain3, oI, oI0, oLt, oLe, oGt, oGe, oNeg, oSub, oMod, oMul, oDivW, eXp, eXa, eConsX, eCallX, eCallN, eLstX, eCBX, sDropX, sRetX, sAsgX, sRaise, sRaiseF, List.set_cons_zero, List.set_cons_succ, List.getElem?_cons_zero, List.getElem?_cons_succ, truD_bl])
    refine len_lst ?_
    rw [List.length_map]
    (try dsimp only [sAsg, sIf, sRet, sRetN, sDrop, sNext, asg, setAll, eT, eOp, eUn, eLst, eTup, eCons, eNil, eVar, eC, eCall, eCB, eNot, eAnd, eOr, eTru, eAndT, eOrT, eNotT, eIf, ePart, eNoPart, eYes, eChain, eChain3, oI, oI0, oLt, oLe, oGt, oGe, oNeg, oSub, oMod, oMul, oDivW, eXp, eXa, eConsX, eCallX, eCallN, eLstX, eCBX, sDropX, sRetX, sAsgX, sRaise, sRaiseF, List.set_cons_zero, List.set_cons_succ, List.getElem?_cons_zero, List.getElem?_cons_succ, truD_bl]); (try simp only [if_true, Bool.false_eq_true, if_false, decide_true, decide_false, Bool.not_true, Bool.not_false, List.length_cons, List.length_nil, sizeLine_eq, Nat.reduceAdd, Nat.reduceLeDiff, true_and, and_true, pw6, pw10, pw11, pw12, pw13, pw30, pw40, pw60]); (try dsimp only [sAsg, sIf, sRet, sRetN, sDrop, sNext, asg, setAll, eT, eOp, eUn, eLst, eTup, eCons, eNil, eVar, eC, eCall, eCB, eNot, eAnd, eOr, eTru, eAndT, eOrT, eNotT, eIf, ePart, eNoPart, eYes, eChain, eChain3, oI, oI0, oLt, oLe, oGt, oGe, oNeg, oSub, oMod, oMul, oDivW, eXp, eXa, eConsX, eCallX, eCallN, eLstX, eCBX, sDropX, sRetX, sAsgX, sRaise, sRaiseF, List.set_cons_zero, List.set_cons_succ, List.getElem?_cons_zero, List.getElem?_cons_succ, truD_bl])
    refine ⟨by omega, by omega, ?_⟩
    rw [Int.toNat_natCast, rng_nat0]
    refine compW_free (by simp [wipeD]) (by decide) (by decide) rfl rfl ?_
    have hf : ∀ i ∈ freeZ rs ins outs, i ∈ freeZ rs ins outs := fun _ h => h
    have hfl : (freeZ rs ins outs).length ≤ 24 := Nat.le_trans (List.length_filter_le _ _) (by simp; omega)
    refine hW4 _ _ ?_
    generalize hF : freeZ rs ins outs = fr at hfl
    refine seq_gen fun W5 hW5 => ?_
    have paper : ∀ {x y z}, Ok3 x y z → F__law_ring_paper57 [.ref a, ringD n rs] (gput G a (stO x y z)) fun v G1 => (fin G Q).rt (.tup [.str "prices", v]) G1 := by
      intro x y z ok
      refine ⟨a, x, y, z, n, rs, rfl, gput_same, ok, hr, fun pp x y z ok pk pb pl => ?_⟩
      rw [gput_gput]
      exact fin_id (kq (.pr pp) x y z ok ⟨pk, pb⟩ (by simp only [Tr.dep]; omega) pl)
    have split5 : ∀ x y z, Ok3 x y z → fr ≠ [] → deep ≠ 0 → W5 [some (.ref a), some (ringD n rs), some (.int nb), some (.tup [.lst (nD ins), .lst (nD outs)]), some (.int (deep : Int)), some (.lst (nD ins)), some (.lst (nD outs)), some (.lst (nD cr)), some (.lst (nD fr)), none, none, none] (gput G a (stO x y z)) := by
      intro x y z ok nf nd
      refine hW5 _ _ ?_
      obtain ⟨deep', rfl⟩ : ∃ d, deep = d + 1 := ⟨deep - 1, by omega⟩
      obtain ⟨k', rfl⟩ : ∃ k', k = k' + 1 := ⟨k - 1, by omega⟩
      have hfp := List.length_pos_iff.mpr nf
      refine seq_gen fun W6 hW6 => ?_
      (try dsimp only [sAsg, sIf, sRet, sRetN, sDrop, sNext, asg, setAll, eT, eOp, eUn, eLst, eTup, eCons, eNil, eVar, eC, eCall, eCB, eNot, eAnd, eOr, eTru, eAndT, eOrT, eNotT, eIf, ePart, eNoPart, eYes, eChain, eChain3, oI, oI0, oLt, oLe, oGt, oGe, oNeg, oSub, oMod, oMul, oDivW, eXp, eXa, eConsX, eCallX, eCallN, eLstX, eCBX, sDropX, sRetX, sAsgX, sRaise, sRaiseF, List.set_cons_zero, List.set_cons_succ, List.getElem?_cons_zero, List.getElem?_cons_succ, truD_bl]); (try simp only [if_true, Bool.false_eq_true, if_false, decide_true, decide_false, Bool.not_true, Bool.not_false, List.length_cons, List.length_nil, sizeLine_eq, Nat.reduceAdd, Nat.reduceLeDiff, true_and, and_true, pw6, pw10, pw11, pw12, pw13, pw30, pw40, pw60]); (try dsimp only [sAsg, sIf, sRet, sRetN, sDrop, sNext, asg, setAll, eT, eOp, eUn, eLst, eTup, eCons, eNil, eVar, eC, eCall, eCB, eNot, eAnd, eOr, eTru, eAndT, eOrT, eNotT, eIf, ePart, eNoPart, eYes, eChain, eChain3, oI, oI0, oLt, oLe, oGt, oGe, oNeg, oSub, oMod, oMul, oDivW, eXp, eXa, eConsX, eCallX, eCallN, eLstX, eCBX, sDropX, sRetX, sAsgX, sRaise, sRaiseF, List.set_cons_zero, List.set_cons_succ, List.getElem?_cons_zero, List.getElem?_cons_succ, truD_bl])
      refine len_lst ?_
      rw [show (nD fr).length = fr.length by simp [nD]]
      refine take_ok gput_same ok (wd_of (by omega) (by omega)) fun j x y z ok j0 j1 => ?_
      rw [gput_gput]
      obtain ⟨i, hif, ei⟩ := atI_n (l := fr) j0 j1
      have hi2 : i ∈ freeZ rs ins outs := by rw [hF]; exact hif
      have hil := (free_mem.mp hi2).1
      refine ix_at ei (hW6 _ _ ?_)
      refine seq_gen fun W7 hW7 => ?_
      (try dsimp only [sAsg, sIf, sRet, sRetN, sDrop, sNext, asg, setAll, eT, eOp, eUn, eLst, eTup, eCons, eNil, eVar, eC, eCall, eCB, eNot, eAnd, eOr, eTru, eAndT, eOrT, eNotT, eIf, ePart, eNoPart, eYes, eChain, eChain3, oI, oI0, oLt, oLe, oGt, oGe, oNeg, oSub, oMod, oMul, oDivW, eXp, eXa, eConsX, eCallX, eCallN, eLstX, eCBX, sDropX, sRetX, sAsgX, sRaise, sRaiseF, List.set_cons_zero, List.set_cons_succ, List.getElem?_cons_zero, List.getElem?_cons_succ, truD_bl]); (try simp only [if_true, Bool.false_eq_true, if_false, decide_true, decide_false, Bool.not_true, Bool.not_false, List.length_cons, List.length_nil, sizeLine_eq, Nat.reduceAdd, Nat.reduceLeDiff, true_and, and_true, pw6, pw10, pw11, pw12, pw13, pw30, pw40, pw60]); (try dsimp only [sAsg, sIf, sRet, sRetN, sDrop, sNext, asg, setAll, eT, eOp, eUn, eLst, eTup, eCons, eNil, eVar, eC, eCall, eCB, eNot, eAnd, eOr, eTru, eAndT, eOrT, eNotT, eIf, ePart, eNoPart, eYes, eChain, eChain3, oI, oI0, oLt, oLe, oGt, oGe, oNeg, oSub, oMod, oMul, oDivW, eXp, eXa, eConsX, eCallX, eCallN, eLstX, eCBX, sDropX, sRetX, sAsgX, sRaise, sRaiseF, List.set_cons_zero, List.set_cons_succ, List.getElem?_cons_zero, List.getElem?_cons_succ, truD_bl])
      refine app_d (M := [i]) (by simp; omega) ?_
      (try dsimp only [sAsg, sIf, sRet, sRetN, sDrop, sNext, asg, setAll, eT, eOp, eUn, eLst, eTup, eCons, eNil, eVar, eC, eCall, eCB, eNot, eAnd, eOr, eTru, eAndT, eOrT, eNotT, eIf, ePart, eNoPart, eYes, eChain, eChain3, oI, oI0, oLt, oLe, oGt, oGe, oNeg, oSub, oMod, oMul, oDivW, eXp, eXa, eConsX, eCallX, eCallN, eLstX, eCBX, sDropX, sRetX, sAsgX, sRaise, sRaiseF, List.set_cons_zero, List.set_cons_succ, List.getElem?_cons_zero, List.getElem?_cons_succ, truD_bl]); (try simp only [if_true, Bool.false_eq_true, if_false, decide_true, decide_false, Bool.not_true, Bool.not_false, List.length_cons, List.length_nil, sizeLine_eq, Nat.reduceAdd, Nat.reduceLeDiff, true_and, and_true, pw6, pw10, pw11, pw12, pw13, pw30, pw40, pw60]); (try dsimp only [sAsg, sIf, sRet, sRetN, sDrop, sNext, asg, setAll, eT, eOp, eUn, eLst, eTup, eCons, eNil, eVar, eC, eCall, eCB, eNot, eAnd, eOr, eTru, eAndT, eOrT, eNotT, eIf, ePart, eNoPart, eYes, eChain, eChain3, oI, oI0, oLt, oLe, oGt, oGe, oNeg, oSub, oMod, oMul, oDivW, eXp, eXa, eConsX, eCallX, eCallN, eLstX, eCBX, sDropX, sRetX, sAsgX, sRaise, sRaiseF, List.set_cons_zero, List.set_cons_succ, List.getElem?_cons_zero, List.getElem?_cons_succ, truD_bl])
      rw [show ((deep' + 1 : Nat) : Int) - 1 = (deep' : Int) by omega]
      refine ⟨a, x, y, z, n, rs, nb, ins ++ [i], outs, deep', rfl, gput_same, ok, hr, by omega, fun j hj => ?_, by simp; omega, by omega, fun t1 x y z ok t1k t1d t1l => hW7 _ _ ?_⟩
      · rcases List.mem_append.mp hj with q | q
        · exact hi j q
        · rw [List.mem_singleton.mp q]; exact hil
      rw [gput_gput]
      (try dsimp only [sAsg, sIf, sRet, sRetN, sDrop, sNext, asg, setAll, eT, eOp, eUn, eLst, eTup, eCons, eNil, eVar, eC, eCall, eCB, eNot, eAnd, eOr, eTru, eAndT, eOrT, eNotT, eIf, ePart, eNoPart, eYes, eChain, eChain3, oI, oI0, oLt, oLe, oGt, oGe, oNeg, oSub, oMod, oMul, oDivW, eXp, eXa, eConsX, eCallX, eCallN, eLstX, eCBX, sDropX, sRetX, sAsgX, sRaise, sRaiseF, List.set_cons_zero, List.set_cons_succ, List.getElem?_cons_zero, List.getElem?_cons_succ, truD_bl]); (try simp only [if_true, Bool.false_eq_true, if_false, decide_true, decide_false, Bool.not_true, Bool.not_false, List.length_cons, List.length_nil, sizeLine_eq, Nat.reduceAdd, Nat.reduceLeDiff, true_and, and_true, pw6, pw10, pw11, pw12, pw13, pw30, pw40, pw60]); (try dsimp only [sAsg, sIf, sRet, sRetN, sDrop, sNext, asg, setAll, eT, eOp, eUn, eLst, eTup, eCons, eNil, eVar, eC, eCall, eCB, eNot, eAnd, eOr, eTru, eAndT, eOrT, eNotT, eIf, ePart, eNoPart, eYes, eChain, eChain3, oI, oI0, oLt, oLe, oGt, oGe, oNeg, oSub, oMod, oMul, oDivW, eXp, eXa, eConsX, eCallX, eCallN, eLstX, eCBX, sDropX, sRetX, sAsgX, sRaise, sRaiseF, List.set_cons_zero, List.set_cons_succ, List.getElem?_cons_zero, List.getElem?_cons_succ, truD_bl])
      refine app_d (M := [i]) (by simp; omega) ?_
      (try dsimp only [sAsg, sIf, sRet, sRetN, sDrop, sNext, asg, setAll, eT, eOp, eUn, eLst, eTup, eCons, eNil, eVar, eC, eCall, eCB, eNot, eAnd, eOr, eTru, eAndT, eOrT, eNotT, eIf, ePart, eNoPart, eYes, eChain, eChain3, oI, oI0, oLt, oLe, oGt, oGe, oNeg, oSub, oMod, oMul, oDivW, eXp, eXa, eConsX, eCallX, eCallN, eLstX, eCBX, sDropX, sRetX, sAsgX, sRaise, sRaiseF, List.set_cons_zero, List.set_cons_succ, List.getElem?_cons_zero, List.getElem?_cons_succ, truD_bl]); (try simp only [if_true, Bool.false_eq_true, if_false, decide_true, decide_false, Bool.not_true, Bool.not_false, List.length_cons, List.length_nil, sizeLine_eq, Nat.reduceAdd, Nat.reduceLeDiff, true_and, and_true, pw6, pw10, pw11, pw12, pw13, pw30, pw40, pw60]); (try dsimp only [sAsg, sIf, sRet, sRetN, sDrop, sNext, asg, setAll, eT, eOp, eUn, eLst, eTup, eCons, eNil, eVar, eC, eCall, eCB, eNot, eAnd, eOr, eTru, eAndT, eOrT, eNotT, eIf, ePart, eNoPart, eYes, eChain, eChain3, oI, oI0, oLt, oLe, oGt, oGe, oNeg, oSub, oMod, oMul, oDivW, eXp, eXa, eConsX, eCallX, eCallN, eLstX, eCBX, sDropX, sRetX, sAsgX, sRaise, sRaiseF, List.set_cons_zero, List.set_cons_succ, List.getElem?_cons_zero, List.getElem?_cons_succ, truD_bl])
      rw [show ((deep' + 1 : Nat) : Int) - 1 = (deep' : Int) by omega]
      refine ⟨a, x, y, z, n, rs, nb, ins, outs ++ [i], deep', rfl, gput_same, ok, hr, by omega, hi, by omega, by simp; omega, fun t2 x y z ok t2k t2d t2l => ?_⟩
      rw [gput_gput]
      (try dsimp only [sAsg, sIf, sRet, sRetN, sDrop, sNext, asg, setAll, eT, eOp, eUn, eLst, eTup, eCons, eNil, eVar, eC, eCall, eCB, eNot, eAnd, eOr, eTru, eAndT, eOrT, eNotT, eIf, ePart, eNoPart, eYes, eChain, eChain3, oI, oI0, oLt, oLe, oGt, oGe, oNeg, oSub, oMod, oMul, oDivW, eXp, eXa, eConsX, eCallX, eCallN, eLstX, eCBX, sDropX, sRetX, sAsgX, sRaise, sRaiseF, List.set_cons_zero, List.set_cons_succ, List.getElem?_cons_zero, List.getElem?_cons_succ, truD_bl]); (try simp only [if_true, Bool.false_eq_true, if_false, decide_true, decide_false, Bool.not_true, Bool.not_false, List.length_cons, List.length_nil, sizeLine_eq, Nat.reduceAdd, Nat.reduceLeDiff, true_and, and_true, pw6, pw10, pw11, pw12, pw13, pw30, pw40, pw60]); (try dsimp only [sAsg, sIf, sRet, sRetN, sDrop, sNext, asg, setAll, eT, eOp, eUn, eLst, eTup, eCons, eNil, eVar, eC, eCall, eCB, eNot, eAnd, eOr, eTru, eAndT, eOrT, eNotT, eIf, ePart, eNoPart, eYes, eChain, eChain3, oI, oI0, oLt, oLe, oGt, oGe, oNeg, oSub, oMod, oMul, oDivW, eXp, eXa, eConsX, eCallX, eCallN, eLstX, eCBX, sDropX, sRetX, sAsgX, sRaise, sRaiseF, List.set_cons_zero, List.set_cons_succ, List.getElem?_cons_zero, List.getElem?_cons_succ, truD_bl])
      exact fin_id (kq (.sp i t1 t2) x y z ok ⟨hi2, t1k, t2k⟩ (by simp only [Tr.dep]; omega) ⟨t1l, t2l⟩)
    (try dsimp only [sAsg, sIf, sRet, sRetN, sDrop, sNext, asg, setAll, eT, eOp, eUn, eLst, eTup, eCons, eNil, eVar, eC, eCall, eCB, eNot, eAnd, eOr, eTru, eAndT, eOrT, eNotT, eIf, ePart, eNoPart, eYes, eChain, eChain3, oI, oI0, oLt, oLe, oGt, oGe, oNeg, oSub, oMod, oMul, oDivW, eXp, eXa, eConsX, eCallX, eCallN, eLstX, eCBX, sDropX, sRetX, sAsgX, sRaise, sRaiseF, List.set_cons_zero, List.set_cons_succ, List.getElem?_cons_zero, List.getElem?_cons_succ, truD_bl]); (try simp only [if_true, Bool.false_eq_true, if_false, decide_true, decide_false, Bool.not_true, Bool.not_false, List.length_cons, List.length_nil, sizeLine_eq, Nat.reduceAdd, Nat.reduceLeDiff, true_and, and_true, pw6, pw10, pw11, pw12, pw13, pw30, pw40, pw60]); (try dsimp only [sAsg, sIf, sRet, sRetN, sDrop, sNext, asg, setAll, eT, eOp, eUn, eLst, eTup, eCons, eNil, eVar, eC, eCall, eCB, eNot, eAnd, eOr, eTru, eAndT, eOrT, eNotT, eIf, ePart, eNoPart, eYes, eChain, eChain3, oI, oI0, oLt, oLe, oGt, oGe, oNeg, oSub, oMod, oMul, oDivW, eXp, eXa, eConsX, eCallX, eCallN, eLstX, eCBX, sDropX, sRetX, sAsgX, sRaise, sRaiseF, List.set_cons_zero, List.set_cons_succ, List.getElem?_cons_zero, List.getElem?_cons_succ, truD_bl])
    refine eq_nat_nilZ ?_
    by_cases c1 : fr = []
    · rw [decide_eq_true c1]
      (try dsimp only [sAsg, sIf, sRet, sRetN, sDrop, sNext, asg, setAll, eT, eOp, eUn, eLst, eTup, eCons, eNil, eVar, eC, eCall, eCB, eNot, eAnd, eOr, eTru, eAndT, eOrT, eNotT, eIf, ePart, eNoPart, eYes, eChain, eChain3, oI, oI0, oLt, oLe, oGt, oGe, oNeg, oSub, oMod, oMul, oDivW, eXp, eXa, eConsX, eCallX, eCallN, eLstX, eCBX, sDropX, sRetX, sAsgX, sRaise, sRaiseF, List.set_cons_zero, List.set_cons_succ, List.getElem?_cons_zero, List.getElem?_cons_succ, truD_bl]); (try simp only [if_true, Bool.false_eq_true, if_false, decide_true, decide_false, Bool.not_true, Bool.not_false, List.length_cons, List.length_nil, sizeLine_eq, Nat.reduceAdd, Nat.reduceLeDiff, true_and, and_true, pw6, pw10, pw11, pw12, pw13, pw30, pw40, pw60]); (try dsimp only [sAsg, sIf, sRet, sRetN, sDrop, sNext, asg, setAll, eT, eOp, eUn, eLst, eTup, eCons, eNil, eVar, eC, eCall, eCB, eNot, eAnd, eOr, eTru, eAndT, eOrT, eNotT, eIf, ePart, eNoPart, eYes, eChain, eChain3, oI, oI0, oLt, oLe, oGt, oGe, oNeg, oSub, oMod, oMul, oDivW, eXp, eXa, eConsX, eCallX, eCallN, eLstX, eCBX, sDropX, sRetX, sAsgX, sRaise, sRaiseF, List.set_cons_zero, List.set_cons_succ, List.getElem?_cons_zero, List.getElem?_cons_succ, truD_bl])
      exact paper ok
    rw [decide_eq_false c1]
    (try dsimp only [sAsg, sIf, sRet, sRetN, sDrop, sNext, asg, setAll, eT, eOp, eUn, eLst, eTup, eCons, eNil, eVar, eC, eCall, eCB, eNot, eAnd, eOr, eTru, eAndT, eOrT, eNotT, eIf, ePart, eNoPart, eYes, eChain, eChain3, oI, oI0, oLt, oLe, oGt, oGe, oNeg, oSub, oMod, oMul, oDivW, eXp, eXa, eConsX, eCallX, eCallN, eLstX, eCBX, sDropX, sRetX, sAsgX, sRaise, sRaiseF, List.set_cons_zero, List.set_cons_succ, List.getElem?_cons_zero, List.getElem?_cons_succ, truD_bl]); (try simp only [if_true, Bool.false_eq_true, if_false, decide_true, decide_false, Bool.not_true, Bool.not_false, List.length_cons, List.length_nil, sizeLine_eq, Nat.reduceAdd, Nat.reduceLeDiff, true_and, and_true, pw6, pw10, pw11, pw12, pw13, pw30, pw40, pw60]); (try dsimp only [sAsg, sIf, sRet, sRetN, sDrop, sNext, asg, setAll, eT, eOp, eUn, eLst, eTup, eCons, eNil, eVar, eC, eCall, eCB, eNot, eAnd, eOr, eTru, eAndT, eOrT, eNotT, eIf, ePart, eNoPart, eYes, eChain, eChain3, oI, oI0, oLt, oLe, oGt, oGe, oNeg, oSub, oMod, oMul, oDivW, eXp, eXa, eConsX, eCallX, eCallN, eLstX, eCBX, sDropX, sRetX, sAsgX, sRaise, sRaiseF, List.set_cons_zero, List.set_cons_succ, List.getElem?_cons_zero, List.getElem?_cons_succ, truD_bl])
    refine eq_ii ?_
    by_cases c2 : (deep : Int) = 0
    · rw [decide_eq_true c2]
      (try dsimp only [sAsg, sIf, sRet, sRetN, sDrop, sNext, asg, setAll, eT, eOp, eUn, eLst, eTup, eCons, eNil, eVar, eC, eCall, eCB, eNot, eAnd, eOr, eTru, eAndT, eOrT, eNotT, eIf, ePart, eNoPart, eYes, eChain, eChain3, oI, oI0, oLt, oLe, oGt, oGe, oNeg, oSub, oMod, oMul, oDivW, eXp, eXa, eConsX, eCallX, eCallN, eLstX, eCBX, sDropX, sRetX, sAsgX, sRaise, sRaiseF, List.set_cons_zero, List.set_cons_succ, List.getElem?_cons_zero, List.getElem?_cons_succ, truD_bl]); (try simp only [if_true, Bool.false_eq_true, if_false, decide_true, decide_false, Bool.not_true, Bool.not_false, List.length_cons, List.length_nil, sizeLine_eq, Nat.reduceAdd, Nat.reduceLeDiff, true_and, and_true, pw6, pw10, pw11, pw12, pw13, pw30, pw40, pw60]); (try dsimp only [sAsg, sIf, sRet, sRetN, sDrop, sNext, asg, setAll, eT, eOp, eUn, eLst, eTup, eCons, eNil, eVar, eC, eCall, eCB, eNot, eAnd, eOr, eTru, eAndT, eOrT, eNotT, eIf, ePart, eNoPart, eYes, eChain, eChain3, oI, oI0, oLt, oLe, oGt, oGe, oNeg, oSub, oMod, oMul, oDivW, eXp, eXa, eConsX, eCallX, eCallN, eLstX, eCBX, sDropX, sRetX, sAsgX, sRaise, sRaiseF, List.set_cons_zero, List.set_cons_succ, List.getElem?_cons_zero, List.getElem?_cons_succ, truD_bl])
      exact paper ok
    rw [decide_eq_false c2]
    (try dsimp only [sAsg, sIf, sRet, sRetN, sDrop, sNext, asg, setAll, eT, eOp, eUn, eLst, eTup, eCons, eNil, eVar, eC, eCall, eCB, eNot, eAnd, eOr, eTru, eAndT, eOrT, eNotT, eIf, ePart, eNoPart, eYes, eChain, eChain3, oI, oI0, oLt, oLe, oGt, oGe, oNeg, oSub, oMod, oMul, oDivW, eXp, eXa, eConsX, eCallX, eCallN, eLstX, eCBX, sDropX, sRetX, sAsgX, sRaise, sRaiseF, List.set_cons_zero, List.set_cons_succ, List.getElem?_cons_zero, List.getElem?_cons_succ, truD_bl]); (try simp only [if_true, Bool.false_eq_true, if_false, decide_true, decide_false, Bool.not_true, Bool.not_false, List.length_cons, List.length_nil, sizeLine_eq, Nat.reduceAdd, Nat.reduceLeDiff, true_and, and_true, pw6, pw10, pw11, pw12, pw13, pw30, pw40, pw60]); (try dsimp only [sAsg, sIf, sRet, sRetN, sDrop, sNext, asg, setAll, eT, eOp, eUn, eLst, eTup, eCons, eNil, eVar, eC, eCall, eCB, eNot, eAnd, eOr, eTru, eAndT, eOrT, eNotT, eIf, ePart, eNoPart, eYes, eChain, eChain3, oI, oI0, oLt, oLe, oGt, oGe, oNeg, oSub, oMod, oMul, oDivW, eXp, eXa, eConsX, eCallX, eCallN, eLstX, eCBX, sDropX, sRetX, sAsgX, sRaise, sRaiseF, List.set_cons_zero, List.set_cons_succ, List.getElem?_cons_zero, List.getElem?_cons_succ, truD_bl])
    refine take_ok gput_same ok (wd_of (by decide) (by decide)) fun v x y z ok v0 v1 => ?_
    rw [gput_gput]
    refine eq_ii ?_
    by_cases c3 : v = 0
    · rw [decide_eq_true c3]
      (try dsimp only [sAsg, sIf, sRet, sRetN, sDrop, sNext, asg, setAll, eT, eOp, eUn, eLst, eTup, eCons, eNil, eVar, eC, eCall, eCB, eNot, eAnd, eOr, eTru, eAndT, eOrT, eNotT, eIf, ePart, eNoPart, eYes, eChain, eChain3, oI, oI0, oLt, oLe, oGt, oGe, oNeg, oSub, oMod, oMul, oDivW, eXp, eXa, eConsX, eCallX, eCallN, eLstX, eCBX, sDropX, sRetX, sAsgX, sRaise, sRaiseF, List.set_cons_zero, List.set_cons_succ, List.getElem?_cons_zero, List.getElem?_cons_succ, truD_bl]); (try simp only [if_true, Bool.false_eq_true, if_false, decide_true, decide_false, Bool.not_true, Bool.not_false, List.length_cons, List.length_nil, sizeLine_eq, Nat.reduceAdd, Nat.reduceLeDiff, true_and, and_true, pw6, pw10, pw11, pw12, pw13, pw30, pw40, pw60]); (try dsimp only [sAsg, sIf, sRet, sRetN, sDrop, sNext, asg, setAll, eT, eOp, eUn, eLst, eTup, eCons, eNil, eVar, eC, eCall, eCB, eNot, eAnd, eOr, eTru, eAndT, eOrT, eNotT, eIf, ePart, eNoPart, eYes, eChain, eChain3, oI, oI0, oLt, oLe, oGt, oGe, oNeg, oSub, oMod, oMul, oDivW, eXp, eXa, eConsX, eCallX, eCallN, eLstX, eCBX, sDropX, sRetX, sAsgX, sRaise, sRaiseF, List.set_cons_zero, List.set_cons_succ, List.getElem?_cons_zero, List.getElem?_cons_succ, truD_bl])
      exact paper ok
    · rw [decide_eq_false c3]
      (try dsimp only [sAsg, sIf, sRet, sRetN, sDrop, sNext, asg, setAll, eT, eOp, eUn, eLst, eTup, eCons, eNil, eVar, eC, eCall, eCB, eNot, eAnd, eOr, eTru, eAndT, eOrT, eNotT, eIf, ePart, eNoPart, eYes, eChain, eChain3, oI, oI0, oLt, oLe, oGt, oGe, oNeg, oSub, oMod, oMul, oDivW, eXp, eXa, eConsX, eCallX, eCallN, eLstX, eCBX, sDropX, sRetX, sAsgX, sRaise, sRaiseF, List.set_cons_zero, List.set_cons_succ, List.getElem?_cons_zero, List.getElem?_cons_succ, truD_bl]); (try simp only [if_true, Bool.false_eq_true, if_false, decide_true, decide_false, Bool.not_true, Bool.not_false, List.length_cons, List.length_nil, sizeLine_eq, Nat.reduceAdd, Nat.reduceLeDiff, true_and, and_true, pw6, pw10, pw11, pw12, pw13, pw30, pw40, pw60]); (try dsimp only [sAsg, sIf, sRet, sRetN, sDrop, sNext, asg, setAll, eT, eOp, eUn, eLst, eTup, eCons, eNil, eVar, eC, eCall, eCB, eNot, eAnd, eOr, eTru, eAndT, eOrT, eNotT, eIf, ePart, eNoPart, eYes, eChain, eChain3, oI, oI0, oLt, oLe, oGt, oGe, oNeg, oSub, oMod, oMul, oDivW, eXp, eXa, eConsX, eCallX, eCallN, eLstX, eCBX, sDropX, sRetX, sAsgX, sRaise, sRaiseF, List.set_cons_zero, List.set_cons_succ, List.getElem?_cons_zero, List.getElem?_cons_succ, truD_bl])
      exact split5 _ _ _ ok c1 (by omega)
  (try dsimp only [sAsg, sIf, sRet, sRetN, sDrop, sNext, asg, setAll, eT, eOp, eUn, eLst, eTup, eCons, eNil, eVar, eC, eCall, eCB, eNot, eAnd, eOr, eTru, eAndT, eOrT, eNotT, eIf, ePart, eNoPart, eYes, eChain, eChain3, oI, oI0, oLt, oLe, oGt, oGe, oNeg, oSub, oMod, oMul, oDivW, eXp, eXa, eConsX, eCallX, eCallN, eLstX, eCBX, sDropX, sRetX, sAsgX, sRaise, sRaiseF, List.set_cons_zero, List.set_cons_succ, List.getElem?_cons_zero, List.getElem?_cons_succ, truD_bl]); (try simp only [if_true, Bool.false_eq_true, if_false, decide_true, decide_false, Bool.not_true, Bool.not_false, List.length_cons, List.length_nil, sizeLine_eq, Nat.reduceAdd, Nat.reduceLeDiff, true_and, and_true, pw6, pw10, pw11, pw12, pw13, pw30, pw40, pw60]); (try dsimp only [sAsg, sIf, sRet, sRetN, sDrop, sNext, asg, setAll, eT, eOp, eUn, eLst, eTup, eCons, eNil, eVar, eC, eCall, eCB, eNot, eAnd, eOr, eTru, eAndT, eOrT, eNotT, eIf, ePart, eNoPart, eYes, eChain, eChain3, oI, oI0, oLt, oLe, oGt, oGe, oNeg, oSub, oMod, oMul, oDivW, eXp, eXa, eConsX, eCallX, eCallN, eLstX, eCBX, sDropX, sRetX, sAsgX, sRaise, sRaiseF, List.set_cons_zero, List.set_cons_succ, List.getElem?_cons_zero, List.getElem?_cons_succ, truD_bl])
  refine ne_nilI ?_
  by_cases c : cr = []
  · rw [decide_eq_true c]
    (try dsimp only [sAsg, sIf, sRet, sRetN, sDrop, sNext, asg, setAll, eT, eOp, eUn, eLst, eTup, eCons, eNil, eVar, eC, eCall, eCB, eNot, eAnd, eOr, eTru, eAndT, eOrT, eNotT, eIf, ePart, eNoPart, eYes, eChain, eChain3, oI, oI0, oLt, oLe, oGt, oGe, oNeg, oSub, oMod, oMul, oDivW, eXp, eXa, eConsX, eCallX, eCallN, eLstX, eCBX, sDropX, sRetX, sAsgX, sRaise, sRaiseF, List.set_cons_zero, List.set_cons_succ, List.getElem?_cons_zero, List.getElem?_cons_succ, truD_bl]); (try simp only [if_true, Bool.false_eq_true, if_false, decide_true, decide_false, Bool.not_true, Bool.not_false, List.length_cons, List.length_nil, sizeLine_eq, Nat.reduceAdd, Nat.reduceLeDiff, true_and, and_true, pw6, pw10, pw11, pw12, pw13, pw30, pw40, pw60]); (try dsimp only [sAsg, sIf, sRet, sRetN, sDrop, sNext, asg, setAll, eT, eOp, eUn, eLst, eTup, eCons, eNil, eVar, eC, eCall, eCB, eNot, eAnd, eOr, eTru, eAndT, eOrT, eNotT, eIf, ePart, eNoPart, eYes, eChain, eChain3, oI, oI0, oLt, oLe, oGt, oGe, oNeg, oSub, oMod, oMul, oDivW, eXp, eXa, eConsX, eCallX, eCallN, eLstX, eCBX, sDropX, sRetX, sAsgX, sRaise, sRaiseF, List.set_cons_zero, List.set_cons_succ, List.getElem?_cons_zero, List.getElem?_cons_succ, truD_bl])
    have e0 : gput G a (stO x y z) = G := by
      funext b
      by_cases hb : b = a
      · rw [hb, gput_same]; exact hG.symm
      · rw [gput_ne hb]
    have := go x y z ok
    rw [e0] at this
    exact this
  · rw [decide_eq_false c]
    (try dsimp only [sAsg, sIf, sRet, sRetN, sDrop, sNext, asg, setAll, eT, eOp, eUn, eLst, eTup, eCons, eNil, eVar, eC, eCall, eCB, eNot, eAnd, eOr, eTru, eAndT, eOrT, eNotT, eIf, ePart, eNoPart, eYes, eChain, eChain3, oI, oI0, oLt, oLe, oGt, oGe, oNeg, oSub, oMod, oMul, oDivW, eXp, eXa, eConsX, eCallX, eCallN, eLstX, eCBX, sDropX, sRetX, sAsgX, sRaise, sRaiseF, List.set_cons_zero, List.set_cons_succ, List.getElem?_cons_zero, List.getElem?_cons_succ, truD_bl]); (try simp only [if_true, Bool.false_eq_true, if_false, decide_true, decide_false, Bool.not_true, Bool.not_false, List.length_cons, List.length_nil, sizeLine_eq, Nat.reduceAdd, Nat.reduceLeDiff, true_and, and_true, pw6, pw10, pw11, pw12, pw13, pw30, pw40, pw60]); (try dsimp only [sAsg, sIf, sRet, sRetN, sDrop, sNext, asg, setAll, eT, eOp, eUn, eLst, eTup, eCons, eNil, eVar, eC, eCall, eCB, eNot, eAnd, eOr, eTru, eAndT, eOrT, eNotT, eIf, ePart, eNoPart, eYes, eChain, eChain3, oI, oI0, oLt, oLe, oGt, oGe, oNeg, oSub, oMod, oMul, oDivW, eXp, eXa, eConsX, eCallX, eCallN, eLstX, eCBX, sDropX, sRetX, sAsgX, sRaise, sRaiseF, List.set_cons_zero, List.set_cons_succ, List.getElem?_cons_zero, List.getElem?_cons_succ, truD_bl])
    refine take_ok hG ok (wd_of (by decide) (by decide)) fun v x y z ok v0 v1 => ?_
    (try dsimp only [sAsg, sIf, sRet, sRetN, sDrop, sNext, asg, setAll, eT, eOp, eUn, eLst, eTup, eCons, eNil, eVar, eC, eCall, eCB, eNot, eAnd, eOr, eTru, eAndT, eOrT, eNotT, eIf, ePart, eNoPart, eYes, eChain, eChain3, oI, oI0, oLt, oLe, oGt, oGe, oNeg, oSub, oMod, oMul, oDivW, eXp, eXa, eConsX, eCallX, eCallN, eLstX, eCBX, sDropX, sRetX, sAsgX, sRaise, sRaiseF, List.set_cons_zero, List.set_cons_succ, List.getElem?_cons_zero, List.getElem?_cons_succ, truD_bl]); (try simp only [if_true, Bool.false_eq_true, if_false, decide_true, decide_false, Bool.not_true, Bool.not_false, List.length_cons, List.length_nil, sizeLine_eq, Nat.reduceAdd, Nat.reduceLeDiff, true_and, and_true, pw6, pw10, pw11, pw12, pw13, pw30, pw40, pw60]); (try dsimp only [sAsg, sIf, sRet, sRetN, sDrop, sNext, asg, setAll, eT, eOp, eUn, eLst, eTup, eCons, eNil, eVar, eC, eCall, eCB, eNot, eAnd, eOr, eTru, eAndT, eOrT, eNotT, eIf, ePart, eNoPart, eYes, eChain, eChain3, oI, oI0, oLt, oLe, oGt, oGe, oNeg, oSub, oMod, oMul, oDivW, eXp, eXa, eConsX, eCallX, eCallN, eLstX, eCBX, sDropX, sRetX, sAsgX, sRaise, sRaiseF, List.set_cons_zero, List.set_cons_succ, List.getElem?_cons_zero, List.getElem?_cons_succ, truD_bl])
    by_cases c3 : v > 0
    · rw [decide_eq_true (show 0 < v from c3)]
      (try dsimp only [sAsg, sIf, sRet, sRetN, sDrop, sNext, asg, setAll, eT, eOp, eUn, eLst, eTup, eCons, eNil, eVar, eC, eCall, eCB, eNot, eAnd, eOr, eTru, eAndT, eOrT, eNotT, eIf, ePart, eNoPart, eYes, eChain, eChain3, oI, oI0, oLt, oLe, oGt, oGe, oNeg, oSub, oMod, oMul, oDivW, eXp, eXa, eConsX, eCallX, eCallN, eLstX, eCBX, sDropX, sRetX, sAsgX, sRaise, sRaiseF, List.set_cons_zero, List.set_cons_succ, List.getElem?_cons_zero, List.getElem?_cons_succ, truD_bl]); (try simp only [if_true, Bool.false_eq_true, if_false, decide_true, decide_false, Bool.not_true, Bool.not_false, List.length_cons, List.length_nil, sizeLine_eq, Nat.reduceAdd, Nat.reduceLeDiff, true_and, and_true, pw6, pw10, pw11, pw12, pw13, pw30, pw40, pw60]); (try dsimp only [sAsg, sIf, sRet, sRetN, sDrop, sNext, asg, setAll, eT, eOp, eUn, eLst, eTup, eCons, eNil, eVar, eC, eCall, eCB, eNot, eAnd, eOr, eTru, eAndT, eOrT, eNotT, eIf, ePart, eNoPart, eYes, eChain, eChain3, oI, oI0, oLt, oLe, oGt, oGe, oNeg, oSub, oMod, oMul, oDivW, eXp, eXa, eConsX, eCallX, eCallN, eLstX, eCBX, sDropX, sRetX, sAsgX, sRaise, sRaiseF, List.set_cons_zero, List.set_cons_succ, List.getElem?_cons_zero, List.getElem?_cons_succ, truD_bl])
      have hcp := List.length_pos_iff.mpr c
      refine len_lst ?_
      rw [show (nD cr).length = cr.length by simp [nD]]
      refine take_ok gput_same ok (wd_of (by omega) (by omega)) fun j x y z ok j0 j1 => ?_
      rw [gput_gput]
      obtain ⟨m, hm, em⟩ := atI_n (l := cr) j0 j1
      refine ix_at em ?_
      (try dsimp only [sAsg, sIf, sRet, sRetN, sDrop, sNext, asg, setAll, eT, eOp, eUn, eLst, eTup, eCons, eNil, eVar, eC, eCall, eCB, eNot, eAnd, eOr, eTru, eAndT, eOrT, eNotT, eIf, ePart, eNoPart, eYes, eChain, eChain3, oI, oI0, oLt, oLe, oGt, oGe, oNeg, oSub, oMod, oMul, oDivW, eXp, eXa, eConsX, eCallX, eCallN, eLstX, eCBX, sDropX, sRetX, sAsgX, sRaise, sRaiseF, List.set_cons_zero, List.set_cons_succ, List.getElem?_cons_zero, List.getElem?_cons_succ, truD_bl]); (try simp only [if_true, Bool.false_eq_true, if_false, decide_true, decide_false, Bool.not_true, Bool.not_false, List.length_cons, List.length_nil, sizeLine_eq, Nat.reduceAdd, Nat.reduceLeDiff, true_and, and_true, pw6, pw10, pw11, pw12, pw13, pw30, pw40, pw60]); (try dsimp only [sAsg, sIf, sRet, sRetN, sDrop, sNext, asg, setAll, eT, eOp, eUn, eLst, eTup, eCons, eNil, eVar, eC, eCall, eCB, eNot, eAnd, eOr, eTru, eAndT, eOrT, eNotT, eIf, ePart, eNoPart, eYes, eChain, eChain3, oI, oI0, oLt, oLe, oGt, oGe, oNeg, oSub, oMod, oMul, oDivW, eXp, eXa, eConsX, eCallX, eCallN, eLstX, eCBX, sDropX, sRetX, sAsgX, sRaise, sRaiseF, List.set_cons_zero, List.set_cons_succ, List.getElem?_cons_zero, List.getElem?_cons_succ, truD_bl])
      have := hcr2 m hm
      exact fin_id (kq (.cr (m : Int)) x y z ok this (by simp only [Tr.dep]; omega) trivial)
    · rw [decide_eq_false (show ¬ 0 < v from c3)]
      (try dsimp only [sAsg, sIf, sRet, sRetN, sDrop, sNext, asg, setAll, eT, eOp, eUn, eLst, eTup, eCons, eNil, eVar, eC, eCall, eCB, eNot, eAnd, eOr, eTru, eAndT, eOrT, eNotT, eIf, ePart, eNoPart, eYes, eChain, eChain3, oI, oI0, oLt, oLe, oGt, oGe, oNeg, oSub, oMod, oMul, oDivW, eXp, eXa, eConsX, eCallX, eCallN, eLstX, eCBX, sDropX, sRetX, sAsgX, sRaise, sRaiseF, List.set_cons_zero, List.set_cons_succ, List.getElem?_cons_zero, List.getElem?_cons_succ, truD_bl]); (try simp only [if_true, Bool.false_eq_true, if_false, decide_true, decide_false, Bool.not_true, Bool.not_false, List.length_cons, List.length_nil, sizeLine_eq, Nat.reduceAdd, Nat.reduceLeDiff, true_and, and_true, pw6, pw10, pw11, pw12, pw13, pw30, pw40, pw60]); (try dsimp only [sAsg, sIf, sRet, sRetN, sDrop, sNext, asg, setAll, eT, eOp, eUn, eLst, eTup, eCons, eNil, eVar, eC, eCall, eCB, eNot, eAnd, eOr, eTru, eAndT, eOrT, eNotT, eIf, ePart, eNoPart, eYes, eChain, eChain3, oI, oI0, oLt, oLe, oGt, oGe, oNeg, oSub, oMod, oMul, oDivW, eXp, eXa, eConsX, eCallX, eCallN, eLstX, eCBX, sDropX, sRetX, sAsgX, sRaise, sRaiseF, List.set_cons_zero, List.set_cons_succ, List.getElem?_cons_zero, List.getElem?_cons_succ, truD_bl])
      exact go _ _ _ ok
def Tr.tag : Tr → Str
  | .pr _ => "prices"
  | .cr _ => "crowd"
  | .sp _ _ _ => "split"
theorem Tr.ix0 {G : Gp} {Q : DK} : ∀ {t : Tr}, Q (.str t.tag) G → oIx t.d (.int 0) G Q
  | .pr _, q => ixt_0 rfl q
  | .cr _, q => ixt_0 rfl q
  | .sp _ _ _, q => ixt_0 rfl q
end DL
set_option Elab.async false
set_option linter.all false
set_option maxRecDepth 100000
set_option maxHeartbeats 4000000
namespace DL
open PySem PySem.Spec PyProof.Rows L2 LN
theorem worth_permR {rs : List Stretch} {a b : List Nat} (h : a.Perm b) : worthOf rs a = worthOf rs b := by
  unfold worthOf
  exact perm_sum (h.map _)
theorem load_permR {n : Int} {rs : List Stretch} {a b : List Nat} {m : Int} (h : a.Perm b) : loadOn n rs a m = loadOn n rs b m := (h.filter _).length_eq
theorem load_appR {n : Int} {rs : List Stretch} {a b : List Nat} {m : Int} : loadOn n rs (a ++ b) m = loadOn n rs a m + loadOn n rs b m := by simp [loadOn]
theorem worth_appR {rs : List Stretch} {a b : List Nat} : worthOf rs (a ++ b) = worthOf rs a + worthOf rs b := by simp [worthOf]
theorem part_perm {l ins : List Nat} (nl : l.Nodup) (ni : ins.Nodup) (h : ∀ i ∈ ins, i ∈ l) : (ins ++ l.filter fun i => decide (i ∉ ins)).Perm l := by
  have n2 : (ins ++ l.filter fun i => decide (i ∉ ins)).Nodup := List.nodup_append.mpr ⟨ni, nl.sublist List.filter_sublist, fun a ha b hb e => by
    have := (List.mem_filter.mp hb).2
    simp at this
    exact this (e ▸ ha)⟩
  refine (List.perm_ext_iff_of_nodup n2 nl).mpr fun a => ?_
  rw [List.mem_append, List.mem_filter]
  constructor
  · rintro (q | q)
    · exact h a q
    · exact q.1
  · intro q
    by_cases c : a ∈ ins
    · exact .inl c
    · exact .inr ⟨q, by simp [c]⟩
theorem sum_le_map {α : Type} {f g : α → Int} : ∀ {l : List α}, (∀ x ∈ l, f x ≤ g x) → (l.map f).sum ≤ (l.map g).sum
  | [], _ => by simp
  | x :: l, h => by
    have h1 := h x List.mem_cons_self
    have h2 := sum_le_map (l := l) fun y hy => h y (List.mem_cons_of_mem _ hy)
    simp only [List.map_cons, List.sum_cons]
    omega
theorem sum_add_map {α : Type} {f g : α → Int} : ∀ {l : List α}, (l.map fun x => f x + g x).sum = (l.map f).sum + (l.map g).sum
  | [] => by simp
  | x :: l => by
    have := sum_add_map (f := f) (g := g) (l := l)
    simp only [List.map_cons, List.sum_cons]
    omega
theorem sum_part {f : Nat → Int} (hf : ∀ i, 0 ≤ f i) : ∀ {a b : List Nat}, a.Nodup → b.Nodup → (∀ i ∈ a, i ∈ b) → (a.map f).sum ≤ (b.map f).sum := fun {a b} na nb h => by
  have e := perm_sum ((part_perm nb na h).map f)
  rw [List.map_append, List.sum_append] at e
  have : 0 ≤ ((b.filter fun i => decide (i ∉ a)).map f).sum := by
    have : ∀ l : List Nat, 0 ≤ (l.map f).sum := fun l => by
      induction l with
      | nil => simp
      | cons x r ih => have := hf x; simp only [List.map_cons, List.sum_cons]; omega
    exact this _
  omega
theorem free_nodup {rs : List Stretch} {ins outs : List Nat} : (freeZ rs ins outs).Nodup := List.nodup_range.sublist List.filter_sublist
/-- weak duality of a leaf -/
theorem leaf_weak {n : Int} {rs : List Stretch} {nb : Int} {pp : Paper} {l ins outs : List Nat} (hs : Some rs.length l) (h1 : ∀ x ∈ pp, 1 ≤ x.2) (hk : ∀ x ∈ pp, (loadOn n rs l x.1 : Int) ≤ nb) (ni : ins.Nodup) (hi : ∀ i ∈ ins, i ∈ l) (ho : ∀ i ∈ outs, i ∉ l) : worthOf rs l ≤ priceZ n rs nb pp ins outs := by
  have nl : l.Nodup := hs.up.imp fun h e => by omega
  have pm := part_perm nl ni hi
  generalize hR : (l.filter fun i => decide (i ∉ ins)) = rest at pm
  have nr : rest.Nodup := by rw [← hR]; exact nl.sublist List.filter_sublist
  have fr : ∀ i ∈ rest, i ∈ freeZ rs ins outs := fun i h => by
    rw [← hR] at h
    obtain ⟨a, b⟩ := List.mem_filter.mp h
    exact free_mem.mpr ⟨hs.lt i a, by simpa using b, fun q => ho i q a⟩
  rw [← worth_permR pm, worth_appR]
  unfold priceZ
  have e1 : worthOf rs rest ≤ (rest.map fun i => restR n (st rs i) pp + tollR n (st rs i) pp).sum := by
    unfold worthOf
    exact sum_le_map fun i _ => restR_ge n (st rs i) pp
  rw [sum_add_map, tollR_swap] at e1
  have e2 : (rest.map fun i => restR n (st rs i) pp).sum ≤ ((freeZ rs ins outs).map fun i => restR n (st rs i) pp).sum := sum_part (fun i => restR_nonneg n (st rs i) pp) nr free_nodup fr
  have e3 : (pp.map fun x => x.2 * (loadOn n rs rest x.1 : Int)).sum ≤ (pp.map fun x => x.2 * (nb - (loadOn n rs ins x.1 : Int))).sum := sum_le_map fun x hx => by
    have a := hk x hx
    rw [← load_permR pm, load_appR] at a
    have b := h1 x hx
    exact Int.mul_le_mul_of_nonneg_left (by omega) (by omega)
  omega
theorem load_subR {n : Int} {rs : List Stretch} {a b : List Nat} {m : Int} (na : a.Nodup) (nb : b.Nodup) (h : ∀ i ∈ a, i ∈ b) : loadOn n rs a m ≤ loadOn n rs b m := by
  rw [← load_permR (part_perm nb na h), load_appR]
  omega
/-- weak duality of a tree -/
theorem tree_weak {n : Int} {rs : List Stretch} {nb : Int} {l : List Nat} (hs : Some rs.length l) (hk : ∀ m : Int, 0 ≤ m → m < n → (loadOn n rs l m : Int) ≤ nb) : ∀ (t : Tr) {met : Nat} {ins outs : List Nat} {m' : Nat} {s' : List Int}, wlk n rs nb t met ins outs = some (m', s') → t.pap n → ins.Nodup → (∀ i ∈ ins, i ∈ l) → (∀ i ∈ outs, i ∉ l) → ∃ v ∈ s', worthOf rs l ≤ v
  | .pr pp, met, ins, outs, m', s', h, hp, ni, hi, ho => by
    unfold wlk at h
    split at h
    · cases h
      exact ⟨_, List.mem_singleton.mpr rfl, leaf_weak hs hp.1.p1 (fun x hx => hk x.1 (hp.2 x hx).1 (hp.2 x hx).2) ni hi ho⟩
    · cases h
  | .cr m, met, ins, outs, m', s', h, hp, ni, hi, ho => by
    unfold wlk at h
    split at h
    · rename_i c
      have nl : l.Nodup := hs.up.imp fun h e => by omega
      have a := load_subR (n := n) (rs := rs) (m := m) ni nl hi
      have b := hk m c.2.1.1 c.2.1.2
      omega
    · cases h
  | .sp i a b, met, ins, outs, m', s', h, hp, ni, hi, ho => by
    unfold wlk at h
    split at h
    · rename_i c
      obtain ⟨f1, f2, f3⟩ := free_mem.mp c.2
      split at h
      · rename_i m1 s1 e1
        split at h
        · rename_i m2 s2 e2
          cases h
          by_cases c : i ∈ l
          · obtain ⟨v, hv, w⟩ := tree_weak hs hk a e1 hp.1 (List.nodup_append.mpr ⟨ni, by simp, fun x hx y hy e => f2 (by rw [List.mem_singleton.mp hy] at e; exact e ▸ hx)⟩) (fun j hj => by
              rcases List.mem_append.mp hj with q | q
              · exact hi j q
              · rw [List.mem_singleton.mp q]; exact c) ho
            exact ⟨v, List.mem_append_left _ hv, w⟩
          · obtain ⟨v, hv, w⟩ := tree_weak hs hk b e2 hp.2 ni hi (fun j hj => by
              rcases List.mem_append.mp hj with q | q
              · exact ho j q
              · rw [List.mem_singleton.mp q]; exact c)
            exact ⟨v, List.mem_append_right _ hv, w⟩
        · cases h
      · cases h
    · cases h
end DL
set_option Elab.async false
set_option linter.all false
set_option maxRecDepth 100000
set_option maxHeartbeats 4000000
namespace DL
open PySem PySem.Spec PyProof.Rows L2 LN
def LtOk (n : Int) (rs : List Stretch) (b : Int) (k : Nat) (l : List Nat) : Prop := Some k l ∧ ∀ m : Int, 0 ≤ m → m < n → (loadOn n rs l m : Int) ≤ b
def F__law_ring_choices : Sf := fun ds G Q => ∃ (n : Int) (rs : List Stretch) (b : Int), ds = [ringD n rs, .int b] ∧ RgOk n rs ∧ rs.length ≤ 7 ∧ 0 ≤ b ∧ ∀ ls : List (List Nat), ls ≠ [] → (∀ l ∈ ls, LtOk n rs b rs.length l) → Q (.lst (ls.map fun l => .lst (nD l))) G
def F__law_told : Sf := fun ds G Q => ∃ n rs nb, ∃ t : Tr, ds = [ringD n rs, .int nb, t.d] ∧ RgOk n rs ∧ 0 ≤ nb ∧ t.pap n ∧ t.small ∧ t.dep ≤ 15 ∧ t.size ≤ 600 ∧
  (wlk n rs nb t 0 [] [] = none → Q .non G) ∧ (∀ m' s', wlk n rs nb t 0 [] [] = some (m', s') → ∀ v, v ∈ s' → (∀ y ∈ s', y ≤ v) → Q (.int v) G)
def F__law_bent : Nat → Sf
  | 0 => fun _ _ _ => False
  | k + 1 => fun ds G Q => ∃ a x y z n rs, ∃ (t : Tr) (c : Int), ds = [.ref a, ringD n rs, t.d] ∧ G a = some (stO x y z) ∧ Ok3 x y z ∧ RgOk n rs ∧ t.pap n ∧ t.small ∧ t.le c ∧ 1 ≤ c ∧ c ≤ 9000000000000 ∧ t.dep ≤ k ∧
    ∀ (t' : Tr) x' y' z', Ok3 x' y' z' → t'.pap n → t'.small → t'.le (c + 1) → t'.dep ≤ t.dep + 1 → Q t'.d (gput G a (stO x' y' z'))
def r__law_ring_choices_L1 : ES :=
  (sSeq (sAsg (eLc (iL (eVar 2)) (.nm 5) eYes (eOp oAdd (eVar 5) (eLst (eCons (eVar 3) eNil))) [5]) (.nm 4))
  (sAsg (eOp oAdd (eVar 2) (eLc (iL (eVar 4)) (.nm 5) (eTru (eCall F__law_is_light (eCons (eVar 0) (eCons (eVar 5) (eCons (eVar 1) eNil))))) (eVar 5) [5])) (.nm 2)))
def r__law_ring_choices : ES :=
  (sSeq (sAsg (eLst (eCons (eLst eNil) eNil)) (.nm 2))
  (sSeq (sFor (iR1 (eCons (eCB cLen (eCons (eOp oIx (eVar 0) (eC (.int 1))) eNil)) eNil)) (.nm 3) r__law_ring_choices_L1)
  (sRet (eVar 2))))
def r__law_told : ES :=
  (sSeq (sAsg (eCB cStrX (eCons (eVar 2) eNil)) (.nm 3))
  (sSeq (sAsg (eC .non) (.nm 4))
  (sSeq (sTry (["NoTree"] : List Str) "NoTree" (sAsgX (eCallX F_tree_claim (eXa (eCons (eVar 0) (eCons (eVar 1) (eCons (eVar 2) eNil))))) (.nm 4)) (sAsg (eC .non) (.nm 4)))
  (sSeq (sIf (eT (eOp oNe (eCB cStrX (eCons (eVar 2) eNil)) (eVar 3))) (sRet (eUn oNeg (eC (.int 1)))) sNext)
  (sRet (eVar 4))))))
def r__law_bent (n : Nat) : ES :=
  (sSeq (sAsg (eCall F__law_take (eCons (eVar 0) (eCons (eC (.int 6)) eNil))) (.nm 3))
  (sSeq (sIf (eT (eOp oEq (eVar 3) (eC (.int 0)))) (sRet (eTup (eCons (eC (.str "crowd")) (eCons (eCall F__law_take (eCons (eVar 0) (eCons (eOp oIx (eVar 1) (eC (.int 0))) eNil))) eNil)))) sNext)
  (sSeq (sIf (eAnd (eT (eOp oEq (eOp oIx (eVar 2) (eC (.int 0))) (eC (.str "split")))) (eT (eOp oLt (eVar 3) (eC (.int 5))))) (sSeq (sAsgL (eOp oIx (eVar 2) (eC (.int 2))) [4, 5])
  (sSeq (sIf (eT (eOp oEq (eVar 3) (eC (.int 1)))) (sRet (eTup (eCons (eC (.str "split")) (eCons (eOp oIx (eVar 2) (eC (.int 1))) (eCons (eLst (eCons (eVar 5) (eCons (eVar 4) eNil))) eNil))))) sNext)
  (sSeq (sIf (eT (eOp oLt (eVar 3) (eC (.int 4)))) (sRet (eTup (eCons (eC (.str "split")) (eCons (eOp oIx (eVar 2) (eC (.int 1))) (eCons (eLst (eCons (eCall (F__law_bent n) (eCons (eVar 0) (eCons (eVar 1) (eCons (eVar 4) eNil)))) (eCons (eVar 5) eNil))) eNil))))) sNext)
  (sRet (eTup (eCons (eC (.str "split")) (eCons (eOp oIx (eVar 2) (eC (.int 1))) (eCons (eLst (eCons (eVar 4) (eCons (eCall (F__law_bent n) (eCons (eVar 0) (eCons (eVar 1) (eCons (eVar 5) eNil)))) eNil))) eNil)))))))) sNext)
  (sSeq (sIf (eOr (eT (eOp oNe (eOp oIx (eVar 2) (eC (.int 0))) (eC (.str "prices")))) (eT (eOp oEq (eVar 3) (eC (.int 5))))) (sRet (eTup (eCons (eC (.str "split")) (eCons (eCall F__law_take (eCons (eVar 0) (eCons (eC (.int 7)) eNil))) (eCons (eLst (eCons (eVar 2) (eCons (eVar 2) eNil))) eNil))))) sNext)
  (sSeq (sAsg (eCB cList (eCons (eOp oIx (eVar 2) (eC (.int 1))) eNil)) (.nm 6))
  (sSeq (sIf (eT (eOp oEq (eVar 6) (eLst eNil))) (sRet (eTup (eCons (eC (.str "prices")) (eCons (eLst (eCons (eTup (eCons (eCall F__law_take (eCons (eVar 0) (eCons (eOp oIx (eVar 1) (eC (.int 0))) eNil))) (eCons (eC (.int 1)) eNil))) eNil)) eNil)))) sNext)
  (sSeq (sAsg (eCall F__law_take (eCons (eVar 0) (eCons (eCB cLen (eCons (eVar 6) eNil)) eNil))) (.nm 7))
  (sSeq (sAsg (eOp oIx (eVar 6) (eVar 7)) (.tp [8, 9]))
  (sSeq (sAsg (eLstO (eCons (eOp oAdd (eSlL (eVar 6) eNoPart (ePart (eVar 7))) (eSlL (eVar 6) (ePart (eOp oAdd (eVar 7) (eC (.int 1)))) eNoPart)) (eCons (eLst eNil) (eCons (eOp oAdd (eOp oAdd (eSlL (eVar 6) eNoPart (ePart (eVar 7))) (eLst (eCons (eTup (eCons (eVar 8) (eCons (eOp oAdd (eVar 9) (eC (.int 1))) eNil))) eNil))) (eSlL (eVar 6) (ePart (eOp oAdd (eVar 7) (eC (.int 1)))) eNoPart)) eNil)))) (.nm 10))
  (sSeq (sDrop (eBm mApp (eVar 10) (eCons (eOp oAdd (eOp oAdd (eSlL (eVar 6) eNoPart (ePart (eVar 7))) (eLst (eCons (eTup (eCons (eVar 8) (eCons (eCB cMax2 (eCons (eC (.int 1)) (eCons (eOp oSub (eVar 9) (eC (.int 1))) eNil))) eNil))) eNil))) (eSlL (eVar 6) (ePart (eOp oAdd (eVar 7) (eC (.int 1)))) eNoPart)) eNil)))
  (sRet (eTup (eCons (eC (.str "prices")) (eCons (eOp oIx (eVar 10) (eOp oMod (eVar 3) (eC (.int 4)))) eNil))))))))))))))
def r_law_L1 : ES :=
  (sSeq (sAsg (eCall (F__law_bent 12) (eCons (eVar 2) (eCons (eVar 3) (eCons (eVar 8) eNil)))) (.nm 8))
  (sSeq (sAsg (eCall F__law_told (eCons (eVar 3) (eCons (eVar 4) (eCons (eVar 8) eNil)))) (.nm 9))
  (sIf (eAnd (eT (eOp oNotN (eVar 9) (eC .non))) (eT (eOp oLt (eVar 9) (eVar 6)))) (sRet (eC (.bl false))) sNext)))
def r_law_L2 : ES :=
  (sSeq (sAsg (eCall (F__law_tree 5) (eCons (eVar 2) (eCons (eVar 3) (eCons (eVar 4) (eCons (eTup (eCons (eLst eNil) (eCons (eLst eNil) eNil))) (eCons (eC (.int 4)) eNil)))))) (.nm 8))
  (sSeq (sAsg (eCall F__law_told (eCons (eVar 3) (eCons (eVar 4) (eCons (eVar 8) eNil)))) (.nm 9))
  (sSeq (sIf (eOr (eT (eOp oIsN (eVar 9) (eC .non))) (eT (eOp oLt (eVar 9) (eVar 6)))) (sRet (eC (.bl false))) sNext)
  (sFor (iR1 (eCons (eC (.int 3)) eNil)) (.nm 10) r_law_L1))))
def r_law_L3 : ES :=
  (sSeq (sAsg (eCall F__law_begun (eCons (eVar 0) (eCons (eVar 1) eNil))) (.nm 2))
  (sSeq (sAsg (eCall F__law_ring (eCons (eVar 2) (eCons (eC (.int 7)) eNil))) (.nm 3))
  (sSeq (sAsg (eCall F__law_take (eCons (eVar 2) (eCons (eOp oIx (eLst (eCons (eC (.int 4)) (eCons (eC (.int 25)) eNil))) (eOp oDivW (eCall F__law_take (eCons (eVar 2) (eCons (eC (.int 4)) eNil))) (eC (.int 3)))) eNil))) (.nm 4))
  (sSeq (sAsg (eCall F__law_ring_choices (eCons (eVar 3) (eCons (eVar 4) eNil))) (.nm 5))
  (sSeq (sAsg (eCB cMax (eCons (eLc (iL (eVar 5)) (.nm 11) eYes (eCB cSum (eCons (eLc (iL (eVar 11)) (.nm 12) eYes (eOp oIx (eOp oIx (eOp oIx (eVar 3) (eC (.int 1))) (eVar 12)) (eC (.int 3))) [12]) eNil)) [11]) eNil)) (.nm 6))
  (sFor (iR1 (eCons (eC (.int 2)) eNil)) (.nm 7) r_law_L2))))))
def r_law : ES :=
  (sSeq (sFor (iR1 (eCons (eCB cMax2 (eCons (eC (.int 1)) (eCons (eCB cMin2 (eCons (eCB cLen (eCons (eVar 0) eNil)) (eCons (eC (.int 5)) eNil))) eNil))) eNil)) (.nm 1) r_law_L3)
  (sRet (eC (.bl true))))
theorem load_nil {n : Int} {rs : List Stretch} {m : Int} : loadOn n rs [] m = 0 := rfl
theorem d__law_ring_choices (ds : List D) (G : Gp) (Q : DK) (h : F__law_ring_choices ds G Q) : r__law_ring_choices (fin G Q) (startD 6 ds) G := by
  obtain ⟨n, rs, b, rfl, hr, h7, hb, k⟩ := h
  refine seq_gen fun W hW => ?_
  simp [startD]
  refine hW _ _ (seq_gen fun W2 hW2 => ?_)
  simp
  refine ⟨by omega, ?_⟩
  refine forW_rng (n := rs.length) (fun j s G' => ∃ (ls : List (List Nat)) (o3 o4 : Option D), s = [some (ringD n rs), some (.int b), some (.lst (ls.map fun l => .lst (nD l))), o3, o4, none] ∧ G' = G ∧ ls ≠ [] ∧ ls.length ≤ 2 ^ j ∧ ∀ l ∈ ls, LtOk n rs b j l) ?_ ?_ ⟨[[]], none, none, rfl, rfl, by simp, by simp, fun l hl => ?_⟩
  · rintro j s G' W hj ⟨ls, o3, o4, rfl, rfl, hne, hlen, hls⟩ hW
    have hl2 : ls.length ≤ 64 := Nat.le_trans hlen (Nat.pow_le_pow_right (by decide) (by omega : j ≤ 6))
    refine seq_gen fun W2 hW2 => ?_
    simp
    refine compW_all (f := fun l : List Nat => D.lst (nD (l ++ [j]))) (g := fun l : List Nat => D.lst (nD l)) True.intro ls [] (fun l hl => ⟨_, rfl, fun R r => ?_⟩) ?_
    · have := some_len (hls l hl).1
      simp
      refine ⟨Nat.le_trans (by simp [nD]; omega : _ ≤ 100) (by decide), ?_⟩
      simpa [nD] using r
    have e1 : ls.map (fun l => D.lst (nD (l ++ [j]))) = (ls.map fun l => l ++ [j]).map fun l => D.lst (nD l) := by simp
    rw [List.nil_append, e1]
    refine hW2 _ _ ?_
    simp only [sAsg, eOp, eVar, eLc, iL, List.getElem?_cons_succ, List.getElem?_cons_zero, lkL_lst]
    refine compW_ind (α := List Nat) (g := fun l => D.lst (nD l)) (fun r acc G'' => ∃ ms : List (List Nat), acc = ms.map (fun l => D.lst (nD l)) ∧ G'' = G' ∧ ms.length + r.length ≤ ls.length ∧ (∀ l ∈ ms, LtOk n rs b (j + 1) l) ∧ ∀ l ∈ r, Some (j + 1) l) (fun _ _ _ _ => trivial) ?_ ?_ _ _ _ ⟨[], rfl, rfl, by simp, by simp, fun l hl => ?_⟩
    · rintro l r acc G'' W ⟨ms, rfl, rfl, hl1, hms, hr2⟩ hW
      have sl := hr2 l List.mem_cons_self
      simp
      refine lightL_ok hr (fun i hi => by have := sl.lt i hi; omega) fun c hc => ?_
      simp at hl1
      cases c with
      | true =>
        simp
        refine hW _ _ ⟨ms ++ [l], by simp, rfl, by simp; omega, ?_, fun l hl => hr2 l (List.mem_cons_of_mem _ hl)⟩
        intro l2 hl2
        rcases List.mem_append.mp hl2 with q | q
        · exact hms l2 q
        · simp at q
          subst q
          exact ⟨sl, hc.mp rfl⟩
      | false =>
        simp
        exact hW _ _ ⟨ms, rfl, rfl, by omega, hms, fun l hl => hr2 l (List.mem_cons_of_mem _ hl)⟩
    · rintro acc G'' ⟨ms, rfl, rfl, hl1, hms, -⟩
      simp at hl1
      refine add_ok (by simp; omega) ?_
      refine hW _ _ ⟨ls ++ ms, _, _, by rw [List.map_append]; rfl, rfl, by simp [hne], ?_, ?_⟩
      · rw [List.length_append, Nat.pow_succ]
        omega
      · intro l hl
        rcases List.mem_append.mp hl with q | q
        · obtain ⟨q1, q2⟩ := hls l q
          exact ⟨⟨fun i hi => Nat.lt_succ_of_lt (q1.lt i hi), q1.up⟩, q2⟩
        · exact hms l q
    · obtain ⟨l2, hl2, rfl⟩ := List.mem_map.mp hl
      obtain ⟨q1, q2⟩ := hls l2 hl2
      refine ⟨fun i hi => ?_, ?_⟩
      · rcases List.mem_append.mp hi with q | q
        · have := q1.lt i q; omega
        · simp at q; omega
      · rw [List.pairwise_append]
        refine ⟨q1.up, by simp, fun i hi x hx => ?_⟩
        simp at hx
        have := q1.lt i hi
        omega
  · rintro s G' ⟨ls, o3, o4, rfl, rfl, hne, hlen, hls⟩
    refine hW2 _ _ ?_
    simp
    exact fin_id (k ls hne hls)
  · simp at hl
    subst hl
    exact ⟨⟨by simp, by simp⟩, fun m _ _ => by rw [load_nil]; omega⟩
theorem show_t {t : Tr} {n : Int} (pap : t.pap n) (sm : t.small) (hd : t.dep ≤ 15) (hs : t.size ≤ 600) : ∃ z : Str, Asc z ∧ ∀ (G : Gp) (Q : DK), Q (.str z) G → cStrX [t.d] G Q :=
  show_gen (q := t.py) (n := 13000 * t.size) (fun G => Tr.toPx t) (by cases t <;> rfl) (Tr.tx t pap sm) (by have := t.shp.d; omega) (by omega)
theorem d__law_told (ds : List D) (G : Gp) (Q : DK) (h : F__law_told ds G Q) : r__law_told (fin G Q) (startD 5 ds) G := by
  obtain ⟨n, rs, nb, t, rfl, hr, n0, pap, sm, dk, sz, kn, ks⟩ := h
  obtain ⟨z, az, hz⟩ := show_t pap sm dk sz
  refine seq_gen fun W hW => ?_
  (try dsimp only [sAsg, sIf, sRet, sRetN, sDrop, sNext, asg, setAll, eT, eOp, eUn, eLst, eTup, eCons, eNil, eVar, eC, eCall, eCB, eNot, eAnd, eOr, eTru, eAndT, eOrT, eNotT, eIf, ePart, eNoPart, eYes, eChain, eChain3, oI, oI0, oLt, oLe, oGt, oGe, oNeg, oSub, oMod, oMul, oDivW, eXp, eXa, eConsX, eCallX, eCallN, eLstX, eCBX, sDropX, sRetX, sAsgX, sRaise, sRaiseF, List.set_cons_zero, List.set_cons_succ, List.getElem?_cons_zero, List.getElem?_cons_succ, truD_bl, startD, List.map_cons, List.map_nil, List.cons_append, List.nil_append, List.replicate]); (try simp only [if_true, Bool.false_eq_true, if_false, decide_true, decide_false, Bool.not_true, Bool.not_false, List.length_cons, List.length_nil, sizeLine_eq, Nat.reduceAdd, Nat.reduceLeDiff, true_and, and_true, pw6, pw10, pw11, pw12, pw13, pw30, pw40, pw60, startD, List.map_cons, List.map_nil, List.cons_append, List.nil_append, List.replicate]); (try dsimp only [sAsg, sIf, sRet, sRetN, sDrop, sNext, asg, setAll, eT, eOp, eUn, eLst, eTup, eCons, eNil, eVar, eC, eCall, eCB, eNot, eAnd, eOr, eTru, eAndT, eOrT, eNotT, eIf, ePart, eNoPart, eYes, eChain, eChain3, oI, oI0, oLt, oLe, oGt, oGe, oNeg, oSub, oMod, oMul, oDivW, eXp, eXa, eConsX, eCallX, eCallN, eLstX, eCBX, sDropX, sRetX, sAsgX, sRaise, sRaiseF, List.set_cons_zero, List.set_cons_succ, List.getElem?_cons_zero, List.getElem?_cons_succ, truD_bl, startD, List.map_cons, List.map_nil, List.cons_append, List.nil_append, List.replicate])
  refine hz _ _ (hW _ _ ?_)
  refine seq_gen fun W2 hW2 => ?_
  (try dsimp only [sAsg, sIf, sRet, sRetN, sDrop, sNext, asg, setAll, eT, eOp, eUn, eLst, eTup, eCons, eNil, eVar, eC, eCall, eCB, eNot, eAnd, eOr, eTru, eAndT, eOrT, eNotT, eIf, ePart, eNoPart, eYes, eChain, eChain3, oI, oI0, oLt, oLe, oGt, oGe, oNeg, oSub, oMod, oMul, oDivW, eXp, eXa, eConsX, eCallX, eCallN, eLstX, eCBX, sDropX, sRetX, sAsgX, sRaise, sRaiseF, List.set_cons_zero, List.set_cons_succ, List.getElem?_cons_zero, List.getElem?_cons_succ, truD_bl]); (try simp only [if_true, Bool.false_eq_true, if_false, decide_true, decide_false, Bool.not_true, Bool.not_false, List.length_cons, List.length_nil, sizeLine_eq, Nat.reduceAdd, Nat.reduceLeDiff, true_and, and_true, pw6, pw10, pw11, pw12, pw13, pw30, pw40, pw60]); (try dsimp only [sAsg, sIf, sRet, sRetN, sDrop, sNext, asg, setAll, eT, eOp, eUn, eLst, eTup, eCons, eNil, eVar, eC, eCall, eCB, eNot, eAnd, eOr, eTru, eAndT, eOrT, eNotT, eIf, ePart, eNoPart, eYes, eChain, eChain3, oI, oI0, oLt, oLe, oGt, oGe, oNeg, oSub, oMod, oMul, oDivW, eXp, eXa, eConsX, eCallX, eCallN, eLstX, eCBX, sDropX, sRetX, sAsgX, sRaise, sRaiseF, List.set_cons_zero, List.set_cons_succ, List.getElem?_cons_zero, List.getElem?_cons_succ, truD_bl])
  refine hW2 _ _ ?_
  refine seq_gen fun W3 hW3 => ?_
  (try dsimp only [sAsg, sIf, sRet, sRetN, sDrop, sNext, asg, setAll, eT, eOp, eUn, eLst, eTup, eCons, eNil, eVar, eC, eCall, eCB, eNot, eAnd, eOr, eTru, eAndT, eOrT, eNotT, eIf, ePart, eNoPart, eYes, eChain, eChain3, oI, oI0, oLt, oLe, oGt, oGe, oNeg, oSub, oMod, oMul, oDivW, eXp, eXa, eConsX, eCallX, eCallN, eLstX, eCBX, sDropX, sRetX, sAsgX, sRaise, sRaiseF, List.set_cons_zero, List.set_cons_succ, List.getElem?_cons_zero, List.getElem?_cons_succ, truD_bl, sTry, quiet]); (try simp only [if_true, Bool.false_eq_true, if_false, decide_true, decide_false, Bool.not_true, Bool.not_false, List.length_cons, List.length_nil, sizeLine_eq, Nat.reduceAdd, Nat.reduceLeDiff, true_and, and_true, pw6, pw10, pw11, pw12, pw13, pw30, pw40, pw60, sTry, quiet]); (try dsimp only [sAsg, sIf, sRet, sRetN, sDrop, sNext, asg, setAll, eT, eOp, eUn, eLst, eTup, eCons, eNil, eVar, eC, eCall, eCB, eNot, eAnd, eOr, eTru, eAndT, eOrT, eNotT, eIf, ePart, eNoPart, eYes, eChain, eChain3, oI, oI0, oLt, oLe, oGt, oGe, oNeg, oSub, oMod, oMul, oDivW, eXp, eXa, eConsX, eCallX, eCallN, eLstX, eCBX, sDropX, sRetX, sAsgX, sRaise, sRaiseF, List.set_cons_zero, List.set_cons_succ, List.getElem?_cons_zero, List.getElem?_cons_succ, truD_bl, sTry, quiet])
  refine ⟨n, rs, nb, t, rfl, hr, n0, pap, by omega, fun m' s' e v hv hm => hW3 _ _ ?_, fun e w => ⟨List.mem_singleton.mpr rfl, ?_⟩⟩
  · refine seq_gen fun W4 hW4 => ?_
    (try dsimp only [sAsg, sIf, sRet, sRetN, sDrop, sNext, asg, setAll, eT, eOp, eUn, eLst, eTup, eCons, eNil, eVar, eC, eCall, eCB, eNot, eAnd, eOr, eTru, eAndT, eOrT, eNotT, eIf, ePart, eNoPart, eYes, eChain, eChain3, oI, oI0, oLt, oLe, oGt, oGe, oNeg, oSub, oMod, oMul, oDivW, eXp, eXa, eConsX, eCallX, eCallN, eLstX, eCBX, sDropX, sRetX, sAsgX, sRaise, sRaiseF, List.set_cons_zero, List.set_cons_succ, List.getElem?_cons_zero, List.getElem?_cons_succ, truD_bl]); (try simp only [if_true, Bool.false_eq_true, if_false, decide_true, decide_false, Bool.not_true, Bool.not_false, List.length_cons, List.length_nil, sizeLine_eq, Nat.reduceAdd, Nat.reduceLeDiff, true_and, and_true, pw6, pw10, pw11, pw12, pw13, pw30, pw40, pw60]); (try dsimp only [sAsg, sIf, sRet, sRetN, sDrop, sNext, asg, setAll, eT, eOp, eUn, eLst, eTup, eCons, eNil, eVar, eC, eCall, eCB, eNot, eAnd, eOr, eTru, eAndT, eOrT, eNotT, eIf, ePart, eNoPart, eYes, eChain, eChain3, oI, oI0, oLt, oLe, oGt, oGe, oNeg, oSub, oMod, oMul, oDivW, eXp, eXa, eConsX, eCallX, eCallN, eLstX, eCBX, sDropX, sRetX, sAsgX, sRaise, sRaiseF, List.set_cons_zero, List.set_cons_succ, List.getElem?_cons_zero, List.getElem?_cons_succ, truD_bl])
    refine hz _ _ (ne_ss az az ?_)
    rw [decide_eq_true rfl]
    (try dsimp only [sAsg, sIf, sRet, sRetN, sDrop, sNext, asg, setAll, eT, eOp, eUn, eLst, eTup, eCons, eNil, eVar, eC, eCall, eCB, eNot, eAnd, eOr, eTru, eAndT, eOrT, eNotT, eIf, ePart, eNoPart, eYes, eChain, eChain3, oI, oI0, oLt, oLe, oGt, oGe, oNeg, oSub, oMod, oMul, oDivW, eXp, eXa, eConsX, eCallX, eCallN, eLstX, eCBX, sDropX, sRetX, sAsgX, sRaise, sRaiseF, List.set_cons_zero, List.set_cons_succ, List.getElem?_cons_zero, List.getElem?_cons_succ, truD_bl]); (try simp only [if_true, Bool.false_eq_true, if_false, decide_true, decide_false, Bool.not_true, Bool.not_false, List.length_cons, List.length_nil, sizeLine_eq, Nat.reduceAdd, Nat.reduceLeDiff, true_and, and_true, pw6, pw10, pw11, pw12, pw13, pw30, pw40, pw60]); (try dsimp only [sAsg, sIf, sRet, sRetN, sDrop, sNext, asg, setAll, eT, eOp, eUn, eLst, eTup, eCons, eNil, eVar, eC, eCall, eCB, eNot, eAnd, eOr, eTru, eAndT, eOrT, eNotT, eIf, ePart, eNoPart, eYes, eChain, eChain3, oI, oI0, oLt, oLe, oGt, oGe, oNeg, oSub, oMod, oMul, oDivW, eXp, eXa, eConsX, eCallX, eCallN, eLstX, eCBX, sDropX, sRetX, sAsgX, sRaise, sRaiseF, List.set_cons_zero, List.set_cons_succ, List.getElem?_cons_zero, List.getElem?_cons_succ, truD_bl])
    refine hW4 _ _ ?_
    (try dsimp only [sAsg, sIf, sRet, sRetN, sDrop, sNext, asg, setAll, eT, eOp, eUn, eLst, eTup, eCons, eNil, eVar, eC, eCall, eCB, eNot, eAnd, eOr, eTru, eAndT, eOrT, eNotT, eIf, ePart, eNoPart, eYes, eChain, eChain3, oI, oI0, oLt, oLe, oGt, oGe, oNeg, oSub, oMod, oMul, oDivW, eXp, eXa, eConsX, eCallX, eCallN, eLstX, eCBX, sDropX, sRetX, sAsgX, sRaise, sRaiseF, List.set_cons_zero, List.set_cons_succ, List.getElem?_cons_zero, List.getElem?_cons_succ, truD_bl]); (try simp only [if_true, Bool.false_eq_true, if_false, decide_true, decide_false, Bool.not_true, Bool.not_false, List.length_cons, List.length_nil, sizeLine_eq, Nat.reduceAdd, Nat.reduceLeDiff, true_and, and_true, pw6, pw10, pw11, pw12, pw13, pw30, pw40, pw60]); (try dsimp only [sAsg, sIf, sRet, sRetN, sDrop, sNext, asg, setAll, eT, eOp, eUn, eLst, eTup, eCons, eNil, eVar, eC, eCall, eCB, eNot, eAnd, eOr, eTru, eAndT, eOrT, eNotT, eIf, ePart, eNoPart, eYes, eChain, eChain3, oI, oI0, oLt, oLe, oGt, oGe, oNeg, oSub, oMod, oMul, oDivW, eXp, eXa, eConsX, eCallX, eCallN, eLstX, eCBX, sDropX, sRetX, sAsgX, sRaise, sRaiseF, List.set_cons_zero, List.set_cons_succ, List.getElem?_cons_zero, List.getElem?_cons_succ, truD_bl])
    exact fin_id (ks m' s' e v hv hm)
  · rw [if_pos (show isSub "NoTree" "NoTree" = true by decide +kernel)]
    (try dsimp only [sAsg, sIf, sRet, sRetN, sDrop, sNext, asg, setAll, eT, eOp, eUn, eLst, eTup, eCons, eNil, eVar, eC, eCall, eCB, eNot, eAnd, eOr, eTru, eAndT, eOrT, eNotT, eIf, ePart, eNoPart, eYes, eChain, eChain3, oI, oI0, oLt, oLe, oGt, oGe, oNeg, oSub, oMod, oMul, oDivW, eXp, eXa, eConsX, eCallX, eCallN, eLstX, eCBX, sDropX, sRetX, sAsgX, sRaise, sRaiseF, List.set_cons_zero, List.set_cons_succ, List.getElem?_cons_zero, List.getElem?_cons_succ, truD_bl]); (try simp only [if_true, Bool.false_eq_true, if_false, decide_true, decide_false, Bool.not_true, Bool.not_false, List.length_cons, List.length_nil, sizeLine_eq, Nat.reduceAdd, Nat.reduceLeDiff, true_and, and_true, pw6, pw10, pw11, pw12, pw13, pw30, pw40, pw60]); (try dsimp only [sAsg, sIf, sRet, sRetN, sDrop, sNext, asg, setAll, eT, eOp, eUn, eLst, eTup, eCons, eNil, eVar, eC, eCall, eCB, eNot, eAnd, eOr, eTru, eAndT, eOrT, eNotT, eIf, ePart, eNoPart, eYes, eChain, eChain3, oI, oI0, oLt, oLe, oGt, oGe, oNeg, oSub, oMod, oMul, oDivW, eXp, eXa, eConsX, eCallX, eCallN, eLstX, eCBX, sDropX, sRetX, sAsgX, sRaise, sRaiseF, List.set_cons_zero, List.set_cons_succ, List.getElem?_cons_zero, List.getElem?_cons_succ, truD_bl])
    refine hW3 _ _ ?_
    refine seq_gen fun W4 hW4 => ?_
    (try dsimp only [sAsg, sIf, sRet, sRetN, sDrop, sNext, asg, setAll, eT, eOp, eUn, eLst, eTup, eCons, eNil, eVar, eC, eCall, eCB, eNot, eAnd, eOr, eTru, eAndT, eOrT, eNotT, eIf, ePart, eNoPart, eYes, eChain, eChain3, oI, oI0, oLt, oLe, oGt, oGe, oNeg, oSub, oMod, oMul, oDivW, eXp, eXa, eConsX, eCallX, eCallN, eLstX, eCBX, sDropX, sRetX, sAsgX, sRaise, sRaiseF, List.set_cons_zero, List.set_cons_succ, List.getElem?_cons_zero, List.getElem?_cons_succ, truD_bl]); (try simp only [if_true, Bool.false_eq_true, if_false, decide_true, decide_false, Bool.not_true, Bool.not_false, List.length_cons, List.length_nil, sizeLine_eq, Nat.reduceAdd, Nat.reduceLeDiff, true_and, and_true, pw6, pw10, pw11, pw12, pw13, pw30, pw40, pw60]); (try dsimp only [sAsg, sIf, sRet, sRetN, sDrop, sNext, asg, setAll, eT, eOp, eUn, eLst, eTup, eCons, eNil, eVar, eC, eCall, eCB, eNot, eAnd, eOr, eTru, eAndT, eOrT, eNotT, eIf, ePart, eNoPart, eYes, eChain, eChain3, oI, oI0, oLt, oLe, oGt, oGe, oNeg, oSub, oMod, oMul, oDivW, eXp, eXa, eConsX, eCallX, eCallN, eLstX, eCBX, sDropX, sRetX, sAsgX, sRaise, sRaiseF, List.set_cons_zero, List.set_cons_succ, List.getElem?_cons_zero, List.getElem?_cons_succ, truD_bl])
    refine hz _ _ (ne_ss az az ?_)
    rw [decide_eq_true rfl]
    (try dsimp only [sAsg, sIf, sRet, sRetN, sDrop, sNext, asg, setAll, eT, eOp, eUn, eLst, eTup, eCons, eNil, eVar, eC, eCall, eCB, eNot, eAnd, eOr, eTru, eAndT, eOrT, eNotT, eIf, ePart, eNoPart, eYes, eChain, eChain3, oI, oI0, oLt, oLe, oGt, oGe, oNeg, oSub, oMod, oMul, oDivW, eXp, eXa, eConsX, eCallX, eCallN, eLstX, eCBX, sDropX, sRetX, sAsgX, sRaise, sRaiseF, List.set_cons_zero, List.set_cons_succ, List.getElem?_cons_zero, List.getElem?_cons_succ, truD_bl]); (try simp only [if_true, Bool.false_eq_true, if_false, decide_true, decide_false, Bool.not_true, Bool.not_false, List.length_cons, List.length_nil, sizeLine_eq, Nat.reduceAdd, Nat.reduceLeDiff, true_and, and_true, pw6, pw10, pw11, pw12, pw13, pw30, pw40, pw60]); (try dsimp only [sAsg, sIf, sRet, sRetN, sDrop, sNext, asg, setAll, eT, eOp, eUn, eLst, eTup, eCons, eNil, eVar, eC, eCall, eCB, eNot, eAnd, eOr, eTru, eAndT, eOrT, eNotT, eIf, ePart, eNoPart, eYes, eChain, eChain3, oI, oI0, oLt, oLe, oGt, oGe, oNeg, oSub, oMod, oMul, oDivW, eXp, eXa, eConsX, eCallX, eCallN, eLstX, eCBX, sDropX, sRetX, sAsgX, sRaise, sRaiseF, List.set_cons_zero, List.set_cons_succ, List.getElem?_cons_zero, List.getElem?_cons_succ, truD_bl])
    refine hW4 _ _ ?_
    (try dsimp only [sAsg, sIf, sRet, sRetN, sDrop, sNext, asg, setAll, eT, eOp, eUn, eLst, eTup, eCons, eNil, eVar, eC, eCall, eCB, eNot, eAnd, eOr, eTru, eAndT, eOrT, eNotT, eIf, ePart, eNoPart, eYes, eChain, eChain3, oI, oI0, oLt, oLe, oGt, oGe, oNeg, oSub, oMod, oMul, oDivW, eXp, eXa, eConsX, eCallX, eCallN, eLstX, eCBX, sDropX, sRetX, sAsgX, sRaise, sRaiseF, List.set_cons_zero, List.set_cons_succ, List.getElem?_cons_zero, List.getElem?_cons_succ, truD_bl]); (try simp only [if_true, Bool.false_eq_true, if_false, decide_true, decide_false, Bool.not_true, Bool.not_false, List.length_cons, List.length_nil, sizeLine_eq, Nat.reduceAdd, Nat.reduceLeDiff, true_and, and_true, pw6, pw10, pw11, pw12, pw13, pw30, pw40, pw60]); (try dsimp only [sAsg, sIf, sRet, sRetN, sDrop, sNext, asg, setAll, eT, eOp, eUn, eLst, eTup, eCons, eNil, eVar, eC, eCall, eCB, eNot, eAnd, eOr, eTru, eAndT, eOrT, eNotT, eIf, ePart, eNoPart, eYes, eChain, eChain3, oI, oI0, oLt, oLe, oGt, oGe, oNeg, oSub, oMod, oMul, oDivW, eXp, eXa, eConsX, eCallX, eCallN, eLstX, eCBX, sDropX, sRetX, sAsgX, sRaise, sRaiseF, List.set_cons_zero, List.set_cons_succ, List.getElem?_cons_zero, List.getElem?_cons_succ, truD_bl])
    exact fin_id (kn e)
theorem Tr.le_mono {c e : Int} (h : c ≤ e) : ∀ {t : Tr}, t.le c → t.le e
  | .pr _, q => fun x hx => by have := q x hx; omega
  | .cr _, _ => trivial
  | .sp _ _ _, q => ⟨Tr.le_mono h q.1, Tr.le_mono h q.2⟩
theorem pok_put {pp : Paper} {j : Nat} {v : Int} (h : POk pp) (hj : j < pp.length) (v1 : 1 ≤ v) (v2 : v ≤ 10000000000000) : POk (pp.take j ++ [(pp[j].1, v)] ++ pp.drop (j + 1)) := by
  have e : (pp.take j ++ [(pp[j].1, v)] ++ pp.drop (j + 1)).map (·.1) = pp.map (·.1) := by
    rw [List.map_append, List.map_append, List.map_cons, List.map_nil]
    have : pp = pp.take j ++ [pp[j]] ++ pp.drop (j + 1) := by
      rw [List.append_assoc, List.singleton_append, List.getElem_cons_drop, List.take_append_drop]
    conv => rhs; rw [this]
    rw [List.map_append, List.map_append, List.map_cons, List.map_nil]
  have m1 : ∀ {P : Int → Prop}, (∀ x ∈ pp, P x.1) → ∀ x ∈ pp.take j ++ [(pp[j].1, v)] ++ pp.drop (j + 1), P x.1 := fun {P} q x hx => by
    have : x.1 ∈ (pp.take j ++ [(pp[j].1, v)] ++ pp.drop (j + 1)).map (·.1) := List.mem_map.mpr ⟨x, hx, rfl⟩
    rw [e] at this
    obtain ⟨y, hy, ey⟩ := List.mem_map.mp this
    rw [← ey]
    exact q y hy
  have m2 : ∀ {P : Int → Prop}, (∀ x ∈ pp, P x.2) → P v → ∀ x ∈ pp.take j ++ [(pp[j].1, v)] ++ pp.drop (j + 1), P x.2 := fun {P} q pv x hx => by
    rcases List.mem_append.mp hx with hx | hx
    · rcases List.mem_append.mp hx with hx | hx
      · exact q x (List.mem_of_mem_take hx)
      · rw [List.mem_singleton.mp hx]; exact pv
    · exact q x (List.mem_of_mem_drop hx)
  refine ⟨?_, ?_, m1 (P := fun v => -1000000000000 ≤ v) h.lo, m1 (P := fun v => v ≤ 999999999999) h.hi, m2 (P := fun v => 1 ≤ v) h.p1 v1, m2 (P := fun v => v ≤ 10000000000000) h.p2 v2⟩
  · have := congrArg List.length e
    rw [List.length_map, List.length_map] at this
    rw [this]
    exact h.len
  · have u := List.pairwise_map.mpr h.up
    rw [← e] at u
    exact List.pairwise_map.mp u
theorem pok_sub {pp p2 : Paper} (h : POk pp) (s : p2.Sublist pp) : POk p2 := ⟨Nat.le_trans s.length_le h.len, h.up.sublist s, fun x hx => h.lo x (s.subset hx), fun x hx => h.hi x (s.subset hx), fun x hx => h.p1 x (s.subset hx), fun x hx => h.p2 x (s.subset hx)⟩
theorem eq_nil_pp2 {pp : Paper} {G : Gp} {Q : DK} (q : Q (.bl pp.isEmpty) G) : oEq (.lst (pp.map qD)) (.lst []) G Q := by
  refine eq_nil_of (us := pp.map fun x => PyData.tuple [.int x.1, .int x.2]) (n := 2) (by simp [toPys_pp]) (shp_pp (n := 0) pp) ?_
  have : (pp.map fun x => PyData.tuple [.int x.1, .int x.2]).isEmpty = pp.isEmpty := by cases pp <;> rfl
  rw [this]
  exact q
theorem cut_qA {pp : Paper} {j : Nat} : cutD (pp.map qD) none (some (j : Int)) = (pp.take j).map qD := by rw [cut_take, List.map_take]
theorem cut_qB {pp : Paper} {j : Nat} : cutD (pp.map qD) (some ((j : Int) + 1)) none = (pp.drop (j + 1)).map qD := by
  rw [show (j : Int) + 1 = ((j + 1 : Nat) : Int) by omega, cut_drop, List.map_drop]
theorem d__law_bent (k : Nat) (ds : List D) (G : Gp) (Q : DK) (h : F__law_bent (k + 1) ds G Q) : r__law_bent k (fin G Q) (startD 11 ds) G := by
  obtain ⟨a, x, y, z, n, rs, t, c, rfl, hG, ok, hr, pap, sm, tl, c1, c9, dk, kq⟩ := h
  have n1 := hr.n1
  have n2 := hr.n2
  refine seq_gen fun W hW => ?_
  (try dsimp only [sAsg, sIf, sRet, sRetN, sDrop, sNext, asg, setAll, eT, eOp, eUn, eLst, eTup, eCons, eNil, eVar, eC, eCall, eCB, eNot, eAnd, eOr, eTru, eAndT, eOrT, eNotT, eIf, ePart, eNoPart, eYes, eChain, eChain3, oI, oI0, oLt, oLe, oGt, oGe, oNeg, oSub, oMod, oMul, oDivW, eXp, eXa, eConsX, eCallX, eCallN, eLstX, eCBX, sDropX, sRetX, sAsgX, sRaise, sRaiseF, List.set_cons_zero, List.set_cons_succ, List.getElem?_cons_zero, List.getElem?_cons_succ, truD_bl, startD, List.map_cons, List.map_nil, List.cons_append, List.nil_append, List.replicate]); (try simp only [if_true, Bool.false_eq_true, if_false, decide_true, decide_false, Bool.not_true, Bool.not_false, List.length_cons, List.length_nil, sizeLine_eq, Nat.reduceAdd, Nat.reduceLeDiff, true_and, and_true, pw6, pw10, pw11, pw12, pw13, pw30, pw40, pw60, startD, List.map_cons, List.map_nil, List.cons_append, List.nil_append, List.replicate]); (try dsimp only [sAsg, sIf, sRet, sRetN, sDrop, sNext, asg, setAll, eT, eOp, eUn, eLst, eTup, eCons, eNil, eVar, eC, eCall, eCB, eNot, eAnd, eOr, eTru, eAndT, eOrT, eNotT, eIf, ePart, eNoPart, eYes, eChain, eChain3, oI, oI0, oLt, oLe, oGt, oGe, oNeg, oSub, oMod, oMul, oDivW, eXp, eXa, eConsX, eCallX, eCallN, eLstX, eCBX, sDropX, sRetX, sAsgX, sRaise, sRaiseF, List.set_cons_zero, List.set_cons_succ, List.getElem?_cons_zero, List.getElem?_cons_succ, truD_bl, startD, List.map_cons, List.map_nil, List.cons_append, List.nil_append, List.replicate])
  refine take_ok hG ok (wd_of (by decide) (by decide)) fun w x y z ok w0 w1 => hW _ _ ?_
  generalize hG1 : gput G a (stO x y z) = G1
  have ga : G1 a = some (stO x y z) := by rw [← hG1, gput_same]
  have gg : ∀ x y z, gput G1 a (stO x y z) = gput G a (stO x y z) := fun x y z => by rw [← hG1, gput_gput]
  have kq1 : ∀ (t' : Tr), t'.pap n → t'.small → t'.le (c + 1) → t'.dep ≤ t.dep + 1 → Q t'.d G1 := fun t' h1 h2 h3 h4 => by
    rw [← hG1]
    exact kq t' x y z ok h1 h2 h3 h4
  have tl1 := Tr.le_mono (show c ≤ c + 1 by omega) tl
  refine seq_gen fun W2 hW2 => ?_
  (try dsimp only [sAsg, sIf, sRet, sRetN, sDrop, sNext, asg, setAll, eT, eOp, eUn, eLst, eTup, eCons, eNil, eVar, eC, eCall, eCB, eNot, eAnd, eOr, eTru, eAndT, eOrT, eNotT, eIf, ePart, eNoPart, eYes, eChain, eChain3, oI, oI0, oLt, oLe, oGt, oGe, oNeg, oSub, oMod, oMul, oDivW, eXp, eXa, eConsX, eCallX, eCallN, eLstX, eCBX, sDropX, sRetX, sAsgX, sRaise, sRaiseF, List.set_cons_zero, List.set_cons_succ, List.getElem?_cons_zero, List.getElem?_cons_succ, truD_bl]); (try simp only [if_true, Bool.false_eq_true, if_false, decide_true, decide_false, Bool.not_true, Bool.not_false, List.length_cons, List.length_nil, sizeLine_eq, Nat.reduceAdd, Nat.reduceLeDiff, true_and, and_true, pw6, pw10, pw11, pw12, pw13, pw30, pw40, pw60]); (try dsimp only [sAsg, sIf, sRet, sRetN, sDrop, sNext, asg, setAll, eT, eOp, eUn, eLst, eTup, eCons, eNil, eVar, eC, eCall, eCB, eNot, eAnd, eOr, eTru, eAndT, eOrT, eNotT, eIf, ePart, eNoPart, eYes, eChain, eChain3, oI, oI0, oLt, oLe, oGt, oGe, oNeg, oSub, oMod, oMul, oDivW, eXp, eXa, eConsX, eCallX, eCallN, eLstX, eCBX, sDropX, sRetX, sAsgX, sRaise, sRaiseF, List.set_cons_zero, List.set_cons_succ, List.getElem?_cons_zero, List.getElem?_cons_succ, truD_bl])
  refine eq_ii ?_
  by_cases cw : w = 0
  · rw [decide_eq_true cw]
    (try dsimp only [sAsg, sIf, sRet, sRetN, sDrop, sNext, asg, setAll, eT, eOp, eUn, eLst, eTup, eCons, eNil, eVar, eC, eCall, eCB, eNot, eAnd, eOr, eTru, eAndT, eOrT, eNotT, eIf, ePart, eNoPart, eYes, eChain, eChain3, oI, oI0, oLt, oLe, oGt, oGe, oNeg, oSub, oMod, oMul, oDivW, eXp, eXa, eConsX, eCallX, eCallN, eLstX, eCBX, sDropX, sRetX, sAsgX, sRaise, sRaiseF, List.set_cons_zero, List.set_cons_succ, List.getElem?_cons_zero, List.getElem?_cons_succ, truD_bl]); (try simp only [if_true, Bool.false_eq_true, if_false, decide_true, decide_false, Bool.not_true, Bool.not_false, List.length_cons, List.length_nil, sizeLine_eq, Nat.reduceAdd, Nat.reduceLeDiff, true_and, and_true, pw6, pw10, pw11, pw12, pw13, pw30, pw40, pw60]); (try dsimp only [sAsg, sIf, sRet, sRetN, sDrop, sNext, asg, setAll, eT, eOp, eUn, eLst, eTup, eCons, eNil, eVar, eC, eCall, eCB, eNot, eAnd, eOr, eTru, eAndT, eOrT, eNotT, eIf, ePart, eNoPart, eYes, eChain, eChain3, oI, oI0, oLt, oLe, oGt, oGe, oNeg, oSub, oMod, oMul, oDivW, eXp, eXa, eConsX, eCallX, eCallN, eLstX, eCBX, sDropX, sRetX, sAsgX, sRaise, sRaiseF, List.set_cons_zero, List.set_cons_succ, List.getElem?_cons_zero, List.getElem?_cons_succ, truD_bl])
    refine ixg_0 ?_
    (try dsimp only [sAsg, sIf, sRet, sRetN, sDrop, sNext, asg, setAll, eT, eOp, eUn, eLst, eTup, eCons, eNil, eVar, eC, eCall, eCB, eNot, eAnd, eOr, eTru, eAndT, eOrT, eNotT, eIf, ePart, eNoPart, eYes, eChain, eChain3, oI, oI0, oLt, oLe, oGt, oGe, oNeg, oSub, oMod, oMul, oDivW, eXp, eXa, eConsX, eCallX, eCallN, eLstX, eCBX, sDropX, sRetX, sAsgX, sRaise, sRaiseF, List.set_cons_zero, List.set_cons_succ, List.getElem?_cons_zero, List.getElem?_cons_succ, truD_bl]); (try simp only [if_true, Bool.false_eq_true, if_false, decide_true, decide_false, Bool.not_true, Bool.not_false, List.length_cons, List.length_nil, sizeLine_eq, Nat.reduceAdd, Nat.reduceLeDiff, true_and, and_true, pw6, pw10, pw11, pw12, pw13, pw30, pw40, pw60]); (try dsimp only [sAsg, sIf, sRet, sRetN, sDrop, sNext, asg, setAll, eT, eOp, eUn, eLst, eTup, eCons, eNil, eVar, eC, eCall, eCB, eNot, eAnd, eOr, eTru, eAndT, eOrT, eNotT, eIf, ePart, eNoPart, eYes, eChain, eChain3, oI, oI0, oLt, oLe, oGt, oGe, oNeg, oSub, oMod, oMul, oDivW, eXp, eXa, eConsX, eCallX, eCallN, eLstX, eCBX, sDropX, sRetX, sAsgX, sRaise, sRaiseF, List.set_cons_zero, List.set_cons_succ, List.getElem?_cons_zero, List.getElem?_cons_succ, truD_bl])
    refine take_ok ga ok (wd_of (by omega) (by omega)) fun m x y z ok m0 m1 => ?_
    rw [gg]
    (try dsimp only [sAsg, sIf, sRet, sRetN, sDrop, sNext, asg, setAll, eT, eOp, eUn, eLst, eTup, eCons, eNil, eVar, eC, eCall, eCB, eNot, eAnd, eOr, eTru, eAndT, eOrT, eNotT, eIf, ePart, eNoPart, eYes, eChain, eChain3, oI, oI0, oLt, oLe, oGt, oGe, oNeg, oSub, oMod, oMul, oDivW, eXp, eXa, eConsX, eCallX, eCallN, eLstX, eCBX, sDropX, sRetX, sAsgX, sRaise, sRaiseF, List.set_cons_zero, List.set_cons_succ, List.getElem?_cons_zero, List.getElem?_cons_succ, truD_bl]); (try simp only [if_true, Bool.false_eq_true, if_false, decide_true, decide_false, Bool.not_true, Bool.not_false, List.length_cons, List.length_nil, sizeLine_eq, Nat.reduceAdd, Nat.reduceLeDiff, true_and, and_true, pw6, pw10, pw11, pw12, pw13, pw30, pw40, pw60]); (try dsimp only [sAsg, sIf, sRet, sRetN, sDrop, sNext, asg, setAll, eT, eOp, eUn, eLst, eTup, eCons, eNil, eVar, eC, eCall, eCB, eNot, eAnd, eOr, eTru, eAndT, eOrT, eNotT, eIf, ePart, eNoPart, eYes, eChain, eChain3, oI, oI0, oLt, oLe, oGt, oGe, oNeg, oSub, oMod, oMul, oDivW, eXp, eXa, eConsX, eCallX, eCallN, eLstX, eCBX, sDropX, sRetX, sAsgX, sRaise, sRaiseF, List.set_cons_zero, List.set_cons_succ, List.getElem?_cons_zero, List.getElem?_cons_succ, truD_bl])
    exact fin_id (kq (.cr m) x y z ok trivial ⟨m0, by omega⟩ trivial (by have := t.dep1; simp only [Tr.dep]; omega))
  rw [decide_eq_false cw]
  (try dsimp only [sAsg, sIf, sRet, sRetN, sDrop, sNext, asg, setAll, eT, eOp, eUn, eLst, eTup, eCons, eNil, eVar, eC, eCall, eCB, eNot, eAnd, eOr, eTru, eAndT, eOrT, eNotT, eIf, ePart, eNoPart, eYes, eChain, eChain3, oI, oI0, oLt, oLe, oGt, oGe, oNeg, oSub, oMod, oMul, oDivW, eXp, eXa, eConsX, eCallX, eCallN, eLstX, eCBX, sDropX, sRetX, sAsgX, sRaise, sRaiseF, List.set_cons_zero, List.set_cons_succ, List.getElem?_cons_zero, List.getElem?_cons_succ, truD_bl]); (try simp only [if_true, Bool.false_eq_true, if_false, decide_true, decide_false, Bool.not_true, Bool.not_false, List.length_cons, List.length_nil, sizeLine_eq, Nat.reduceAdd, Nat.reduceLeDiff, true_and, and_true, pw6, pw10, pw11, pw12, pw13, pw30, pw40, pw60]); (try dsimp only [sAsg, sIf, sRet, sRetN, sDrop, sNext, asg, setAll, eT, eOp, eUn, eLst, eTup, eCons, eNil, eVar, eC, eCall, eCB, eNot, eAnd, eOr, eTru, eAndT, eOrT, eNotT, eIf, ePart, eNoPart, eYes, eChain, eChain3, oI, oI0, oLt, oLe, oGt, oGe, oNeg, oSub, oMod, oMul, oDivW, eXp, eXa, eConsX, eCallX, eCallN, eLstX, eCBX, sDropX, sRetX, sAsgX, sRaise, sRaiseF, List.set_cons_zero, List.set_cons_succ, List.getElem?_cons_zero, List.getElem?_cons_succ, truD_bl])
  refine hW2 _ _ ?_
  refine seq_gen fun W3 hW3 => ?_
  -- a split instead, with the tree twice
  have two : F__law_take [.ref a, .int 7] G1 fun v G2 => (fin G Q).rt (.tup [.str "split", v, .lst [t.d, t.d]]) G2 := by
    refine take_ok ga ok (wd_of (by decide) (by decide)) fun m x y z ok m0 m1 => ?_
    rw [gg]
    obtain ⟨i, rfl⟩ : ∃ i : Nat, m = (i : Int) := ⟨m.toNat, by omega⟩
    exact fin_id (kq (.sp i t t) x y z ok ⟨pap, pap⟩ ⟨by omega, sm, sm⟩ ⟨tl1, tl1⟩ (by simp only [Tr.dep]; omega))
  cases t with
  | cr m =>
    (try dsimp only [sAsg, sIf, sRet, sRetN, sDrop, sNext, asg, setAll, eT, eOp, eUn, eLst, eTup, eCons, eNil, eVar, eC, eCall, eCB, eNot, eAnd, eOr, eTru, eAndT, eOrT, eNotT, eIf, ePart, eNoPart, eYes, eChain, eChain3, oI, oI0, oLt, oLe, oGt, oGe, oNeg, oSub, oMod, oMul, oDivW, eXp, eXa, eConsX, eCallX, eCallN, eLstX, eCBX, sDropX, sRetX, sAsgX, sRaise, sRaiseF, List.set_cons_zero, List.set_cons_succ, List.getElem?_cons_zero, List.getElem?_cons_succ, truD_bl]); (try simp only [if_true, Bool.false_eq_true, if_false, decide_true, decide_false, Bool.not_true, Bool.not_false, List.length_cons, List.length_nil, sizeLine_eq, Nat.reduceAdd, Nat.reduceLeDiff, true_and, and_true, pw6, pw10, pw11, pw12, pw13, pw30, pw40, pw60]); (try dsimp only [sAsg, sIf, sRet, sRetN, sDrop, sNext, asg, setAll, eT, eOp, eUn, eLst, eTup, eCons, eNil, eVar, eC, eCall, eCB, eNot, eAnd, eOr, eTru, eAndT, eOrT, eNotT, eIf, ePart, eNoPart, eYes, eChain, eChain3, oI, oI0, oLt, oLe, oGt, oGe, oNeg, oSub, oMod, oMul, oDivW, eXp, eXa, eConsX, eCallX, eCallN, eLstX, eCBX, sDropX, sRetX, sAsgX, sRaise, sRaiseF, List.set_cons_zero, List.set_cons_succ, List.getElem?_cons_zero, List.getElem?_cons_succ, truD_bl])
    refine Tr.ix0 (eq_ss (asc_of _) (asc_of _) ?_)
    rw [decide_eq_false (show ¬ ((Tr.cr m).tag = Str.ofString "split") from (by decide +kernel : ¬ (Str.ofString "crowd" = Str.ofString "split")))]
    (try dsimp only [sAsg, sIf, sRet, sRetN, sDrop, sNext, asg, setAll, eT, eOp, eUn, eLst, eTup, eCons, eNil, eVar, eC, eCall, eCB, eNot, eAnd, eOr, eTru, eAndT, eOrT, eNotT, eIf, ePart, eNoPart, eYes, eChain, eChain3, oI, oI0, oLt, oLe, oGt, oGe, oNeg, oSub, oMod, oMul, oDivW, eXp, eXa, eConsX, eCallX, eCallN, eLstX, eCBX, sDropX, sRetX, sAsgX, sRaise, sRaiseF, List.set_cons_zero, List.set_cons_succ, List.getElem?_cons_zero, List.getElem?_cons_succ, truD_bl]); (try simp only [if_true, Bool.false_eq_true, if_false, decide_true, decide_false, Bool.not_true, Bool.not_false, List.length_cons, List.length_nil, sizeLine_eq, Nat.reduceAdd, Nat.reduceLeDiff, true_and, and_true, pw6, pw10, pw11, pw12, pw13, pw30, pw40, pw60]); (try dsimp only [sAsg, sIf, sRet, sRetN, sDrop, sNext, asg, setAll, eT, eOp, eUn, eLst, eTup, eCons, eNil, eVar, eC, eCall, eCB, eNot, eAnd, eOr, eTru, eAndT, eOrT, eNotT, eIf, ePart, eNoPart, eYes, eChain, eChain3, oI, oI0, oLt, oLe, oGt, oGe, oNeg, oSub, oMod, oMul, oDivW, eXp, eXa, eConsX, eCallX, eCallN, eLstX, eCBX, sDropX, sRetX, sAsgX, sRaise, sRaiseF, List.set_cons_zero, List.set_cons_succ, List.getElem?_cons_zero, List.getElem?_cons_succ, truD_bl])
    refine hW3 _ _ ?_
    refine seq_gen fun W4 hW4 => ?_
    (try dsimp only [sAsg, sIf, sRet, sRetN, sDrop, sNext, asg, setAll, eT, eOp, eUn, eLst, eTup, eCons, eNil, eVar, eC, eCall, eCB, eNot, eAnd, eOr, eTru, eAndT, eOrT, eNotT, eIf, ePart, eNoPart, eYes, eChain, eChain3, oI, oI0, oLt, oLe, oGt, oGe, oNeg, oSub, oMod, oMul, oDivW, eXp, eXa, eConsX, eCallX, eCallN, eLstX, eCBX, sDropX, sRetX, sAsgX, sRaise, sRaiseF, List.set_cons_zero, List.set_cons_succ, List.getElem?_cons_zero, List.getElem?_cons_succ, truD_bl]); (try simp only [if_true, Bool.false_eq_true, if_false, decide_true, decide_false, Bool.not_true, Bool.not_false, List.length_cons, List.length_nil, sizeLine_eq, Nat.reduceAdd, Nat.reduceLeDiff, true_and, and_true, pw6, pw10, pw11, pw12, pw13, pw30, pw40, pw60]); (try dsimp only [sAsg, sIf, sRet, sRetN, sDrop, sNext, asg, setAll, eT, eOp, eUn, eLst, eTup, eCons, eNil, eVar, eC, eCall, eCB, eNot, eAnd, eOr, eTru, eAndT, eOrT, eNotT, eIf, ePart, eNoPart, eYes, eChain, eChain3, oI, oI0, oLt, oLe, oGt, oGe, oNeg, oSub, oMod, oMul, oDivW, eXp, eXa, eConsX, eCallX, eCallN, eLstX, eCBX, sDropX, sRetX, sAsgX, sRaise, sRaiseF, List.set_cons_zero, List.set_cons_succ, List.getElem?_cons_zero, List.getElem?_cons_succ, truD_bl])
    refine Tr.ix0 (ne_ss (asc_of _) (asc_of _) ?_)
    rw [decide_eq_false (show ¬ ((Tr.cr m).tag = Str.ofString "prices") from (by decide +kernel : ¬ (Str.ofString "crowd" = Str.ofString "prices")))]
    (try dsimp only [sAsg, sIf, sRet, sRetN, sDrop, sNext, asg, setAll, eT, eOp, eUn, eLst, eTup, eCons, eNil, eVar, eC, eCall, eCB, eNot, eAnd, eOr, eTru, eAndT, eOrT, eNotT, eIf, ePart, eNoPart, eYes, eChain, eChain3, oI, oI0, oLt, oLe, oGt, oGe, oNeg, oSub, oMod, oMul, oDivW, eXp, eXa, eConsX, eCallX, eCallN, eLstX, eCBX, sDropX, sRetX, sAsgX, sRaise, sRaiseF, List.set_cons_zero, List.set_cons_succ, List.getElem?_cons_zero, List.getElem?_cons_succ, truD_bl]); (try simp only [if_true, Bool.false_eq_true, if_false, decide_true, decide_false, Bool.not_true, Bool.not_false, List.length_cons, List.length_nil, sizeLine_eq, Nat.reduceAdd, Nat.reduceLeDiff, true_and, and_true, pw6, pw10, pw11, pw12, pw13, pw30, pw40, pw60]); (try dsimp only [sAsg, sIf, sRet, sRetN, sDrop, sNext, asg, setAll, eT, eOp, eUn, eLst, eTup, eCons, eNil, eVar, eC, eCall, eCB, eNot, eAnd, eOr, eTru, eAndT, eOrT, eNotT, eIf, ePart, eNoPart, eYes, eChain, eChain3, oI, oI0, oLt, oLe, oGt, oGe, oNeg, oSub, oMod, oMul, oDivW, eXp, eXa, eConsX, eCallX, eCallN, eLstX, eCBX, sDropX, sRetX, sAsgX, sRaise, sRaiseF, List.set_cons_zero, List.set_cons_succ, List.getElem?_cons_zero, List.getElem?_cons_succ, truD_bl])
    exact two
  | sp i b e =>
    (try dsimp only [sAsg, sIf, sRet, sRetN, sDrop, sNext, asg, setAll, eT, eOp, eUn, eLst, eTup, eCons, eNil, eVar, eC, eCall, eCB, eNot, eAnd, eOr, eTru, eAndT, eOrT, eNotT, eIf, ePart, eNoPart, eYes, eChain, eChain3, oI, oI0, oLt, oLe, oGt, oGe, oNeg, oSub, oMod, oMul, oDivW, eXp, eXa, eConsX, eCallX, eCallN, eLstX, eCBX, sDropX, sRetX, sAsgX, sRaise, sRaiseF, List.set_cons_zero, List.set_cons_succ, List.getElem?_cons_zero, List.getElem?_cons_succ, truD_bl]); (try simp only [if_true, Bool.false_eq_true, if_false, decide_true, decide_false, Bool.not_true, Bool.not_false, List.length_cons, List.length_nil, sizeLine_eq, Nat.reduceAdd, Nat.reduceLeDiff, true_and, and_true, pw6, pw10, pw11, pw12, pw13, pw30, pw40, pw60]); (try dsimp only [sAsg, sIf, sRet, sRetN, sDrop, sNext, asg, setAll, eT, eOp, eUn, eLst, eTup, eCons, eNil, eVar, eC, eCall, eCB, eNot, eAnd, eOr, eTru, eAndT, eOrT, eNotT, eIf, ePart, eNoPart, eYes, eChain, eChain3, oI, oI0, oLt, oLe, oGt, oGe, oNeg, oSub, oMod, oMul, oDivW, eXp, eXa, eConsX, eCallX, eCallN, eLstX, eCBX, sDropX, sRetX, sAsgX, sRaise, sRaiseF, List.set_cons_zero, List.set_cons_succ, List.getElem?_cons_zero, List.getElem?_cons_succ, truD_bl])
    refine Tr.ix0 (eq_ss (asc_of _) (asc_of _) ?_)
    rw [decide_eq_true (show (Tr.sp i b e).tag = Str.ofString "split" from rfl)]
    (try dsimp only [sAsg, sIf, sRet, sRetN, sDrop, sNext, asg, setAll, eT, eOp, eUn, eLst, eTup, eCons, eNil, eVar, eC, eCall, eCB, eNot, eAnd, eOr, eTru, eAndT, eOrT, eNotT, eIf, ePart, eNoPart, eYes, eChain, eChain3, oI, oI0, oLt, oLe, oGt, oGe, oNeg, oSub, oMod, oMul, oDivW, eXp, eXa, eConsX, eCallX, eCallN, eLstX, eCBX, sDropX, sRetX, sAsgX, sRaise, sRaiseF, List.set_cons_zero, List.set_cons_succ, List.getElem?_cons_zero, List.getElem?_cons_succ, truD_bl]); (try simp only [if_true, Bool.false_eq_true, if_false, decide_true, decide_false, Bool.not_true, Bool.not_false, List.length_cons, List.length_nil, sizeLine_eq, Nat.reduceAdd, Nat.reduceLeDiff, true_and, and_true, pw6, pw10, pw11, pw12, pw13, pw30, pw40, pw60]); (try dsimp only [sAsg, sIf, sRet, sRetN, sDrop, sNext, asg, setAll, eT, eOp, eUn, eLst, eTup, eCons, eNil, eVar, eC, eCall, eCB, eNot, eAnd, eOr, eTru, eAndT, eOrT, eNotT, eIf, ePart, eNoPart, eYes, eChain, eChain3, oI, oI0, oLt, oLe, oGt, oGe, oNeg, oSub, oMod, oMul, oDivW, eXp, eXa, eConsX, eCallX, eCallN, eLstX, eCBX, sDropX, sRetX, sAsgX, sRaise, sRaiseF, List.set_cons_zero, List.set_cons_succ, List.getElem?_cons_zero, List.getElem?_cons_succ, truD_bl])
    have dA : b.dep + 1 ≤ (Tr.sp i b e).dep := by simp only [Tr.dep]; omega
    have dB : e.dep + 1 ≤ (Tr.sp i b e).dep := by simp only [Tr.dep]; omega
    have := b.dep1
    obtain ⟨k', rfl⟩ : ∃ k', k = k' + 1 := ⟨k - 1, by omega⟩
    by_cases c5 : w < 5
    · rw [decide_eq_true c5]
      (try dsimp only [sAsg, sIf, sRet, sRetN, sDrop, sNext, asg, setAll, eT, eOp, eUn, eLst, eTup, eCons, eNil, eVar, eC, eCall, eCB, eNot, eAnd, eOr, eTru, eAndT, eOrT, eNotT, eIf, ePart, eNoPart, eYes, eChain, eChain3, oI, oI0, oLt, oLe, oGt, oGe, oNeg, oSub, oMod, oMul, oDivW, eXp, eXa, eConsX, eCallX, eCallN, eLstX, eCBX, sDropX, sRetX, sAsgX, sRaise, sRaiseF, List.set_cons_zero, List.set_cons_succ, List.getElem?_cons_zero, List.getElem?_cons_succ, truD_bl, Tr.d, sAsgL]); (try simp only [if_true, Bool.false_eq_true, if_false, decide_true, decide_false, Bool.not_true, Bool.not_false, List.length_cons, List.length_nil, sizeLine_eq, Nat.reduceAdd, Nat.reduceLeDiff, true_and, and_true, pw6, pw10, pw11, pw12, pw13, pw30, pw40, pw60, Tr.d, sAsgL]); (try dsimp only [sAsg, sIf, sRet, sRetN, sDrop, sNext, asg, setAll, eT, eOp, eUn, eLst, eTup, eCons, eNil, eVar, eC, eCall, eCB, eNot, eAnd, eOr, eTru, eAndT, eOrT, eNotT, eIf, ePart, eNoPart, eYes, eChain, eChain3, oI, oI0, oLt, oLe, oGt, oGe, oNeg, oSub, oMod, oMul, oDivW, eXp, eXa, eConsX, eCallX, eCallN, eLstX, eCBX, sDropX, sRetX, sAsgX, sRaise, sRaiseF, List.set_cons_zero, List.set_cons_succ, List.getElem?_cons_zero, List.getElem?_cons_succ, truD_bl, Tr.d, sAsgL])
      refine seq_gen fun W4 hW4 => ?_
      (try dsimp only [sAsg, sIf, sRet, sRetN, sDrop, sNext, asg, setAll, eT, eOp, eUn, eLst, eTup, eCons, eNil, eVar, eC, eCall, eCB, eNot, eAnd, eOr, eTru, eAndT, eOrT, eNotT, eIf, ePart, eNoPart, eYes, eChain, eChain3, oI, oI0, oLt, oLe, oGt, oGe, oNeg, oSub, oMod, oMul, oDivW, eXp, eXa, eConsX, eCallX, eCallN, eLstX, eCBX, sDropX, sRetX, sAsgX, sRaise, sRaiseF, List.set_cons_zero, List.set_cons_succ, List.getElem?_cons_zero, List.getElem?_cons_succ, truD_bl, sAsgL]); (try simp only [if_true, Bool.false_eq_true, if_false, decide_true, decide_false, Bool.not_true, Bool.not_false, List.length_cons, List.length_nil, sizeLine_eq, Nat.reduceAdd, Nat.reduceLeDiff, true_and, and_true, pw6, pw10, pw11, pw12, pw13, pw30, pw40, pw60, sAsgL]); (try dsimp only [sAsg, sIf, sRet, sRetN, sDrop, sNext, asg, setAll, eT, eOp, eUn, eLst, eTup, eCons, eNil, eVar, eC, eCall, eCB, eNot, eAnd, eOr, eTru, eAndT, eOrT, eNotT, eIf, ePart, eNoPart, eYes, eChain, eChain3, oI, oI0, oLt, oLe, oGt, oGe, oNeg, oSub, oMod, oMul, oDivW, eXp, eXa, eConsX, eCallX, eCallN, eLstX, eCBX, sDropX, sRetX, sAsgX, sRaise, sRaiseF, List.set_cons_zero, List.set_cons_succ, List.getElem?_cons_zero, List.getElem?_cons_succ, truD_bl, sAsgL])
      refine ixt_0 (d := .lst [b.d, e.d]) rfl ?_
      (try dsimp only [sAsg, sIf, sRet, sRetN, sDrop, sNext, asg, setAll, eT, eOp, eUn, eLst, eTup, eCons, eNil, eVar, eC, eCall, eCB, eNot, eAnd, eOr, eTru, eAndT, eOrT, eNotT, eIf, ePart, eNoPart, eYes, eChain, eChain3, oI, oI0, oLt, oLe, oGt, oGe, oNeg, oSub, oMod, oMul, oDivW, eXp, eXa, eConsX, eCallX, eCallN, eLstX, eCBX, sDropX, sRetX, sAsgX, sRaise, sRaiseF, List.set_cons_zero, List.set_cons_succ, List.getElem?_cons_zero, List.getElem?_cons_succ, truD_bl, lkL_lst]); (try simp only [if_true, Bool.false_eq_true, if_false, decide_true, decide_false, Bool.not_true, Bool.not_false, List.length_cons, List.length_nil, sizeLine_eq, Nat.reduceAdd, Nat.reduceLeDiff, true_and, and_true, pw6, pw10, pw11, pw12, pw13, pw30, pw40, pw60, lkL_lst]); (try dsimp only [sAsg, sIf, sRet, sRetN, sDrop, sNext, asg, setAll, eT, eOp, eUn, eLst, eTup, eCons, eNil, eVar, eC, eCall, eCB, eNot, eAnd, eOr, eTru, eAndT, eOrT, eNotT, eIf, ePart, eNoPart, eYes, eChain, eChain3, oI, oI0, oLt, oLe, oGt, oGe, oNeg, oSub, oMod, oMul, oDivW, eXp, eXa, eConsX, eCallX, eCallN, eLstX, eCBX, sDropX, sRetX, sAsgX, sRaise, sRaiseF, List.set_cons_zero, List.set_cons_succ, List.getElem?_cons_zero, List.getElem?_cons_succ, truD_bl, lkL_lst])
      refine hW4 _ _ ?_
      refine seq_gen fun W5 hW5 => ?_
      (try dsimp only [sAsg, sIf, sRet, sRetN, sDrop, sNext, asg, setAll, eT, eOp, eUn, eLst, eTup, eCons, eNil, eVar, eC, eCall, eCB, eNot, eAnd, eOr, eTru, eAndT, eOrT, eNotT, eIf, ePart, eNoPart, eYes, eChain, eChain3, oI, oI0, oLt, oLe, oGt, oGe, oNeg, oSub, oMod, oMul, oDivW, eXp, eXa, eConsX, eCallX, eCallN, eLstX, eCBX, sDropX, sRetX, sAsgX, sRaise, sRaiseF, List.set_cons_zero, List.set_cons_succ, List.getElem?_cons_zero, List.getElem?_cons_succ, truD_bl]); (try simp only [if_true, Bool.false_eq_true, if_false, decide_true, decide_false, Bool.not_true, Bool.not_false, List.length_cons, List.length_nil, sizeLine_eq, Nat.reduceAdd, Nat.reduceLeDiff, true_and, and_true, pw6, pw10, pw11, pw12, pw13, pw30, pw40, pw60]); (try dsimp only [sAsg, sIf, sRet, sRetN, sDrop, sNext, asg, setAll, eT, eOp, eUn, eLst, eTup, eCons, eNil, eVar, eC, eCall, eCB, eNot, eAnd, eOr, eTru, eAndT, eOrT, eNotT, eIf, ePart, eNoPart, eYes, eChain, eChain3, oI, oI0, oLt, oLe, oGt, oGe, oNeg, oSub, oMod, oMul, oDivW, eXp, eXa, eConsX, eCallX, eCallN, eLstX, eCBX, sDropX, sRetX, sAsgX, sRaise, sRaiseF, List.set_cons_zero, List.set_cons_succ, List.getElem?_cons_zero, List.getElem?_cons_succ, truD_bl])
      refine eq_ii ?_
      by_cases d1 : w = 1
      · rw [decide_eq_true d1]
        (try dsimp only [sAsg, sIf, sRet, sRetN, sDrop, sNext, asg, setAll, eT, eOp, eUn, eLst, eTup, eCons, eNil, eVar, eC, eCall, eCB, eNot, eAnd, eOr, eTru, eAndT, eOrT, eNotT, eIf, ePart, eNoPart, eYes, eChain, eChain3, oI, oI0, oLt, oLe, oGt, oGe, oNeg, oSub, oMod, oMul, oDivW, eXp, eXa, eConsX, eCallX, eCallN, eLstX, eCBX, sDropX, sRetX, sAsgX, sRaise, sRaiseF, List.set_cons_zero, List.set_cons_succ, List.getElem?_cons_zero, List.getElem?_cons_succ, truD_bl]); (try simp only [if_true, Bool.false_eq_true, if_false, decide_true, decide_false, Bool.not_true, Bool.not_false, List.length_cons, List.length_nil, sizeLine_eq, Nat.reduceAdd, Nat.reduceLeDiff, true_and, and_true, pw6, pw10, pw11, pw12, pw13, pw30, pw40, pw60]); (try dsimp only [sAsg, sIf, sRet, sRetN, sDrop, sNext, asg, setAll, eT, eOp, eUn, eLst, eTup, eCons, eNil, eVar, eC, eCall, eCB, eNot, eAnd, eOr, eTru, eAndT, eOrT, eNotT, eIf, ePart, eNoPart, eYes, eChain, eChain3, oI, oI0, oLt, oLe, oGt, oGe, oNeg, oSub, oMod, oMul, oDivW, eXp, eXa, eConsX, eCallX, eCallN, eLstX, eCBX, sDropX, sRetX, sAsgX, sRaise, sRaiseF, List.set_cons_zero, List.set_cons_succ, List.getElem?_cons_zero, List.getElem?_cons_succ, truD_bl])
        refine ixt_0 (d := .int (i : Int)) rfl ?_
        exact fin_id (by rw [← hG1]; exact kq (.sp i e b) x y z ok ⟨pap.2, pap.1⟩ ⟨sm.1, sm.2.2, sm.2.1⟩ ⟨tl1.2, tl1.1⟩ (by simp only [Tr.dep]; omega))
      rw [decide_eq_false d1]
      (try dsimp only [sAsg, sIf, sRet, sRetN, sDrop, sNext, asg, setAll, eT, eOp, eUn, eLst, eTup, eCons, eNil, eVar, eC, eCall, eCB, eNot, eAnd, eOr, eTru, eAndT, eOrT, eNotT, eIf, ePart, eNoPart, eYes, eChain, eChain3, oI, oI0, oLt, oLe, oGt, oGe, oNeg, oSub, oMod, oMul, oDivW, eXp, eXa, eConsX, eCallX, eCallN, eLstX, eCBX, sDropX, sRetX, sAsgX, sRaise, sRaiseF, List.set_cons_zero, List.set_cons_succ, List.getElem?_cons_zero, List.getElem?_cons_succ, truD_bl]); (try simp only [if_true, Bool.false_eq_true, if_false, decide_true, decide_false, Bool.not_true, Bool.not_false, List.length_cons, List.length_nil, sizeLine_eq, Nat.reduceAdd, Nat.reduceLeDiff, true_and, and_true, pw6, pw10, pw11, pw12, pw13, pw30, pw40, pw60]); (try dsimp only [sAsg, sIf, sRet, sRetN, sDrop, sNext, asg, setAll, eT, eOp, eUn, eLst, eTup, eCons, eNil, eVar, eC, eCall, eCB, eNot, eAnd, eOr, eTru, eAndT, eOrT, eNotT, eIf, ePart, eNoPart, eYes, eChain, eChain3, oI, oI0, oLt, oLe, oGt, oGe, oNeg, oSub, oMod, oMul, oDivW, eXp, eXa, eConsX, eCallX, eCallN, eLstX, eCBX, sDropX, sRetX, sAsgX, sRaise, sRaiseF, List.set_cons_zero, List.set_cons_succ, List.getElem?_cons_zero, List.getElem?_cons_succ, truD_bl])
      refine hW5 _ _ ?_
      refine seq_gen fun W6 hW6 => ?_
      (try dsimp only [sAsg, sIf, sRet, sRetN, sDrop, sNext, asg, setAll, eT, eOp, eUn, eLst, eTup, eCons, eNil, eVar, eC, eCall, eCB, eNot, eAnd, eOr, eTru, eAndT, eOrT, eNotT, eIf, ePart, eNoPart, eYes, eChain, eChain3, oI, oI0, oLt, oLe, oGt, oGe, oNeg, oSub, oMod, oMul, oDivW, eXp, eXa, eConsX, eCallX, eCallN, eLstX, eCBX, sDropX, sRetX, sAsgX, sRaise, sRaiseF, List.set_cons_zero, List.set_cons_succ, List.getElem?_cons_zero, List.getElem?_cons_succ, truD_bl]); (try simp only [if_true, Bool.false_eq_true, if_false, decide_true, decide_false, Bool.not_true, Bool.not_false, List.length_cons, List.length_nil, sizeLine_eq, Nat.reduceAdd, Nat.reduceLeDiff, true_and, and_true, pw6, pw10, pw11, pw12, pw13, pw30, pw40, pw60]); (try dsimp only [sAsg, sIf, sRet, sRetN, sDrop, sNext, asg, setAll, eT, eOp, eUn, eLst, eTup, eCons, eNil, eVar, eC, eCall, eCB, eNot, eAnd, eOr, eTru, eAndT, eOrT, eNotT, eIf, ePart, eNoPart, eYes, eChain, eChain3, oI, oI0, oLt, oLe, oGt, oGe, oNeg, oSub, oMod, oMul, oDivW, eXp, eXa, eConsX, eCallX, eCallN, eLstX, eCBX, sDropX, sRetX, sAsgX, sRaise, sRaiseF, List.set_cons_zero, List.set_cons_succ, List.getElem?_cons_zero, List.getElem?_cons_succ, truD_bl])
      by_cases d4 : w < 4
      · rw [decide_eq_true d4]
        (try dsimp only [sAsg, sIf, sRet, sRetN, sDrop, sNext, asg, setAll, eT, eOp, eUn, eLst, eTup, eCons, eNil, eVar, eC, eCall, eCB, eNot, eAnd, eOr, eTru, eAndT, eOrT, eNotT, eIf, ePart, eNoPart, eYes, eChain, eChain3, oI, oI0, oLt, oLe, oGt, oGe, oNeg, oSub, oMod, oMul, oDivW, eXp, eXa, eConsX, eCallX, eCallN, eLstX, eCBX, sDropX, sRetX, sAsgX, sRaise, sRaiseF, List.set_cons_zero, List.set_cons_succ, List.getElem?_cons_zero, List.getElem?_cons_succ, truD_bl]); (try simp only [if_true, Bool.false_eq_true, if_false, decide_true, decide_false, Bool.not_true, Bool.not_false, List.length_cons, List.length_nil, sizeLine_eq, Nat.reduceAdd, Nat.reduceLeDiff, true_and, and_true, pw6, pw10, pw11, pw12, pw13, pw30, pw40, pw60]); (try dsimp only [sAsg, sIf, sRet, sRetN, sDrop, sNext, asg, setAll, eT, eOp, eUn, eLst, eTup, eCons, eNil, eVar, eC, eCall, eCB, eNot, eAnd, eOr, eTru, eAndT, eOrT, eNotT, eIf, ePart, eNoPart, eYes, eChain, eChain3, oI, oI0, oLt, oLe, oGt, oGe, oNeg, oSub, oMod, oMul, oDivW, eXp, eXa, eConsX, eCallX, eCallN, eLstX, eCBX, sDropX, sRetX, sAsgX, sRaise, sRaiseF, List.set_cons_zero, List.set_cons_succ, List.getElem?_cons_zero, List.getElem?_cons_succ, truD_bl])
        refine ixt_0 (d := .int (i : Int)) rfl ?_
        refine ⟨a, x, y, z, n, rs, b, c, rfl, ga, ok, hr, pap.1, sm.2.1, tl.1, c1, c9, by omega, fun t' x y z ok p' s' l' d' => ?_⟩
        rw [gg]
        (try dsimp only [sAsg, sIf, sRet, sRetN, sDrop, sNext, asg, setAll, eT, eOp, eUn, eLst, eTup, eCons, eNil, eVar, eC, eCall, eCB, eNot, eAnd, eOr, eTru, eAndT, eOrT, eNotT, eIf, ePart, eNoPart, eYes, eChain, eChain3, oI, oI0, oLt, oLe, oGt, oGe, oNeg, oSub, oMod, oMul, oDivW, eXp, eXa, eConsX, eCallX, eCallN, eLstX, eCBX, sDropX, sRetX, sAsgX, sRaise, sRaiseF, List.set_cons_zero, List.set_cons_succ, List.getElem?_cons_zero, List.getElem?_cons_succ, truD_bl]); (try simp only [if_true, Bool.false_eq_true, if_false, decide_true, decide_false, Bool.not_true, Bool.not_false, List.length_cons, List.length_nil, sizeLine_eq, Nat.reduceAdd, Nat.reduceLeDiff, true_and, and_true, pw6, pw10, pw11, pw12, pw13, pw30, pw40, pw60]); (try dsimp only [sAsg, sIf, sRet, sRetN, sDrop, sNext, asg, setAll, eT, eOp, eUn, eLst, eTup, eCons, eNil, eVar, eC, eCall, eCB, eNot, eAnd, eOr, eTru, eAndT, eOrT, eNotT, eIf, ePart, eNoPart, eYes, eChain, eChain3, oI, oI0, oLt, oLe, oGt, oGe, oNeg, oSub, oMod, oMul, oDivW, eXp, eXa, eConsX, eCallX, eCallN, eLstX, eCBX, sDropX, sRetX, sAsgX, sRaise, sRaiseF, List.set_cons_zero, List.set_cons_succ, List.getElem?_cons_zero, List.getElem?_cons_succ, truD_bl])
        exact fin_id (kq (.sp i t' e) x y z ok ⟨p', pap.2⟩ ⟨sm.1, s', sm.2.2⟩ ⟨l', tl1.2⟩ (by simp only [Tr.dep] at *; omega))
      · rw [decide_eq_false d4]
        (try dsimp only [sAsg, sIf, sRet, sRetN, sDrop, sNext, asg, setAll, eT, eOp, eUn, eLst, eTup, eCons, eNil, eVar, eC, eCall, eCB, eNot, eAnd, eOr, eTru, eAndT, eOrT, eNotT, eIf, ePart, eNoPart, eYes, eChain, eChain3, oI, oI0, oLt, oLe, oGt, oGe, oNeg, oSub, oMod, oMul, oDivW, eXp, eXa, eConsX, eCallX, eCallN, eLstX, eCBX, sDropX, sRetX, sAsgX, sRaise, sRaiseF, List.set_cons_zero, List.set_cons_succ, List.getElem?_cons_zero, List.getElem?_cons_succ, truD_bl]); (try simp only [if_true, Bool.false_eq_true, if_false, decide_true, decide_false, Bool.not_true, Bool.not_false, List.length_cons, List.length_nil, sizeLine_eq, Nat.reduceAdd, Nat.reduceLeDiff, true_and, and_true, pw6, pw10, pw11, pw12, pw13, pw30, pw40, pw60]); (try dsimp only [sAsg, sIf, sRet, sRetN, sDrop, sNext, asg, setAll, eT, eOp, eUn, eLst, eTup, eCons, eNil, eVar, eC, eCall, eCB, eNot, eAnd, eOr, eTru, eAndT, eOrT, eNotT, eIf, ePart, eNoPart, eYes, eChain, eChain3, oI, oI0, oLt, oLe, oGt, oGe, oNeg, oSub, oMod, oMul, oDivW, eXp, eXa, eConsX, eCallX, eCallN, eLstX, eCBX, sDropX, sRetX, sAsgX, sRaise, sRaiseF, List.set_cons_zero, List.set_cons_succ, List.getElem?_cons_zero, List.getElem?_cons_succ, truD_bl])
        refine hW6 _ _ ?_
        (try dsimp only [sAsg, sIf, sRet, sRetN, sDrop, sNext, asg, setAll, eT, eOp, eUn, eLst, eTup, eCons, eNil, eVar, eC, eCall, eCB, eNot, eAnd, eOr, eTru, eAndT, eOrT, eNotT, eIf, ePart, eNoPart, eYes, eChain, eChain3, oI, oI0, oLt, oLe, oGt, oGe, oNeg, oSub, oMod, oMul, oDivW, eXp, eXa, eConsX, eCallX, eCallN, eLstX, eCBX, sDropX, sRetX, sAsgX, sRaise, sRaiseF, List.set_cons_zero, List.set_cons_succ, List.getElem?_cons_zero, List.getElem?_cons_succ, truD_bl]); (try simp only [if_true, Bool.false_eq_true, if_false, decide_true, decide_false, Bool.not_true, Bool.not_false, List.length_cons, List.length_nil, sizeLine_eq, Nat.reduceAdd, Nat.reduceLeDiff, true_and, and_true, pw6, pw10, pw11, pw12, pw13, pw30, pw40, pw60]); (try dsimp only [sAsg, sIf, sRet, sRetN, sDrop, sNext, asg, setAll, eT, eOp, eUn, eLst, eTup, eCons, eNil, eVar, eC, eCall, eCB, eNot, eAnd, eOr, eTru, eAndT, eOrT, eNotT, eIf, ePart, eNoPart, eYes, eChain, eChain3, oI, oI0, oLt, oLe, oGt, oGe, oNeg, oSub, oMod, oMul, oDivW, eXp, eXa, eConsX, eCallX, eCallN, eLstX, eCBX, sDropX, sRetX, sAsgX, sRaise, sRaiseF, List.set_cons_zero, List.set_cons_succ, List.getElem?_cons_zero, List.getElem?_cons_succ, truD_bl])
        refine ixt_0 (d := .int (i : Int)) rfl ?_
        refine ⟨a, x, y, z, n, rs, e, c, rfl, ga, ok, hr, pap.2, sm.2.2, tl.2, c1, c9, by omega, fun t' x y z ok p' s' l' d' => ?_⟩
        rw [gg]
        (try dsimp only [sAsg, sIf, sRet, sRetN, sDrop, sNext, asg, setAll, eT, eOp, eUn, eLst, eTup, eCons, eNil, eVar, eC, eCall, eCB, eNot, eAnd, eOr, eTru, eAndT, eOrT, eNotT, eIf, ePart, eNoPart, eYes, eChain, eChain3, oI, oI0, oLt, oLe, oGt, oGe, oNeg, oSub, oMod, oMul, oDivW, eXp, eXa, eConsX, eCallX, eCallN, eLstX, eCBX, sDropX, sRetX, sAsgX, sRaise, sRaiseF, List.set_cons_zero, List.set_cons_succ, List.getElem?_cons_zero, List.getElem?_cons_succ, truD_bl]); (try simp only [if_true, Bool.false_eq_true, if_false, decide_true, decide_false, Bool.not_true, Bool.not_false, List.length_cons, List.length_nil, sizeLine_eq, Nat.reduceAdd, Nat.reduceLeDiff, true_and, and_true, pw6, pw10, pw11, pw12, pw13, pw30, pw40, pw60]); (try dsimp only [sAsg, sIf, sRet, sRetN, sDrop, sNext, asg, setAll, eT, eOp, eUn, eLst, eTup, eCons, eNil, eVar, eC, eCall, eCB, eNot, eAnd, eOr, eTru, eAndT, eOrT, eNotT, eIf, ePart, eNoPart, eYes, eChain, eChain3, oI, oI0, oLt, oLe, oGt, oGe, oNeg, oSub, oMod, oMul, oDivW, eXp, eXa, eConsX, eCallX, eCallN, eLstX, eCBX, sDropX, sRetX, sAsgX, sRaise, sRaiseF, List.set_cons_zero, List.set_cons_succ, List.getElem?_cons_zero, List.getElem?_cons_succ, truD_bl])
        exact fin_id (kq (.sp i b t') x y z ok ⟨pap.1, p'⟩ ⟨sm.1, sm.2.1, s'⟩ ⟨tl1.1, l'⟩ (by simp only [Tr.dep] at *; omega))
    · rw [decide_eq_false c5]
      (try dsimp only [sAsg, sIf, sRet, sRetN, sDrop, sNext, asg, setAll, eT, eOp, eUn, eLst, eTup, eCons, eNil, eVar, eC, eCall, eCB, eNot, eAnd, eOr, eTru, eAndT, eOrT, eNotT, eIf, ePart, eNoPart, eYes, eChain, eChain3, oI, oI0, oLt, oLe, oGt, oGe, oNeg, oSub, oMod, oMul, oDivW, eXp, eXa, eConsX, eCallX, eCallN, eLstX, eCBX, sDropX, sRetX, sAsgX, sRaise, sRaiseF, List.set_cons_zero, List.set_cons_succ, List.getElem?_cons_zero, List.getElem?_cons_succ, truD_bl]); (try simp only [if_true, Bool.false_eq_true, if_false, decide_true, decide_false, Bool.not_true, Bool.not_false, List.length_cons, List.length_nil, sizeLine_eq, Nat.reduceAdd, Nat.reduceLeDiff, true_and, and_true, pw6, pw10, pw11, pw12, pw13, pw30, pw40, pw60]); (try dsimp only [sAsg, sIf, sRet, sRetN, sDrop, sNext, asg, setAll, eT, eOp, eUn, eLst, eTup, eCons, eNil, eVar, eC, eCall, eCB, eNot, eAnd, eOr, eTru, eAndT, eOrT, eNotT, eIf, ePart, eNoPart, eYes, eChain, eChain3, oI, oI0, oLt, oLe, oGt, oGe, oNeg, oSub, oMod, oMul, oDivW, eXp, eXa, eConsX, eCallX, eCallN, eLstX, eCBX, sDropX, sRetX, sAsgX, sRaise, sRaiseF, List.set_cons_zero, List.set_cons_succ, List.getElem?_cons_zero, List.getElem?_cons_succ, truD_bl])
      refine hW3 _ _ ?_
      refine seq_gen fun W4 hW4 => ?_
      (try dsimp only [sAsg, sIf, sRet, sRetN, sDrop, sNext, asg, setAll, eT, eOp, eUn, eLst, eTup, eCons, eNil, eVar, eC, eCall, eCB, eNot, eAnd, eOr, eTru, eAndT, eOrT, eNotT, eIf, ePart, eNoPart, eYes, eChain, eChain3, oI, oI0, oLt, oLe, oGt, oGe, oNeg, oSub, oMod, oMul, oDivW, eXp, eXa, eConsX, eCallX, eCallN, eLstX, eCBX, sDropX, sRetX, sAsgX, sRaise, sRaiseF, List.set_cons_zero, List.set_cons_succ, List.getElem?_cons_zero, List.getElem?_cons_succ, truD_bl]); (try simp only [if_true, Bool.false_eq_true, if_false, decide_true, decide_false, Bool.not_true, Bool.not_false, List.length_cons, List.length_nil, sizeLine_eq, Nat.reduceAdd, Nat.reduceLeDiff, true_and, and_true, pw6, pw10, pw11, pw12, pw13, pw30, pw40, pw60]); (try dsimp only [sAsg, sIf, sRet, sRetN, sDrop, sNext, asg, setAll, eT, eOp, eUn, eLst, eTup, eCons, eNil, eVar, eC, eCall, eCB, eNot, eAnd, eOr, eTru, eAndT, eOrT, eNotT, eIf, ePart, eNoPart, eYes, eChain, eChain3, oI, oI0, oLt, oLe, oGt, oGe, oNeg, oSub, oMod, oMul, oDivW, eXp, eXa, eConsX, eCallX, eCallN, eLstX, eCBX, sDropX, sRetX, sAsgX, sRaise, sRaiseF, List.set_cons_zero, List.set_cons_succ, List.getElem?_cons_zero, List.getElem?_cons_succ, truD_bl])
      refine Tr.ix0 (ne_ss (asc_of _) (asc_of _) ?_)
      rw [decide_eq_false (show ¬ ((Tr.sp i b e).tag = Str.ofString "prices") from (by decide +kernel : ¬ (Str.ofString "split" = Str.ofString "prices")))]
      (try dsimp only [sAsg, sIf, sRet, sRetN, sDrop, sNext, asg, setAll, eT, eOp, eUn, eLst, eTup, eCons, eNil, eVar, eC, eCall, eCB, eNot, eAnd, eOr, eTru, eAndT, eOrT, eNotT, eIf, ePart, eNoPart, eYes, eChain, eChain3, oI, oI0, oLt, oLe, oGt, oGe, oNeg, oSub, oMod, oMul, oDivW, eXp, eXa, eConsX, eCallX, eCallN, eLstX, eCBX, sDropX, sRetX, sAsgX, sRaise, sRaiseF, List.set_cons_zero, List.set_cons_succ, List.getElem?_cons_zero, List.getElem?_cons_succ, truD_bl]); (try simp only [if_true, Bool.false_eq_true, if_false, decide_true, decide_false, Bool.not_true, Bool.not_false, List.length_cons, List.length_nil, sizeLine_eq, Nat.reduceAdd, Nat.reduceLeDiff, true_and, and_true, pw6, pw10, pw11, pw12, pw13, pw30, pw40, pw60]); (try dsimp only [sAsg, sIf, sRet, sRetN, sDrop, sNext, asg, setAll, eT, eOp, eUn, eLst, eTup, eCons, eNil, eVar, eC, eCall, eCB, eNot, eAnd, eOr, eTru, eAndT, eOrT, eNotT, eIf, ePart, eNoPart, eYes, eChain, eChain3, oI, oI0, oLt, oLe, oGt, oGe, oNeg, oSub, oMod, oMul, oDivW, eXp, eXa, eConsX, eCallX, eCallN, eLstX, eCBX, sDropX, sRetX, sAsgX, sRaise, sRaiseF, List.set_cons_zero, List.set_cons_succ, List.getElem?_cons_zero, List.getElem?_cons_succ, truD_bl])
      exact two
  | pr pp =>
    (try dsimp only [sAsg, sIf, sRet, sRetN, sDrop, sNext, asg, setAll, eT, eOp, eUn, eLst, eTup, eCons, eNil, eVar, eC, eCall, eCB, eNot, eAnd, eOr, eTru, eAndT, eOrT, eNotT, eIf, ePart, eNoPart, eYes, eChain, eChain3, oI, oI0, oLt, oLe, oGt, oGe, oNeg, oSub, oMod, oMul, oDivW, eXp, eXa, eConsX, eCallX, eCallN, eLstX, eCBX, sDropX, sRetX, sAsgX, sRaise, sRaiseF, List.set_cons_zero, List.set_cons_succ, List.getElem?_cons_zero, List.getElem?_cons_succ, truD_bl]); (try simp only [if_true, Bool.false_eq_true, if_false, decide_true, decide_false, Bool.not_true, Bool.not_false, List.length_cons, List.length_nil, sizeLine_eq, Nat.reduceAdd, Nat.reduceLeDiff, true_and, and_true, pw6, pw10, pw11, pw12, pw13, pw30, pw40, pw60]); (try dsimp only [sAsg, sIf, sRet, sRetN, sDrop, sNext, asg, setAll, eT, eOp, eUn, eLst, eTup, eCons, eNil, eVar, eC, eCall, eCB, eNot, eAnd, eOr, eTru, eAndT, eOrT, eNotT, eIf, ePart, eNoPart, eYes, eChain, eChain3, oI, oI0, oLt, oLe, oGt, oGe, oNeg, oSub, oMod, oMul, oDivW, eXp, eXa, eConsX, eCallX, eCallN, eLstX, eCBX, sDropX, sRetX, sAsgX, sRaise, sRaiseF, List.set_cons_zero, List.set_cons_succ, List.getElem?_cons_zero, List.getElem?_cons_succ, truD_bl])
    refine Tr.ix0 (eq_ss (asc_of _) (asc_of _) ?_)
    rw [decide_eq_false (show ¬ ((Tr.pr pp).tag = Str.ofString "split") from (by decide +kernel : ¬ (Str.ofString "prices" = Str.ofString "split")))]
    (try dsimp only [sAsg, sIf, sRet, sRetN, sDrop, sNext, asg, setAll, eT, eOp, eUn, eLst, eTup, eCons, eNil, eVar, eC, eCall, eCB, eNot, eAnd, eOr, eTru, eAndT, eOrT, eNotT, eIf, ePart, eNoPart, eYes, eChain, eChain3, oI, oI0, oLt, oLe, oGt, oGe, oNeg, oSub, oMod, oMul, oDivW, eXp, eXa, eConsX, eCallX, eCallN, eLstX, eCBX, sDropX, sRetX, sAsgX, sRaise, sRaiseF, List.set_cons_zero, List.set_cons_succ, List.getElem?_cons_zero, List.getElem?_cons_succ, truD_bl]); (try simp only [if_true, Bool.false_eq_true, if_false, decide_true, decide_false, Bool.not_true, Bool.not_false, List.length_cons, List.length_nil, sizeLine_eq, Nat.reduceAdd, Nat.reduceLeDiff, true_and, and_true, pw6, pw10, pw11, pw12, pw13, pw30, pw40, pw60]); (try dsimp only [sAsg, sIf, sRet, sRetN, sDrop, sNext, asg, setAll, eT, eOp, eUn, eLst, eTup, eCons, eNil, eVar, eC, eCall, eCB, eNot, eAnd, eOr, eTru, eAndT, eOrT, eNotT, eIf, ePart, eNoPart, eYes, eChain, eChain3, oI, oI0, oLt, oLe, oGt, oGe, oNeg, oSub, oMod, oMul, oDivW, eXp, eXa, eConsX, eCallX, eCallN, eLstX, eCBX, sDropX, sRetX, sAsgX, sRaise, sRaiseF, List.set_cons_zero, List.set_cons_succ, List.getElem?_cons_zero, List.getElem?_cons_succ, truD_bl])
    refine hW3 _ _ ?_
    obtain ⟨pk, pb⟩ := pap
    have dd : ∀ p2 : Paper, (Tr.pr p2).dep ≤ (Tr.pr pp).dep + 1 := fun p2 => by simp only [Tr.dep]; omega
    refine seq_gen fun W4 hW4 => ?_
    (try dsimp only [sAsg, sIf, sRet, sRetN, sDrop, sNext, asg, setAll, eT, eOp, eUn, eLst, eTup, eCons, eNil, eVar, eC, eCall, eCB, eNot, eAnd, eOr, eTru, eAndT, eOrT, eNotT, eIf, ePart, eNoPart, eYes, eChain, eChain3, oI, oI0, oLt, oLe, oGt, oGe, oNeg, oSub, oMod, oMul, oDivW, eXp, eXa, eConsX, eCallX, eCallN, eLstX, eCBX, sDropX, sRetX, sAsgX, sRaise, sRaiseF, List.set_cons_zero, List.set_cons_succ, List.getElem?_cons_zero, List.getElem?_cons_succ, truD_bl]); (try simp only [if_true, Bool.false_eq_true, if_false, decide_true, decide_false, Bool.not_true, Bool.not_false, List.length_cons, List.length_nil, sizeLine_eq, Nat.reduceAdd, Nat.reduceLeDiff, true_and, and_true, pw6, pw10, pw11, pw12, pw13, pw30, pw40, pw60]); (try dsimp only [sAsg, sIf, sRet, sRetN, sDrop, sNext, asg, setAll, eT, eOp, eUn, eLst, eTup, eCons, eNil, eVar, eC, eCall, eCB, eNot, eAnd, eOr, eTru, eAndT, eOrT, eNotT, eIf, ePart, eNoPart, eYes, eChain, eChain3, oI, oI0, oLt, oLe, oGt, oGe, oNeg, oSub, oMod, oMul, oDivW, eXp, eXa, eConsX, eCallX, eCallN, eLstX, eCBX, sDropX, sRetX, sAsgX, sRaise, sRaiseF, List.set_cons_zero, List.set_cons_succ, List.getElem?_cons_zero, List.getElem?_cons_succ, truD_bl])
    refine Tr.ix0 (ne_ss (asc_of _) (asc_of _) ?_)
    rw [decide_eq_true (show (Tr.pr pp).tag = Str.ofString "prices" from rfl)]
    (try dsimp only [sAsg, sIf, sRet, sRetN, sDrop, sNext, asg, setAll, eT, eOp, eUn, eLst, eTup, eCons, eNil, eVar, eC, eCall, eCB, eNot, eAnd, eOr, eTru, eAndT, eOrT, eNotT, eIf, ePart, eNoPart, eYes, eChain, eChain3, oI, oI0, oLt, oLe, oGt, oGe, oNeg, oSub, oMod, oMul, oDivW, eXp, eXa, eConsX, eCallX, eCallN, eLstX, eCBX, sDropX, sRetX, sAsgX, sRaise, sRaiseF, List.set_cons_zero, List.set_cons_succ, List.getElem?_cons_zero, List.getElem?_cons_succ, truD_bl]); (try simp only [if_true, Bool.false_eq_true, if_false, decide_true, decide_false, Bool.not_true, Bool.not_false, List.length_cons, List.length_nil, sizeLine_eq, Nat.reduceAdd, Nat.reduceLeDiff, true_and, and_true, pw6, pw10, pw11, pw12, pw13, pw30, pw40, pw60]); (try dsimp only [sAsg, sIf, sRet, sRetN, sDrop, sNext, asg, setAll, eT, eOp, eUn, eLst, eTup, eCons, eNil, eVar, eC, eCall, eCB, eNot, eAnd, eOr, eTru, eAndT, eOrT, eNotT, eIf, ePart, eNoPart, eYes, eChain, eChain3, oI, oI0, oLt, oLe, oGt, oGe, oNeg, oSub, oMod, oMul, oDivW, eXp, eXa, eConsX, eCallX, eCallN, eLstX, eCBX, sDropX, sRetX, sAsgX, sRaise, sRaiseF, List.set_cons_zero, List.set_cons_succ, List.getElem?_cons_zero, List.getElem?_cons_succ, truD_bl])
    refine eq_ii ?_
    by_cases c5 : w = 5
    · rw [decide_eq_true c5]
      (try dsimp only [sAsg, sIf, sRet, sRetN, sDrop, sNext, asg, setAll, eT, eOp, eUn, eLst, eTup, eCons, eNil, eVar, eC, eCall, eCB, eNot, eAnd, eOr, eTru, eAndT, eOrT, eNotT, eIf, ePart, eNoPart, eYes, eChain, eChain3, oI, oI0, oLt, oLe, oGt, oGe, oNeg, oSub, oMod, oMul, oDivW, eXp, eXa, eConsX, eCallX, eCallN, eLstX, eCBX, sDropX, sRetX, sAsgX, sRaise, sRaiseF, List.set_cons_zero, List.set_cons_succ, List.getElem?_cons_zero, List.getElem?_cons_succ, truD_bl]); (try simp only [if_true, Bool.false_eq_true, if_false, decide_true, decide_false, Bool.not_true, Bool.not_false, List.length_cons, List.length_nil, sizeLine_eq, Nat.reduceAdd, Nat.reduceLeDiff, true_and, and_true, pw6, pw10, pw11, pw12, pw13, pw30, pw40, pw60]); (try dsimp only [sAsg, sIf, sRet, sRetN, sDrop, sNext, asg, setAll, eT, eOp, eUn, eLst, eTup, eCons, eNil, eVar, eC, eCall, eCB, eNot, eAnd, eOr, eTru, eAndT, eOrT, eNotT, eIf, ePart, eNoPart, eYes, eChain, eChain3, oI, oI0, oLt, oLe, oGt, oGe, oNeg, oSub, oMod, oMul, oDivW, eXp, eXa, eConsX, eCallX, eCallN, eLstX, eCBX, sDropX, sRetX, sAsgX, sRaise, sRaiseF, List.set_cons_zero, List.set_cons_succ, List.getElem?_cons_zero, List.getElem?_cons_succ, truD_bl])
      exact two
    rw [decide_eq_false c5]
    (try dsimp only [sAsg, sIf, sRet, sRetN, sDrop, sNext, asg, setAll, eT, eOp, eUn, eLst, eTup, eCons, eNil, eVar, eC, eCall, eCB, eNot, eAnd, eOr, eTru, eAndT, eOrT, eNotT, eIf, ePart, eNoPart, eYes, eChain, eChain3, oI, oI0, oLt, oLe, oGt, oGe, oNeg, oSub, oMod, oMul, oDivW, eXp, eXa, eConsX, eCallX, eCallN, eLstX, eCBX, sDropX, sRetX, sAsgX, sRaise, sRaiseF, List.set_cons_zero, List.set_cons_succ, List.getElem?_cons_zero, List.getElem?_cons_succ, truD_bl]); (try simp only [if_true, Bool.false_eq_true, if_false, decide_true, decide_false, Bool.not_true, Bool.not_false, List.length_cons, List.length_nil, sizeLine_eq, Nat.reduceAdd, Nat.reduceLeDiff, true_and, and_true, pw6, pw10, pw11, pw12, pw13, pw30, pw40, pw60]); (try dsimp only [sAsg, sIf, sRet, sRetN, sDrop, sNext, asg, setAll, eT, eOp, eUn, eLst, eTup, eCons, eNil, eVar, eC, eCall, eCB, eNot, eAnd, eOr, eTru, eAndT, eOrT, eNotT, eIf, ePart, eNoPart, eYes, eChain, eChain3, oI, oI0, oLt, oLe, oGt, oGe, oNeg, oSub, oMod, oMul, oDivW, eXp, eXa, eConsX, eCallX, eCallN, eLstX, eCBX, sDropX, sRetX, sAsgX, sRaise, sRaiseF, List.set_cons_zero, List.set_cons_succ, List.getElem?_cons_zero, List.getElem?_cons_succ, truD_bl])
    refine hW4 _ _ ?_
    refine seq_gen fun W5 hW5 => ?_
    (try dsimp only [sAsg, sIf, sRet, sRetN, sDrop, sNext, asg, setAll, eT, eOp, eUn, eLst, eTup, eCons, eNil, eVar, eC, eCall, eCB, eNot, eAnd, eOr, eTru, eAndT, eOrT, eNotT, eIf, ePart, eNoPart, eYes, eChain, eChain3, oI, oI0, oLt, oLe, oGt, oGe, oNeg, oSub, oMod, oMul, oDivW, eXp, eXa, eConsX, eCallX, eCallN, eLstX, eCBX, sDropX, sRetX, sAsgX, sRaise, sRaiseF, List.set_cons_zero, List.set_cons_succ, List.getElem?_cons_zero, List.getElem?_cons_succ, truD_bl, Tr.d]); (try simp only [if_true, Bool.false_eq_true, if_false, decide_true, decide_false, Bool.not_true, Bool.not_false, List.length_cons, List.length_nil, sizeLine_eq, Nat.reduceAdd, Nat.reduceLeDiff, true_and, and_true, pw6, pw10, pw11, pw12, pw13, pw30, pw40, pw60, Tr.d]); (try dsimp only [sAsg, sIf, sRet, sRetN, sDrop, sNext, asg, setAll, eT, eOp, eUn, eLst, eTup, eCons, eNil, eVar, eC, eCall, eCB, eNot, eAnd, eOr, eTru, eAndT, eOrT, eNotT, eIf, ePart, eNoPart, eYes, eChain, eChain3, oI, oI0, oLt, oLe, oGt, oGe, oNeg, oSub, oMod, oMul, oDivW, eXp, eXa, eConsX, eCallX, eCallN, eLstX, eCBX, sDropX, sRetX, sAsgX, sRaise, sRaiseF, List.set_cons_zero, List.set_cons_succ, List.getElem?_cons_zero, List.getElem?_cons_succ, truD_bl, Tr.d])
    refine ixt_0 (d := .lst (pp.map qD)) rfl ?_
    (try dsimp only [sAsg, sIf, sRet, sRetN, sDrop, sNext, asg, setAll, eT, eOp, eUn, eLst, eTup, eCons, eNil, eVar, eC, eCall, eCB, eNot, eAnd, eOr, eTru, eAndT, eOrT, eNotT, eIf, ePart, eNoPart, eYes, eChain, eChain3, oI, oI0, oLt, oLe, oGt, oGe, oNeg, oSub, oMod, oMul, oDivW, eXp, eXa, eConsX, eCallX, eCallN, eLstX, eCBX, sDropX, sRetX, sAsgX, sRaise, sRaiseF, List.set_cons_zero, List.set_cons_succ, List.getElem?_cons_zero, List.getElem?_cons_succ, truD_bl, cList, lkQ_lst]); (try simp only [if_true, Bool.false_eq_true, if_false, decide_true, decide_false, Bool.not_true, Bool.not_false, List.length_cons, List.length_nil, sizeLine_eq, Nat.reduceAdd, Nat.reduceLeDiff, true_and, and_true, pw6, pw10, pw11, pw12, pw13, pw30, pw40, pw60, cList, lkQ_lst]); (try dsimp only [sAsg, sIf, sRet, sRetN, sDrop, sNext, asg, setAll, eT, eOp, eUn, eLst, eTup, eCons, eNil, eVar, eC, eCall, eCB, eNot, eAnd, eOr, eTru, eAndT, eOrT, eNotT, eIf, ePart, eNoPart, eYes, eChain, eChain3, oI, oI0, oLt, oLe, oGt, oGe, oNeg, oSub, oMod, oMul, oDivW, eXp, eXa, eConsX, eCallX, eCallN, eLstX, eCBX, sDropX, sRetX, sAsgX, sRaise, sRaiseF, List.set_cons_zero, List.set_cons_succ, List.getElem?_cons_zero, List.getElem?_cons_succ, truD_bl, cList, lkQ_lst])
    refine hW5 _ _ ?_
    refine seq_gen fun W6 hW6 => ?_
    (try dsimp only [sAsg, sIf, sRet, sRetN, sDrop, sNext, asg, setAll, eT, eOp, eUn, eLst, eTup, eCons, eNil, eVar, eC, eCall, eCB, eNot, eAnd, eOr, eTru, eAndT, eOrT, eNotT, eIf, ePart, eNoPart, eYes, eChain, eChain3, oI, oI0, oLt, oLe, oGt, oGe, oNeg, oSub, oMod, oMul, oDivW, eXp, eXa, eConsX, eCallX, eCallN, eLstX, eCBX, sDropX, sRetX, sAsgX, sRaise, sRaiseF, List.set_cons_zero, List.set_cons_succ, List.getElem?_cons_zero, List.getElem?_cons_succ, truD_bl]); (try simp only [if_true, Bool.false_eq_true, if_false, decide_true, decide_false, Bool.not_true, Bool.not_false, List.length_cons, List.length_nil, sizeLine_eq, Nat.reduceAdd, Nat.reduceLeDiff, true_and, and_true, pw6, pw10, pw11, pw12, pw13, pw30, pw40, pw60]); (try dsimp only [sAsg, sIf, sRet, sRetN, sDrop, sNext, asg, setAll, eT, eOp, eUn, eLst, eTup, eCons, eNil, eVar, eC, eCall, eCB, eNot, eAnd, eOr, eTru, eAndT, eOrT, eNotT, eIf, ePart, eNoPart, eYes, eChain, eChain3, oI, oI0, oLt, oLe, oGt, oGe, oNeg, oSub, oMod, oMul, oDivW, eXp, eXa, eConsX, eCallX, eCallN, eLstX, eCBX, sDropX, sRetX, sAsgX, sRaise, sRaiseF, List.set_cons_zero, List.set_cons_succ, List.getElem?_cons_zero, List.getElem?_cons_succ, truD_bl])
    refine eq_nil_pp2 ?_
    cases hp : pp.isEmpty with
    | true =>
      (try dsimp only [sAsg, sIf, sRet, sRetN, sDrop, sNext, asg, setAll, eT, eOp, eUn, eLst, eTup, eCons, eNil, eVar, eC, eCall, eCB, eNot, eAnd, eOr, eTru, eAndT, eOrT, eNotT, eIf, ePart, eNoPart, eYes, eChain, eChain3, oI, oI0, oLt, oLe, oGt, oGe, oNeg, oSub, oMod, oMul, oDivW, eXp, eXa, eConsX, eCallX, eCallN, eLstX, eCBX, sDropX, sRetX, sAsgX, sRaise, sRaiseF, List.set_cons_zero, List.set_cons_succ, List.getElem?_cons_zero, List.getElem?_cons_succ, truD_bl]); (try simp only [if_true, Bool.false_eq_true, if_false, decide_true, decide_false, Bool.not_true, Bool.not_false, List.length_cons, List.length_nil, sizeLine_eq, Nat.reduceAdd, Nat.reduceLeDiff, true_and, and_true, pw6, pw10, pw11, pw12, pw13, pw30, pw40, pw60]); (try dsimp only [sAsg, sIf, sRet, sRetN, sDrop, sNext, asg, setAll, eT, eOp, eUn, eLst, eTup, eCons, eNil, eVar, eC, eCall, eCB, eNot, eAnd, eOr, eTru, eAndT, eOrT, eNotT, eIf, ePart, eNoPart, eYes, eChain, eChain3, oI, oI0, oLt, oLe, oGt, oGe, oNeg, oSub, oMod, oMul, oDivW, eXp, eXa, eConsX, eCallX, eCallN, eLstX, eCBX, sDropX, sRetX, sAsgX, sRaise, sRaiseF, List.set_cons_zero, List.set_cons_succ, List.getElem?_cons_zero, List.getElem?_cons_succ, truD_bl])
      refine ixg_0 ?_
      (try dsimp only [sAsg, sIf, sRet, sRetN, sDrop, sNext, asg, setAll, eT, eOp, eUn, eLst, eTup, eCons, eNil, eVar, eC, eCall, eCB, eNot, eAnd, eOr, eTru, eAndT, eOrT, eNotT, eIf, ePart, eNoPart, eYes, eChain, eChain3, oI, oI0, oLt, oLe, oGt, oGe, oNeg, oSub, oMod, oMul, oDivW, eXp, eXa, eConsX, eCallX, eCallN, eLstX, eCBX, sDropX, sRetX, sAsgX, sRaise, sRaiseF, List.set_cons_zero, List.set_cons_succ, List.getElem?_cons_zero, List.getElem?_cons_succ, truD_bl]); (try simp only [if_true, Bool.false_eq_true, if_false, decide_true, decide_false, Bool.not_true, Bool.not_false, List.length_cons, List.length_nil, sizeLine_eq, Nat.reduceAdd, Nat.reduceLeDiff, true_and, and_true, pw6, pw10, pw11, pw12, pw13, pw30, pw40, pw60]); (try dsimp only [sAsg, sIf, sRet, sRetN, sDrop, sNext, asg, setAll, eT, eOp, eUn, eLst, eTup, eCons, eNil, eVar, eC, eCall, eCB, eNot, eAnd, eOr, eTru, eAndT, eOrT, eNotT, eIf, ePart, eNoPart, eYes, eChain, eChain3, oI, oI0, oLt, oLe, oGt, oGe, oNeg, oSub, oMod, oMul, oDivW, eXp, eXa, eConsX, eCallX, eCallN, eLstX, eCBX, sDropX, sRetX, sAsgX, sRaise, sRaiseF, List.set_cons_zero, List.set_cons_succ, List.getElem?_cons_zero, List.getElem?_cons_succ, truD_bl])
      refine take_ok ga ok (wd_of (by omega) (by omega)) fun m x y z ok m0 m1 => ?_
      rw [gg]
      (try dsimp only [sAsg, sIf, sRet, sRetN, sDrop, sNext, asg, setAll, eT, eOp, eUn, eLst, eTup, eCons, eNil, eVar, eC, eCall, eCB, eNot, eAnd, eOr, eTru, eAndT, eOrT, eNotT, eIf, ePart, eNoPart, eYes, eChain, eChain3, oI, oI0, oLt, oLe, oGt, oGe, oNeg, oSub, oMod, oMul, oDivW, eXp, eXa, eConsX, eCallX, eCallN, eLstX, eCBX, sDropX, sRetX, sAsgX, sRaise, sRaiseF, List.set_cons_zero, List.set_cons_succ, List.getElem?_cons_zero, List.getElem?_cons_succ, truD_bl]); (try simp only [if_true, Bool.false_eq_true, if_false, decide_true, decide_false, Bool.not_true, Bool.not_false, List.length_cons, List.length_nil, sizeLine_eq, Nat.reduceAdd, Nat.reduceLeDiff, true_and, and_true, pw6, pw10, pw11, pw12, pw13, pw30, pw40, pw60]); (try dsimp only [sAsg, sIf, sRet, sRetN, sDrop, sNext, asg, setAll, eT, eOp, eUn, eLst, eTup, eCons, eNil, eVar, eC, eCall, eCB, eNot, eAnd, eOr, eTru, eAndT, eOrT, eNotT, eIf, ePart, eNoPart, eYes, eChain, eChain3, oI, oI0, oLt, oLe, oGt, oGe, oNeg, oSub, oMod, oMul, oDivW, eXp, eXa, eConsX, eCallX, eCallN, eLstX, eCBX, sDropX, sRetX, sAsgX, sRaise, sRaiseF, List.set_cons_zero, List.set_cons_succ, List.getElem?_cons_zero, List.getElem?_cons_succ, truD_bl])
      refine fin_id (kq (.pr [(m, 1)]) x y z ok ⟨⟨by simp, by simp, ?_, ?_, ?_, ?_⟩, ?_⟩ trivial ?_ (dd _))
      all_goals (intro x hx; rw [List.mem_singleton.mp hx])
      · show -1000000000000 ≤ m; omega
      · show m ≤ 999999999999; omega
      · show (1 : Int) ≤ 1; decide
      · show (1 : Int) ≤ 10000000000000; decide
      · exact ⟨m0, m1⟩
      · show (1 : Int) ≤ c + 1; omega
    | false =>
      have ne : pp ≠ [] := fun e => by rw [e] at hp; cases hp
      have lp := List.length_pos_iff.mpr ne
      have l48 := pk.len
      (try dsimp only [sAsg, sIf, sRet, sRetN, sDrop, sNext, asg, setAll, eT, eOp, eUn, eLst, eTup, eCons, eNil, eVar, eC, eCall, eCB, eNot, eAnd, eOr, eTru, eAndT, eOrT, eNotT, eIf, ePart, eNoPart, eYes, eChain, eChain3, oI, oI0, oLt, oLe, oGt, oGe, oNeg, oSub, oMod, oMul, oDivW, eXp, eXa, eConsX, eCallX, eCallN, eLstX, eCBX, sDropX, sRetX, sAsgX, sRaise, sRaiseF, List.set_cons_zero, List.set_cons_succ, List.getElem?_cons_zero, List.getElem?_cons_succ, truD_bl]); (try simp only [if_true, Bool.false_eq_true, if_false, decide_true, decide_false, Bool.not_true, Bool.not_false, List.length_cons, List.length_nil, sizeLine_eq, Nat.reduceAdd, Nat.reduceLeDiff, true_and, and_true, pw6, pw10, pw11, pw12, pw13, pw30, pw40, pw60]); (try dsimp only [sAsg, sIf, sRet, sRetN, sDrop, sNext, asg, setAll, eT, eOp, eUn, eLst, eTup, eCons, eNil, eVar, eC, eCall, eCB, eNot, eAnd, eOr, eTru, eAndT, eOrT, eNotT, eIf, ePart, eNoPart, eYes, eChain, eChain3, oI, oI0, oLt, oLe, oGt, oGe, oNeg, oSub, oMod, oMul, oDivW, eXp, eXa, eConsX, eCallX, eCallN, eLstX, eCBX, sDropX, sRetX, sAsgX, sRaise, sRaiseF, List.set_cons_zero, List.set_cons_succ, List.getElem?_cons_zero, List.getElem?_cons_succ, truD_bl])
      refine hW6 _ _ ?_
      refine seq_gen fun W7 hW7 => ?_
      (try dsimp only [sAsg, sIf, sRet, sRetN, sDrop, sNext, asg, setAll, eT, eOp, eUn, eLst, eTup, eCons, eNil, eVar, eC, eCall, eCB, eNot, eAnd, eOr, eTru, eAndT, eOrT, eNotT, eIf, ePart, eNoPart, eYes, eChain, eChain3, oI, oI0, oLt, oLe, oGt, oGe, oNeg, oSub, oMod, oMul, oDivW, eXp, eXa, eConsX, eCallX, eCallN, eLstX, eCBX, sDropX, sRetX, sAsgX, sRaise, sRaiseF, List.set_cons_zero, List.set_cons_succ, List.getElem?_cons_zero, List.getElem?_cons_succ, truD_bl]); (try simp only [if_true, Bool.false_eq_true, if_false, decide_true, decide_false, Bool.not_true, Bool.not_false, List.length_cons, List.length_nil, sizeLine_eq, Nat.reduceAdd, Nat.reduceLeDiff, true_and, and_true, pw6, pw10, pw11, pw12, pw13, pw30, pw40, pw60]); (try dsimp only [sAsg, sIf, sRet, sRetN, sDrop, sNext, asg, setAll, eT, eOp, eUn, eLst, eTup, eCons, eNil, eVar, eC, eCall, eCB, eNot, eAnd, eOr, eTru, eAndT, eOrT, eNotT, eIf, ePart, eNoPart, eYes, eChain, eChain3, oI, oI0, oLt, oLe, oGt, oGe, oNeg, oSub, oMod, oMul, oDivW, eXp, eXa, eConsX, eCallX, eCallN, eLstX, eCBX, sDropX, sRetX, sAsgX, sRaise, sRaiseF, List.set_cons_zero, List.set_cons_succ, List.getElem?_cons_zero, List.getElem?_cons_succ, truD_bl])
      refine len_lst ?_
      rw [List.length_map]
      refine take_ok ga ok (wd_of (by omega) (by omega)) fun j x y z ok j0 j1 => hW7 _ _ ?_
      rw [gg]
      obtain ⟨j, rfl⟩ : ∃ i : Nat, j = (i : Int) := ⟨j.toNat, by omega⟩
      have hj : j < pp.length := by omega
      have aj : atI (pp.map qD) (j : Int) = some (qD pp[j]) := atI_nat (by rw [List.getElem?_map, List.getElem?_eq_getElem hj]; rfl)
      have pj := List.getElem_mem hj
      have v1 := pk.p1 _ pj
      have vl := tl _ pj
      refine seq_gen fun W8 hW8 => ?_
      (try dsimp only [sAsg, sIf, sRet, sRetN, sDrop, sNext, asg, setAll, eT, eOp, eUn, eLst, eTup, eCons, eNil, eVar, eC, eCall, eCB, eNot, eAnd, eOr, eTru, eAndT, eOrT, eNotT, eIf, ePart, eNoPart, eYes, eChain, eChain3, oI, oI0, oLt, oLe, oGt, oGe, oNeg, oSub, oMod, oMul, oDivW, eXp, eXa, eConsX, eCallX, eCallN, eLstX, eCBX, sDropX, sRetX, sAsgX, sRaise, sRaiseF, List.set_cons_zero, List.set_cons_succ, List.getElem?_cons_zero, List.getElem?_cons_succ, truD_bl]); (try simp only [if_true, Bool.false_eq_true, if_false, decide_true, decide_false, Bool.not_true, Bool.not_false, List.length_cons, List.length_nil, sizeLine_eq, Nat.reduceAdd, Nat.reduceLeDiff, true_and, and_true, pw6, pw10, pw11, pw12, pw13, pw30, pw40, pw60]); (try dsimp only [sAsg, sIf, sRet, sRetN, sDrop, sNext, asg, setAll, eT, eOp, eUn, eLst, eTup, eCons, eNil, eVar, eC, eCall, eCB, eNot, eAnd, eOr, eTru, eAndT, eOrT, eNotT, eIf, ePart, eNoPart, eYes, eChain, eChain3, oI, oI0, oLt, oLe, oGt, oGe, oNeg, oSub, oMod, oMul, oDivW, eXp, eXa, eConsX, eCallX, eCallN, eLstX, eCBX, sDropX, sRetX, sAsgX, sRaise, sRaiseF, List.set_cons_zero, List.set_cons_succ, List.getElem?_cons_zero, List.getElem?_cons_succ, truD_bl])
      refine ix_at aj ?_
      (try dsimp only [sAsg, sIf, sRet, sRetN, sDrop, sNext, asg, setAll, eT, eOp, eUn, eLst, eTup, eCons, eNil, eVar, eC, eCall, eCB, eNot, eAnd, eOr, eTru, eAndT, eOrT, eNotT, eIf, ePart, eNoPart, eYes, eChain, eChain3, oI, oI0, oLt, oLe, oGt, oGe, oNeg, oSub, oMod, oMul, oDivW, eXp, eXa, eConsX, eCallX, eCallN, eLstX, eCBX, sDropX, sRetX, sAsgX, sRaise, sRaiseF, List.set_cons_zero, List.set_cons_succ, List.getElem?_cons_zero, List.getElem?_cons_succ, truD_bl, qD, lkQ_tup]); (try simp only [if_true, Bool.false_eq_true, if_false, decide_true, decide_false, Bool.not_true, Bool.not_false, List.length_cons, List.length_nil, sizeLine_eq, Nat.reduceAdd, Nat.reduceLeDiff, true_and, and_true, pw6, pw10, pw11, pw12, pw13, pw30, pw40, pw60, qD, lkQ_tup]); (try dsimp only [sAsg, sIf, sRet, sRetN, sDrop, sNext, asg, setAll, eT, eOp, eUn, eLst, eTup, eCons, eNil, eVar, eC, eCall, eCB, eNot, eAnd, eOr, eTru, eAndT, eOrT, eNotT, eIf, ePart, eNoPart, eYes, eChain, eChain3, oI, oI0, oLt, oLe, oGt, oGe, oNeg, oSub, oMod, oMul, oDivW, eXp, eXa, eConsX, eCallX, eCallN, eLstX, eCBX, sDropX, sRetX, sAsgX, sRaise, sRaiseF, List.set_cons_zero, List.set_cons_succ, List.getElem?_cons_zero, List.getElem?_cons_succ, truD_bl, qD, lkQ_tup])
      refine hW8 _ _ ?_
      have eq : D.tup [.int pp[j].1, .int pp[j].2] = qD pp[j] := rfl
      refine seq_gen fun W9 hW9 => ?_
      (try dsimp only [sAsg, sIf, sRet, sRetN, sDrop, sNext, asg, setAll, eT, eOp, eUn, eLst, eTup, eCons, eNil, eVar, eC, eCall, eCB, eNot, eAnd, eOr, eTru, eAndT, eOrT, eNotT, eIf, ePart, eNoPart, eYes, eChain, eChain3, oI, oI0, oLt, oLe, oGt, oGe, oNeg, oSub, oMod, oMul, oDivW, eXp, eXa, eConsX, eCallX, eCallN, eLstX, eCBX, sDropX, sRetX, sAsgX, sRaise, sRaiseF, List.set_cons_zero, List.set_cons_succ, List.getElem?_cons_zero, List.getElem?_cons_succ, truD_bl, eLstO, eSlL, lkL_lst]); (try simp only [if_true, Bool.false_eq_true, if_false, decide_true, decide_false, Bool.not_true, Bool.not_false, List.length_cons, List.length_nil, sizeLine_eq, Nat.reduceAdd, Nat.reduceLeDiff, true_and, and_true, pw6, pw10, pw11, pw12, pw13, pw30, pw40, pw60, eLstO, eSlL, lkL_lst]); (try dsimp only [sAsg, sIf, sRet, sRetN, sDrop, sNext, asg, setAll, eT, eOp, eUn, eLst, eTup, eCons, eNil, eVar, eC, eCall, eCB, eNot, eAnd, eOr, eTru, eAndT, eOrT, eNotT, eIf, ePart, eNoPart, eYes, eChain, eChain3, oI, oI0, oLt, oLe, oGt, oGe, oNeg, oSub, oMod, oMul, oDivW, eXp, eXa, eConsX, eCallX, eCallN, eLstX, eCBX, sDropX, sRetX, sAsgX, sRaise, sRaiseF, List.set_cons_zero, List.set_cons_succ, List.getElem?_cons_zero, List.getElem?_cons_succ, truD_bl, eLstO, eSlL, lkL_lst])
      simp only [cut_qA, cut_qB]
      have ll : (pp.take j).length + 1 + (pp.drop (j + 1)).length = pp.length := by simp; omega
      have sumI : ∀ {Q : DK} {G : Gp}, Q (.int ((j : Int) + 1)) G → oAdd (.int (j : Int)) (.int 1) G Q := fun q => add_ii q
      refine sumI ?_
      (try dsimp only [sAsg, sIf, sRet, sRetN, sDrop, sNext, asg, setAll, eT, eOp, eUn, eLst, eTup, eCons, eNil, eVar, eC, eCall, eCB, eNot, eAnd, eOr, eTru, eAndT, eOrT, eNotT, eIf, ePart, eNoPart, eYes, eChain, eChain3, oI, oI0, oLt, oLe, oGt, oGe, oNeg, oSub, oMod, oMul, oDivW, eXp, eXa, eConsX, eCallX, eCallN, eLstX, eCBX, sDropX, sRetX, sAsgX, sRaise, sRaiseF, List.set_cons_zero, List.set_cons_succ, List.getElem?_cons_zero, List.getElem?_cons_succ, truD_bl, lkL_lst]); (try simp only [if_true, Bool.false_eq_true, if_false, decide_true, decide_false, Bool.not_true, Bool.not_false, List.length_cons, List.length_nil, sizeLine_eq, Nat.reduceAdd, Nat.reduceLeDiff, true_and, and_true, pw6, pw10, pw11, pw12, pw13, pw30, pw40, pw60, lkL_lst]); (try dsimp only [sAsg, sIf, sRet, sRetN, sDrop, sNext, asg, setAll, eT, eOp, eUn, eLst, eTup, eCons, eNil, eVar, eC, eCall, eCB, eNot, eAnd, eOr, eTru, eAndT, eOrT, eNotT, eIf, ePart, eNoPart, eYes, eChain, eChain3, oI, oI0, oLt, oLe, oGt, oGe, oNeg, oSub, oMod, oMul, oDivW, eXp, eXa, eConsX, eCallX, eCallN, eLstX, eCBX, sDropX, sRetX, sAsgX, sRaise, sRaiseF, List.set_cons_zero, List.set_cons_succ, List.getElem?_cons_zero, List.getElem?_cons_succ, truD_bl, lkL_lst])
      simp only [cut_qB]
      refine add_ok (by simp; omega) ?_
      (try dsimp only [sAsg, sIf, sRet, sRetN, sDrop, sNext, asg, setAll, eT, eOp, eUn, eLst, eTup, eCons, eNil, eVar, eC, eCall, eCB, eNot, eAnd, eOr, eTru, eAndT, eOrT, eNotT, eIf, ePart, eNoPart, eYes, eChain, eChain3, oI, oI0, oLt, oLe, oGt, oGe, oNeg, oSub, oMod, oMul, oDivW, eXp, eXa, eConsX, eCallX, eCallN, eLstX, eCBX, sDropX, sRetX, sAsgX, sRaise, sRaiseF, List.set_cons_zero, List.set_cons_succ, List.getElem?_cons_zero, List.getElem?_cons_succ, truD_bl]); (try simp only [if_true, Bool.false_eq_true, if_false, decide_true, decide_false, Bool.not_true, Bool.not_false, List.length_cons, List.length_nil, sizeLine_eq, Nat.reduceAdd, Nat.reduceLeDiff, true_and, and_true, pw6, pw10, pw11, pw12, pw13, pw30, pw40, pw60]); (try dsimp only [sAsg, sIf, sRet, sRetN, sDrop, sNext, asg, setAll, eT, eOp, eUn, eLst, eTup, eCons, eNil, eVar, eC, eCall, eCB, eNot, eAnd, eOr, eTru, eAndT, eOrT, eNotT, eIf, ePart, eNoPart, eYes, eChain, eChain3, oI, oI0, oLt, oLe, oGt, oGe, oNeg, oSub, oMod, oMul, oDivW, eXp, eXa, eConsX, eCallX, eCallN, eLstX, eCBX, sDropX, sRetX, sAsgX, sRaise, sRaiseF, List.set_cons_zero, List.set_cons_succ, List.getElem?_cons_zero, List.getElem?_cons_succ, truD_bl])
      refine add_ii ?_
      (try dsimp only [sAsg, sIf, sRet, sRetN, sDrop, sNext, asg, setAll, eT, eOp, eUn, eLst, eTup, eCons, eNil, eVar, eC, eCall, eCB, eNot, eAnd, eOr, eTru, eAndT, eOrT, eNotT, eIf, ePart, eNoPart, eYes, eChain, eChain3, oI, oI0, oLt, oLe, oGt, oGe, oNeg, oSub, oMod, oMul, oDivW, eXp, eXa, eConsX, eCallX, eCallN, eLstX, eCBX, sDropX, sRetX, sAsgX, sRaise, sRaiseF, List.set_cons_zero, List.set_cons_succ, List.getElem?_cons_zero, List.getElem?_cons_succ, truD_bl]); (try simp only [if_true, Bool.false_eq_true, if_false, decide_true, decide_false, Bool.not_true, Bool.not_false, List.length_cons, List.length_nil, sizeLine_eq, Nat.reduceAdd, Nat.reduceLeDiff, true_and, and_true, pw6, pw10, pw11, pw12, pw13, pw30, pw40, pw60]); (try dsimp only [sAsg, sIf, sRet, sRetN, sDrop, sNext, asg, setAll, eT, eOp, eUn, eLst, eTup, eCons, eNil, eVar, eC, eCall, eCB, eNot, eAnd, eOr, eTru, eAndT, eOrT, eNotT, eIf, ePart, eNoPart, eYes, eChain, eChain3, oI, oI0, oLt, oLe, oGt, oGe, oNeg, oSub, oMod, oMul, oDivW, eXp, eXa, eConsX, eCallX, eCallN, eLstX, eCBX, sDropX, sRetX, sAsgX, sRaise, sRaiseF, List.set_cons_zero, List.set_cons_succ, List.getElem?_cons_zero, List.getElem?_cons_succ, truD_bl])
      refine add_ok (by simp; omega) ?_
      refine sumI ?_
      (try dsimp only [sAsg, sIf, sRet, sRetN, sDrop, sNext, asg, setAll, eT, eOp, eUn, eLst, eTup, eCons, eNil, eVar, eC, eCall, eCB, eNot, eAnd, eOr, eTru, eAndT, eOrT, eNotT, eIf, ePart, eNoPart, eYes, eChain, eChain3, oI, oI0, oLt, oLe, oGt, oGe, oNeg, oSub, oMod, oMul, oDivW, eXp, eXa, eConsX, eCallX, eCallN, eLstX, eCBX, sDropX, sRetX, sAsgX, sRaise, sRaiseF, List.set_cons_zero, List.set_cons_succ, List.getElem?_cons_zero, List.getElem?_cons_succ, truD_bl, lkL_lst]); (try simp only [if_true, Bool.false_eq_true, if_false, decide_true, decide_false, Bool.not_true, Bool.not_false, List.length_cons, List.length_nil, sizeLine_eq, Nat.reduceAdd, Nat.reduceLeDiff, true_and, and_true, pw6, pw10, pw11, pw12, pw13, pw30, pw40, pw60, lkL_lst]); (try dsimp only [sAsg, sIf, sRet, sRetN, sDrop, sNext, asg, setAll, eT, eOp, eUn, eLst, eTup, eCons, eNil, eVar, eC, eCall, eCB, eNot, eAnd, eOr, eTru, eAndT, eOrT, eNotT, eIf, ePart, eNoPart, eYes, eChain, eChain3, oI, oI0, oLt, oLe, oGt, oGe, oNeg, oSub, oMod, oMul, oDivW, eXp, eXa, eConsX, eCallX, eCallN, eLstX, eCBX, sDropX, sRetX, sAsgX, sRaise, sRaiseF, List.set_cons_zero, List.set_cons_succ, List.getElem?_cons_zero, List.getElem?_cons_succ, truD_bl, lkL_lst])
      simp only [cut_qB]
      refine add_ok (by simp; omega) ?_
      intro q hq
      refine hW9 _ _ ?_
      have qa : q ≠ a := fun e => by rw [e, gput_same] at hq; cases hq
      refine seq_gen fun WA hWA => ?_
      (try dsimp only [sAsg, sIf, sRet, sRetN, sDrop, sNext, asg, setAll, eT, eOp, eUn, eLst, eTup, eCons, eNil, eVar, eC, eCall, eCB, eNot, eAnd, eOr, eTru, eAndT, eOrT, eNotT, eIf, ePart, eNoPart, eYes, eChain, eChain3, oI, oI0, oLt, oLe, oGt, oGe, oNeg, oSub, oMod, oMul, oDivW, eXp, eXa, eConsX, eCallX, eCallN, eLstX, eCBX, sDropX, sRetX, sAsgX, sRaise, sRaiseF, List.set_cons_zero, List.set_cons_succ, List.getElem?_cons_zero, List.getElem?_cons_succ, truD_bl, eBm]); (try simp only [if_true, Bool.false_eq_true, if_false, decide_true, decide_false, Bool.not_true, Bool.not_false, List.length_cons, List.length_nil, sizeLine_eq, Nat.reduceAdd, Nat.reduceLeDiff, true_and, and_true, pw6, pw10, pw11, pw12, pw13, pw30, pw40, pw60, eBm]); (try dsimp only [sAsg, sIf, sRet, sRetN, sDrop, sNext, asg, setAll, eT, eOp, eUn, eLst, eTup, eCons, eNil, eVar, eC, eCall, eCB, eNot, eAnd, eOr, eTru, eAndT, eOrT, eNotT, eIf, ePart, eNoPart, eYes, eChain, eChain3, oI, oI0, oLt, oLe, oGt, oGe, oNeg, oSub, oMod, oMul, oDivW, eXp, eXa, eConsX, eCallX, eCallN, eLstX, eCBX, sDropX, sRetX, sAsgX, sRaise, sRaiseF, List.set_cons_zero, List.set_cons_succ, List.getElem?_cons_zero, List.getElem?_cons_succ, truD_bl, eBm])
      refine ⟨⟨_, gput_same⟩, ?_⟩
      (try dsimp only [sAsg, sIf, sRet, sRetN, sDrop, sNext, asg, setAll, eT, eOp, eUn, eLst, eTup, eCons, eNil, eVar, eC, eCall, eCB, eNot, eAnd, eOr, eTru, eAndT, eOrT, eNotT, eIf, ePart, eNoPart, eYes, eChain, eChain3, oI, oI0, oLt, oLe, oGt, oGe, oNeg, oSub, oMod, oMul, oDivW, eXp, eXa, eConsX, eCallX, eCallN, eLstX, eCBX, sDropX, sRetX, sAsgX, sRaise, sRaiseF, List.set_cons_zero, List.set_cons_succ, List.getElem?_cons_zero, List.getElem?_cons_succ, truD_bl, eSlL, lkL_lst]); (try simp only [if_true, Bool.false_eq_true, if_false, decide_true, decide_false, Bool.not_true, Bool.not_false, List.length_cons, List.length_nil, sizeLine_eq, Nat.reduceAdd, Nat.reduceLeDiff, true_and, and_true, pw6, pw10, pw11, pw12, pw13, pw30, pw40, pw60, eSlL, lkL_lst]); (try dsimp only [sAsg, sIf, sRet, sRetN, sDrop, sNext, asg, setAll, eT, eOp, eUn, eLst, eTup, eCons, eNil, eVar, eC, eCall, eCB, eNot, eAnd, eOr, eTru, eAndT, eOrT, eNotT, eIf, ePart, eNoPart, eYes, eChain, eChain3, oI, oI0, oLt, oLe, oGt, oGe, oNeg, oSub, oMod, oMul, oDivW, eXp, eXa, eConsX, eCallX, eCallN, eLstX, eCBX, sDropX, sRetX, sAsgX, sRaise, sRaiseF, List.set_cons_zero, List.set_cons_succ, List.getElem?_cons_zero, List.getElem?_cons_succ, truD_bl, eSlL, lkL_lst])
      simp only [cut_qA]
      (try dsimp only [sAsg, sIf, sRet, sRetN, sDrop, sNext, asg, setAll, eT, eOp, eUn, eLst, eTup, eCons, eNil, eVar, eC, eCall, eCB, eNot, eAnd, eOr, eTru, eAndT, eOrT, eNotT, eIf, ePart, eNoPart, eYes, eChain, eChain3, oI, oI0, oLt, oLe, oGt, oGe, oNeg, oSub, oMod, oMul, oDivW, eXp, eXa, eConsX, eCallX, eCallN, eLstX, eCBX, sDropX, sRetX, sAsgX, sRaise, sRaiseF, List.set_cons_zero, List.set_cons_succ, List.getElem?_cons_zero, List.getElem?_cons_succ, truD_bl, cMax2]); (try simp only [if_true, Bool.false_eq_true, if_false, decide_true, decide_false, Bool.not_true, Bool.not_false, List.length_cons, List.length_nil, sizeLine_eq, Nat.reduceAdd, Nat.reduceLeDiff, true_and, and_true, pw6, pw10, pw11, pw12, pw13, pw30, pw40, pw60, cMax2]); (try dsimp only [sAsg, sIf, sRet, sRetN, sDrop, sNext, asg, setAll, eT, eOp, eUn, eLst, eTup, eCons, eNil, eVar, eC, eCall, eCB, eNot, eAnd, eOr, eTru, eAndT, eOrT, eNotT, eIf, ePart, eNoPart, eYes, eChain, eChain3, oI, oI0, oLt, oLe, oGt, oGe, oNeg, oSub, oMod, oMul, oDivW, eXp, eXa, eConsX, eCallX, eCallN, eLstX, eCBX, sDropX, sRetX, sAsgX, sRaise, sRaiseF, List.set_cons_zero, List.set_cons_succ, List.getElem?_cons_zero, List.getElem?_cons_succ, truD_bl, cMax2])
      obtain ⟨v2, ev2, v21, v22⟩ : ∃ v2 : Int, v2 = (if pp[j].2 - 1 > 1 then pp[j].2 - 1 else 1) ∧ 1 ≤ v2 ∧ v2 ≤ c + 1 := by
        refine ⟨_, rfl, ?_, ?_⟩ <;> split <;> omega
      rw [← ev2]
      refine add_ok (by simp; omega) ?_
      refine sumI ?_
      (try dsimp only [sAsg, sIf, sRet, sRetN, sDrop, sNext, asg, setAll, eT, eOp, eUn, eLst, eTup, eCons, eNil, eVar, eC, eCall, eCB, eNot, eAnd, eOr, eTru, eAndT, eOrT, eNotT, eIf, ePart, eNoPart, eYes, eChain, eChain3, oI, oI0, oLt, oLe, oGt, oGe, oNeg, oSub, oMod, oMul, oDivW, eXp, eXa, eConsX, eCallX, eCallN, eLstX, eCBX, sDropX, sRetX, sAsgX, sRaise, sRaiseF, List.set_cons_zero, List.set_cons_succ, List.getElem?_cons_zero, List.getElem?_cons_succ, truD_bl, lkL_lst]); (try simp only [if_true, Bool.false_eq_true, if_false, decide_true, decide_false, Bool.not_true, Bool.not_false, List.length_cons, List.length_nil, sizeLine_eq, Nat.reduceAdd, Nat.reduceLeDiff, true_and, and_true, pw6, pw10, pw11, pw12, pw13, pw30, pw40, pw60, lkL_lst]); (try dsimp only [sAsg, sIf, sRet, sRetN, sDrop, sNext, asg, setAll, eT, eOp, eUn, eLst, eTup, eCons, eNil, eVar, eC, eCall, eCB, eNot, eAnd, eOr, eTru, eAndT, eOrT, eNotT, eIf, ePart, eNoPart, eYes, eChain, eChain3, oI, oI0, oLt, oLe, oGt, oGe, oNeg, oSub, oMod, oMul, oDivW, eXp, eXa, eConsX, eCallX, eCallN, eLstX, eCBX, sDropX, sRetX, sAsgX, sRaise, sRaiseF, List.set_cons_zero, List.set_cons_succ, List.getElem?_cons_zero, List.getElem?_cons_succ, truD_bl, lkL_lst])
      simp only [cut_qB]
      refine add_ok (by simp; omega) ?_
      refine app_ref gput_same (by simp) (hWA _ _ ?_)
      rw [gput_gput]
      (try dsimp only [sAsg, sIf, sRet, sRetN, sDrop, sNext, asg, setAll, eT, eOp, eUn, eLst, eTup, eCons, eNil, eVar, eC, eCall, eCB, eNot, eAnd, eOr, eTru, eAndT, eOrT, eNotT, eIf, ePart, eNoPart, eYes, eChain, eChain3, oI, oI0, oLt, oLe, oGt, oGe, oNeg, oSub, oMod, oMul, oDivW, eXp, eXa, eConsX, eCallX, eCallN, eLstX, eCBX, sDropX, sRetX, sAsgX, sRaise, sRaiseF, List.set_cons_zero, List.set_cons_succ, List.getElem?_cons_zero, List.getElem?_cons_succ, truD_bl]); (try simp only [if_true, Bool.false_eq_true, if_false, decide_true, decide_false, Bool.not_true, Bool.not_false, List.length_cons, List.length_nil, sizeLine_eq, Nat.reduceAdd, Nat.reduceLeDiff, true_and, and_true, pw6, pw10, pw11, pw12, pw13, pw30, pw40, pw60]); (try dsimp only [sAsg, sIf, sRet, sRetN, sDrop, sNext, asg, setAll, eT, eOp, eUn, eLst, eTup, eCons, eNil, eVar, eC, eCall, eCB, eNot, eAnd, eOr, eTru, eAndT, eOrT, eNotT, eIf, ePart, eNoPart, eYes, eChain, eChain3, oI, oI0, oLt, oLe, oGt, oGe, oNeg, oSub, oMod, oMul, oDivW, eXp, eXa, eConsX, eCallX, eCallN, eLstX, eCBX, sDropX, sRetX, sAsgX, sRaise, sRaiseF, List.set_cons_zero, List.set_cons_succ, List.getElem?_cons_zero, List.getElem?_cons_succ, truD_bl])
      refine ⟨by decide, ?_⟩
      have fin : ∀ {p2 : Paper} {o : GO}, POk p2 → (∀ x ∈ p2, 0 ≤ x.1 ∧ x.1 < n) → (∀ x ∈ p2, x.2 ≤ c + 1) → (fin G Q).rt (.tup [.str "prices", .lst (p2.map qD)]) (gput (gput G a (stO x y z)) q o) := fun {p2 o} h1 h2 h3 => by
        refine fin_stP hG (fun b u e => ?_) (Tr.plain (.pr p2)) (kq (.pr p2) x y z ok ⟨h1, h2⟩ trivial h3 (dd _))
        rw [gput_ne (fun z => by rw [z, hq] at e; cases e)]
        exact e
      have sub : ((pp.take j) ++ (pp.drop (j + 1))).Sublist pp := by
        have h0 : (pp.drop (j + 1)).Sublist (pp.drop j) := by
          rw [← List.getElem_cons_drop hj]
          exact List.sublist_cons_self _ _
        have := (List.Sublist.refl (pp.take j)).append h0
        rw [List.take_append_drop] at this
        exact this
      have put : ∀ v : Int, 1 ≤ v → v ≤ c + 1 → POk (pp.take j ++ [(pp[j].1, v)] ++ pp.drop (j + 1)) ∧ (∀ x ∈ pp.take j ++ [(pp[j].1, v)] ++ pp.drop (j + 1), 0 ≤ x.1 ∧ x.1 < n) ∧ ∀ x ∈ pp.take j ++ [(pp[j].1, v)] ++ pp.drop (j + 1), x.2 ≤ c + 1 := fun v h1 h2 => by
        refine ⟨pok_put pk hj h1 (by omega), fun x hx => ?_, fun x hx => ?_⟩
        · rcases List.mem_append.mp hx with hx | hx
          · rcases List.mem_append.mp hx with hx | hx
            · exact pb x (List.mem_of_mem_take hx)
            · rw [List.mem_singleton.mp hx]; exact pb pp[j] pj
          · exact pb x (List.mem_of_mem_drop hx)
        · rcases List.mem_append.mp hx with hx | hx
          · rcases List.mem_append.mp hx with hx | hx
            · exact tl1 x (List.mem_of_mem_take hx)
            · rw [List.mem_singleton.mp hx]; exact h2
          · exact tl1 x (List.mem_of_mem_drop hx)
      have mp : ∀ v : Int, (pp.take j).map qD ++ [D.tup [.int pp[j].1, .int v]] ++ (pp.drop (j + 1)).map qD = (pp.take j ++ [(pp[j].1, v)] ++ pp.drop (j + 1)).map qD := fun v => by simp [qD]
      have hw : w = 1 ∨ w = 2 ∨ w = 3 ∨ w = 4 := by omega
      rcases hw with rfl | rfl | rfl | rfl
      · refine ix_ref gput_same (i := 1) (d := .lst (([] : Paper).map qD)) rfl ?_
        (try dsimp only [sAsg, sIf, sRet, sRetN, sDrop, sNext, asg, setAll, eT, eOp, eUn, eLst, eTup, eCons, eNil, eVar, eC, eCall, eCB, eNot, eAnd, eOr, eTru, eAndT, eOrT, eNotT, eIf, ePart, eNoPart, eYes, eChain, eChain3, oI, oI0, oLt, oLe, oGt, oGe, oNeg, oSub, oMod, oMul, oDivW, eXp, eXa, eConsX, eCallX, eCallN, eLstX, eCBX, sDropX, sRetX, sAsgX, sRaise, sRaiseF, List.set_cons_zero, List.set_cons_succ, List.getElem?_cons_zero, List.getElem?_cons_succ, truD_bl]); (try simp only [if_true, Bool.false_eq_true, if_false, decide_true, decide_false, Bool.not_true, Bool.not_false, List.length_cons, List.length_nil, sizeLine_eq, Nat.reduceAdd, Nat.reduceLeDiff, true_and, and_true, pw6, pw10, pw11, pw12, pw13, pw30, pw40, pw60]); (try dsimp only [sAsg, sIf, sRet, sRetN, sDrop, sNext, asg, setAll, eT, eOp, eUn, eLst, eTup, eCons, eNil, eVar, eC, eCall, eCB, eNot, eAnd, eOr, eTru, eAndT, eOrT, eNotT, eIf, ePart, eNoPart, eYes, eChain, eChain3, oI, oI0, oLt, oLe, oGt, oGe, oNeg, oSub, oMod, oMul, oDivW, eXp, eXa, eConsX, eCallX, eCallN, eLstX, eCBX, sDropX, sRetX, sAsgX, sRaise, sRaiseF, List.set_cons_zero, List.set_cons_succ, List.getElem?_cons_zero, List.getElem?_cons_succ, truD_bl])
        exact fin ⟨by simp, .nil, (fun x hx => by cases hx), (fun x hx => by cases hx), (fun x hx => by cases hx), (fun x hx => by cases hx)⟩ (fun x hx => by cases hx) (fun x hx => by cases hx)
      · refine ix_ref gput_same (i := 2) rfl ?_
        (try dsimp only [sAsg, sIf, sRet, sRetN, sDrop, sNext, asg, setAll, eT, eOp, eUn, eLst, eTup, eCons, eNil, eVar, eC, eCall, eCB, eNot, eAnd, eOr, eTru, eAndT, eOrT, eNotT, eIf, ePart, eNoPart, eYes, eChain, eChain3, oI, oI0, oLt, oLe, oGt, oGe, oNeg, oSub, oMod, oMul, oDivW, eXp, eXa, eConsX, eCallX, eCallN, eLstX, eCBX, sDropX, sRetX, sAsgX, sRaise, sRaiseF, List.set_cons_zero, List.set_cons_succ, List.getElem?_cons_zero, List.getElem?_cons_succ, truD_bl]); (try simp only [if_true, Bool.false_eq_true, if_false, decide_true, decide_false, Bool.not_true, Bool.not_false, List.length_cons, List.length_nil, sizeLine_eq, Nat.reduceAdd, Nat.reduceLeDiff, true_and, and_true, pw6, pw10, pw11, pw12, pw13, pw30, pw40, pw60]); (try dsimp only [sAsg, sIf, sRet, sRetN, sDrop, sNext, asg, setAll, eT, eOp, eUn, eLst, eTup, eCons, eNil, eVar, eC, eCall, eCB, eNot, eAnd, eOr, eTru, eAndT, eOrT, eNotT, eIf, ePart, eNoPart, eYes, eChain, eChain3, oI, oI0, oLt, oLe, oGt, oGe, oNeg, oSub, oMod, oMul, oDivW, eXp, eXa, eConsX, eCallX, eCallN, eLstX, eCBX, sDropX, sRetX, sAsgX, sRaise, sRaiseF, List.set_cons_zero, List.set_cons_succ, List.getElem?_cons_zero, List.getElem?_cons_succ, truD_bl])
        rw [mp]
        obtain ⟨h1, h2, h3⟩ := put (pp[j].2 + 1) (by omega) (by omega)
        exact fin h1 h2 h3
      · refine ix_ref gput_same (i := 3) rfl ?_
        (try dsimp only [sAsg, sIf, sRet, sRetN, sDrop, sNext, asg, setAll, eT, eOp, eUn, eLst, eTup, eCons, eNil, eVar, eC, eCall, eCB, eNot, eAnd, eOr, eTru, eAndT, eOrT, eNotT, eIf, ePart, eNoPart, eYes, eChain, eChain3, oI, oI0, oLt, oLe, oGt, oGe, oNeg, oSub, oMod, oMul, oDivW, eXp, eXa, eConsX, eCallX, eCallN, eLstX, eCBX, sDropX, sRetX, sAsgX, sRaise, sRaiseF, List.set_cons_zero, List.set_cons_succ, List.getElem?_cons_zero, List.getElem?_cons_succ, truD_bl]); (try simp only [if_true, Bool.false_eq_true, if_false, decide_true, decide_false, Bool.not_true, Bool.not_false, List.length_cons, List.length_nil, sizeLine_eq, Nat.reduceAdd, Nat.reduceLeDiff, true_and, and_true, pw6, pw10, pw11, pw12, pw13, pw30, pw40, pw60]); (try dsimp only [sAsg, sIf, sRet, sRetN, sDrop, sNext, asg, setAll, eT, eOp, eUn, eLst, eTup, eCons, eNil, eVar, eC, eCall, eCB, eNot, eAnd, eOr, eTru, eAndT, eOrT, eNotT, eIf, ePart, eNoPart, eYes, eChain, eChain3, oI, oI0, oLt, oLe, oGt, oGe, oNeg, oSub, oMod, oMul, oDivW, eXp, eXa, eConsX, eCallX, eCallN, eLstX, eCBX, sDropX, sRetX, sAsgX, sRaise, sRaiseF, List.set_cons_zero, List.set_cons_succ, List.getElem?_cons_zero, List.getElem?_cons_succ, truD_bl])
        rw [mp]
        obtain ⟨h1, h2, h3⟩ := put v2 v21 v22
        exact fin h1 h2 h3
      · refine ix_ref gput_same (i := 0) rfl ?_
        (try dsimp only [sAsg, sIf, sRet, sRetN, sDrop, sNext, asg, setAll, eT, eOp, eUn, eLst, eTup, eCons, eNil, eVar, eC, eCall, eCB, eNot, eAnd, eOr, eTru, eAndT, eOrT, eNotT, eIf, ePart, eNoPart, eYes, eChain, eChain3, oI, oI0, oLt, oLe, oGt, oGe, oNeg, oSub, oMod, oMul, oDivW, eXp, eXa, eConsX, eCallX, eCallN, eLstX, eCBX, sDropX, sRetX, sAsgX, sRaise, sRaiseF, List.set_cons_zero, List.set_cons_succ, List.getElem?_cons_zero, List.getElem?_cons_succ, truD_bl]); (try simp only [if_true, Bool.false_eq_true, if_false, decide_true, decide_false, Bool.not_true, Bool.not_false, List.length_cons, List.length_nil, sizeLine_eq, Nat.reduceAdd, Nat.reduceLeDiff, true_and, and_true, pw6, pw10, pw11, pw12, pw13, pw30, pw40, pw60]); (try dsimp only [sAsg, sIf, sRet, sRetN, sDrop, sNext, asg, setAll, eT, eOp, eUn, eLst, eTup, eCons, eNil, eVar, eC, eCall, eCB, eNot, eAnd, eOr, eTru, eAndT, eOrT, eNotT, eIf, ePart, eNoPart, eYes, eChain, eChain3, oI, oI0, oLt, oLe, oGt, oGe, oNeg, oSub, oMod, oMul, oDivW, eXp, eXa, eConsX, eCallX, eCallN, eLstX, eCBX, sDropX, sRetX, sAsgX, sRaise, sRaiseF, List.set_cons_zero, List.set_cons_succ, List.getElem?_cons_zero, List.getElem?_cons_succ, truD_bl])
        rw [← List.map_append]
        exact fin (pok_sub pk sub) (fun x hx => pb x (sub.subset hx)) (fun x hx => tl1 x (sub.subset hx))
theorem best_ok {n : Int} {rs : List Stretch} {nb : Int} {ls : List (List Nat)} {s : Sd} {G : Gp} {Q : DK} (hr : RgOk n rs) (ne : ls ≠ []) (hl : ∀ l ∈ ls, LtOk n rs nb rs.length l) (e3 : s[3]? = some (some (ringD n rs))) (e5 : s[5]? = some (some (.lst (ls.map fun l => .lst (nD l))))) (hs : s.length = 13)
    (k : ∀ l ∈ ls, Q (.int (worthOf rs l)) G) :
    eCB cMax (eCons (eLc (iL (eVar 5)) (.nm 11) eYes (eCB cSum (eCons (eLc (iL (eVar 11)) (.nm 12) eYes (eOp oIx (eOp oIx (eOp oIx (eVar 3) (eC (.int 1))) (eVar 12)) (eC (.int 3))) [12]) eNil)) [11]) eNil) s G Q := by
  match s, hs with
  | [s0, s1, s2, s3, s4, s5, s6, s7, s8, s9, s10, s11, s12], _ =>
    have e3 : some s3 = some (some (ringD n rs)) := e3
    have e5 : some s5 = some (some (.lst (ls.map fun l => .lst (nD l)))) := e5
    cases e3
    cases e5
    (try dsimp only [sAsg, sIf, sRet, sRetN, sDrop, sNext, asg, setAll, eT, eOp, eUn, eLst, eTup, eCons, eNil, eVar, eC, eCall, eCB, eNot, eAnd, eOr, eTru, eAndT, eOrT, eNotT, eIf, ePart, eNoPart, eYes, eChain, eChain3, oI, oI0, oLt, oLe, oGt, oGe, oNeg, oSub, oMod, oMul, oDivW, eXp, eXa, eConsX, eCallX, eCallN, eLstX, eCBX, sDropX, sRetX, sAsgX, sRaise, sRaiseF, List.set_cons_zero, List.set_cons_succ, List.getElem?_cons_zero, List.getElem?_cons_succ, truD_bl, eLc, iL, lkL_lst]); (try simp only [if_true, Bool.false_eq_true, if_false, decide_true, decide_false, Bool.not_true, Bool.not_false, List.length_cons, List.length_nil, sizeLine_eq, Nat.reduceAdd, Nat.reduceLeDiff, true_and, and_true, pw6, pw10, pw11, pw12, pw13, pw30, pw40, pw60, eLc, iL, lkL_lst]); (try dsimp only [sAsg, sIf, sRet, sRetN, sDrop, sNext, asg, setAll, eT, eOp, eUn, eLst, eTup, eCons, eNil, eVar, eC, eCall, eCB, eNot, eAnd, eOr, eTru, eAndT, eOrT, eNotT, eIf, ePart, eNoPart, eYes, eChain, eChain3, oI, oI0, oLt, oLe, oGt, oGe, oNeg, oSub, oMod, oMul, oDivW, eXp, eXa, eConsX, eCallX, eCallN, eLstX, eCBX, sDropX, sRetX, sAsgX, sRaise, sRaiseF, List.set_cons_zero, List.set_cons_succ, List.getElem?_cons_zero, List.getElem?_cons_succ, truD_bl, eLc, iL, lkL_lst])
    refine compW_all (g := fun l : List Nat => D.lst (nD l)) (f := fun l => D.int (worthOf rs l)) (stays_of lkL_lst) ls [] (fun l hl' => ⟨_, rfl, fun R r => ?_⟩) ?_
    · (try dsimp only [sAsg, sIf, sRet, sRetN, sDrop, sNext, asg, setAll, eT, eOp, eUn, eLst, eTup, eCons, eNil, eVar, eC, eCall, eCB, eNot, eAnd, eOr, eTru, eAndT, eOrT, eNotT, eIf, ePart, eNoPart, eYes, eChain, eChain3, oI, oI0, oLt, oLe, oGt, oGe, oNeg, oSub, oMod, oMul, oDivW, eXp, eXa, eConsX, eCallX, eCallN, eLstX, eCBX, sDropX, sRetX, sAsgX, sRaise, sRaiseF, List.set_cons_zero, List.set_cons_succ, List.getElem?_cons_zero, List.getElem?_cons_succ, truD_bl, wipeD, List.foldl_cons, List.foldl_nil, eLc, iL, lkL_lst]); (try simp only [if_true, Bool.false_eq_true, if_false, decide_true, decide_false, Bool.not_true, Bool.not_false, List.length_cons, List.length_nil, sizeLine_eq, Nat.reduceAdd, Nat.reduceLeDiff, true_and, and_true, pw6, pw10, pw11, pw12, pw13, pw30, pw40, pw60, wipeD, List.foldl_cons, List.foldl_nil, eLc, iL, lkL_lst]); (try dsimp only [sAsg, sIf, sRet, sRetN, sDrop, sNext, asg, setAll, eT, eOp, eUn, eLst, eTup, eCons, eNil, eVar, eC, eCall, eCB, eNot, eAnd, eOr, eTru, eAndT, eOrT, eNotT, eIf, ePart, eNoPart, eYes, eChain, eChain3, oI, oI0, oLt, oLe, oGt, oGe, oNeg, oSub, oMod, oMul, oDivW, eXp, eXa, eConsX, eCallX, eCallN, eLstX, eCBX, sDropX, sRetX, sAsgX, sRaise, sRaiseF, List.set_cons_zero, List.set_cons_succ, List.getElem?_cons_zero, List.getElem?_cons_succ, truD_bl, wipeD, List.foldl_cons, List.foldl_nil, eLc, iL, lkL_lst])
      refine compW_all (g := fun i : Nat => D.int (i : Int)) (f := fun i => D.int (st rs i).w) (stays_of lkL_lst) l [] (fun i hi => ⟨_, rfl, fun R r => ?_⟩) ?_
      · (try dsimp only [sAsg, sIf, sRet, sRetN, sDrop, sNext, asg, setAll, eT, eOp, eUn, eLst, eTup, eCons, eNil, eVar, eC, eCall, eCB, eNot, eAnd, eOr, eTru, eAndT, eOrT, eNotT, eIf, ePart, eNoPart, eYes, eChain, eChain3, oI, oI0, oLt, oLe, oGt, oGe, oNeg, oSub, oMod, oMul, oDivW, eXp, eXa, eConsX, eCallX, eCallN, eLstX, eCBX, sDropX, sRetX, sAsgX, sRaise, sRaiseF, List.set_cons_zero, List.set_cons_succ, List.getElem?_cons_zero, List.getElem?_cons_succ, truD_bl, wipeD, List.foldl_cons, List.foldl_nil]); (try simp only [if_true, Bool.false_eq_true, if_false, decide_true, decide_false, Bool.not_true, Bool.not_false, List.length_cons, List.length_nil, sizeLine_eq, Nat.reduceAdd, Nat.reduceLeDiff, true_and, and_true, pw6, pw10, pw11, pw12, pw13, pw30, pw40, pw60, wipeD, List.foldl_cons, List.foldl_nil]); (try dsimp only [sAsg, sIf, sRet, sRetN, sDrop, sNext, asg, setAll, eT, eOp, eUn, eLst, eTup, eCons, eNil, eVar, eC, eCall, eCB, eNot, eAnd, eOr, eTru, eAndT, eOrT, eNotT, eIf, ePart, eNoPart, eYes, eChain, eChain3, oI, oI0, oLt, oLe, oGt, oGe, oNeg, oSub, oMod, oMul, oDivW, eXp, eXa, eConsX, eCallX, eCallN, eLstX, eCBX, sDropX, sRetX, sAsgX, sRaise, sRaiseF, List.set_cons_zero, List.set_cons_succ, List.getElem?_cons_zero, List.getElem?_cons_succ, truD_bl, wipeD, List.foldl_cons, List.foldl_nil])
        exact ixg_1 (ix_at (bk_at ((hl l hl').1.lt i hi)) (ixt_0 (d := .int (st rs i).w) rfl r))
      rw [List.nil_append]
      have e : l.map (fun i => D.int (st rs i).w) = (l.map fun i => (st rs i).w).map D.int := by rw [List.map_map]; rfl
      rw [e]
      (try dsimp only [sAsg, sIf, sRet, sRetN, sDrop, sNext, asg, setAll, eT, eOp, eUn, eLst, eTup, eCons, eNil, eVar, eC, eCall, eCB, eNot, eAnd, eOr, eTru, eAndT, eOrT, eNotT, eIf, ePart, eNoPart, eYes, eChain, eChain3, oI, oI0, oLt, oLe, oGt, oGe, oNeg, oSub, oMod, oMul, oDivW, eXp, eXa, eConsX, eCallX, eCallN, eLstX, eCBX, sDropX, sRetX, sAsgX, sRaise, sRaiseF, List.set_cons_zero, List.set_cons_succ, List.getElem?_cons_zero, List.getElem?_cons_succ, truD_bl, cSum, lkL_lst, Option.bind_some, intsD_map]); (try simp only [if_true, Bool.false_eq_true, if_false, decide_true, decide_false, Bool.not_true, Bool.not_false, List.length_cons, List.length_nil, sizeLine_eq, Nat.reduceAdd, Nat.reduceLeDiff, true_and, and_true, pw6, pw10, pw11, pw12, pw13, pw30, pw40, pw60, cSum, lkL_lst, Option.bind_some, intsD_map]); (try dsimp only [sAsg, sIf, sRet, sRetN, sDrop, sNext, asg, setAll, eT, eOp, eUn, eLst, eTup, eCons, eNil, eVar, eC, eCall, eCB, eNot, eAnd, eOr, eTru, eAndT, eOrT, eNotT, eIf, ePart, eNoPart, eYes, eChain, eChain3, oI, oI0, oLt, oLe, oGt, oGe, oNeg, oSub, oMod, oMul, oDivW, eXp, eXa, eConsX, eCallX, eCallN, eLstX, eCBX, sDropX, sRetX, sAsgX, sRaise, sRaiseF, List.set_cons_zero, List.set_cons_succ, List.getElem?_cons_zero, List.getElem?_cons_succ, truD_bl, cSum, lkL_lst, Option.bind_some, intsD_map])
      exact r
    rw [List.nil_append]
    have e : ls.map (fun l => D.int (worthOf rs l)) = (ls.map fun l => worthOf rs l).map D.int := by rw [List.map_map]; rfl
    rw [e]
    (try dsimp only [sAsg, sIf, sRet, sRetN, sDrop, sNext, asg, setAll, eT, eOp, eUn, eLst, eTup, eCons, eNil, eVar, eC, eCall, eCB, eNot, eAnd, eOr, eTru, eAndT, eOrT, eNotT, eIf, ePart, eNoPart, eYes, eChain, eChain3, oI, oI0, oLt, oLe, oGt, oGe, oNeg, oSub, oMod, oMul, oDivW, eXp, eXa, eConsX, eCallX, eCallN, eLstX, eCBX, sDropX, sRetX, sAsgX, sRaise, sRaiseF, List.set_cons_zero, List.set_cons_succ, List.getElem?_cons_zero, List.getElem?_cons_succ, truD_bl, cMax, lkL_lst, Option.bind_some, intsD_map]); (try simp only [if_true, Bool.false_eq_true, if_false, decide_true, decide_false, Bool.not_true, Bool.not_false, List.length_cons, List.length_nil, sizeLine_eq, Nat.reduceAdd, Nat.reduceLeDiff, true_and, and_true, pw6, pw10, pw11, pw12, pw13, pw30, pw40, pw60, cMax, lkL_lst, Option.bind_some, intsD_map]); (try dsimp only [sAsg, sIf, sRet, sRetN, sDrop, sNext, asg, setAll, eT, eOp, eUn, eLst, eTup, eCons, eNil, eVar, eC, eCall, eCB, eNot, eAnd, eOr, eTru, eAndT, eOrT, eNotT, eIf, ePart, eNoPart, eYes, eChain, eChain3, oI, oI0, oLt, oLe, oGt, oGe, oNeg, oSub, oMod, oMul, oDivW, eXp, eXa, eConsX, eCallX, eCallN, eLstX, eCBX, sDropX, sRetX, sAsgX, sRaise, sRaiseF, List.set_cons_zero, List.set_cons_succ, List.getElem?_cons_zero, List.getElem?_cons_succ, truD_bl, cMax, lkL_lst, Option.bind_some, intsD_map])
    refine ⟨by rw [List.length_map]; exact List.length_pos_iff.mpr ne, fun v hv _ => ?_⟩
    obtain ⟨l, hl', rfl⟩ := List.mem_map.mp hv
    exact k l hl'
theorem d_law (ds : List D) (G : Gp) (Q : DK) (h : lawF 63 ds G Q) : r_law (fin G Q) (startD 13 ds) G := by
  obtain ⟨ns, rfl, hl, rfl, k⟩ := h
  refine seq_gen fun W hW => ?_
  (try dsimp only [sAsg, sIf, sRet, sRetN, sDrop, sNext, asg, setAll, eT, eOp, eUn, eLst, eTup, eCons, eNil, eVar, eC, eCall, eCB, eNot, eAnd, eOr, eTru, eAndT, eOrT, eNotT, eIf, ePart, eNoPart, eYes, eChain, eChain3, oI, oI0, oLt, oLe, oGt, oGe, oNeg, oSub, oMod, oMul, oDivW, eXp, eXa, eConsX, eCallX, eCallN, eLstX, eCBX, sDropX, sRetX, sAsgX, sRaise, sRaiseF, List.set_cons_zero, List.set_cons_succ, List.getElem?_cons_zero, List.getElem?_cons_succ, truD_bl, startD, List.map_cons, List.map_nil, List.cons_append, List.nil_append, List.replicate, sFor, iR1, cLen, cMin2, cMax2]); (try simp only [if_true, Bool.false_eq_true, if_false, decide_true, decide_false, Bool.not_true, Bool.not_false, List.length_cons, List.length_nil, sizeLine_eq, Nat.reduceAdd, Nat.reduceLeDiff, true_and, and_true, pw6, pw10, pw11, pw12, pw13, pw30, pw40, pw60, startD, List.map_cons, List.map_nil, List.cons_append, List.nil_append, List.replicate, sFor, iR1, cLen, cMin2, cMax2]); (try dsimp only [sAsg, sIf, sRet, sRetN, sDrop, sNext, asg, setAll, eT, eOp, eUn, eLst, eTup, eCons, eNil, eVar, eC, eCall, eCB, eNot, eAnd, eOr, eTru, eAndT, eOrT, eNotT, eIf, ePart, eNoPart, eYes, eChain, eChain3, oI, oI0, oLt, oLe, oGt, oGe, oNeg, oSub, oMod, oMul, oDivW, eXp, eXa, eConsX, eCallX, eCallN, eLstX, eCBX, sDropX, sRetX, sAsgX, sRaise, sRaiseF, List.set_cons_zero, List.set_cons_succ, List.getElem?_cons_zero, List.getElem?_cons_succ, truD_bl, startD, List.map_cons, List.map_nil, List.cons_append, List.nil_append, List.replicate, sFor, iR1, cLen, cMin2, cMax2])
  have el : lkQ (fun _ => none) (.scr ns) = some (ns.map D.int) := by simp
  simp only [el, List.length_map]
  refine ⟨by split <;> split <;> omega, by split <;> split <;> omega, ?_⟩
  refine law_loop (m := 0) (fun s G => ∃ o1 o2 o3 o4 o5 o6 o7 o8 o9 o10, s = [some (.scr ns), o1, o2, o3, o4, o5, o6, o7, o8, o9, o10, none, none]) ?_ (by split <;> split <;> omega) ⟨_, _, _, _, _, _, _, _, _, _, rfl⟩ ?_
  · intro i h0 h1 s G W2 hI hW2
    obtain ⟨o1, o2, o3, o4, o5, o6, o7, o8, o9, o10, rfl⟩ := hI
    (try dsimp only [sAsg, sIf, sRet, sRetN, sDrop, sNext, asg, setAll, eT, eOp, eUn, eLst, eTup, eCons, eNil, eVar, eC, eCall, eCB, eNot, eAnd, eOr, eTru, eAndT, eOrT, eNotT, eIf, ePart, eNoPart, eYes, eChain, eChain3, oI, oI0, oLt, oLe, oGt, oGe, oNeg, oSub, oMod, oMul, oDivW, eXp, eXa, eConsX, eCallX, eCallN, eLstX, eCBX, sDropX, sRetX, sAsgX, sRaise, sRaiseF, List.set_cons_zero, List.set_cons_succ, List.getElem?_cons_zero, List.getElem?_cons_succ, truD_bl]); (try simp only [if_true, Bool.false_eq_true, if_false, decide_true, decide_false, Bool.not_true, Bool.not_false, List.length_cons, List.length_nil, sizeLine_eq, Nat.reduceAdd, Nat.reduceLeDiff, true_and, and_true, pw6, pw10, pw11, pw12, pw13, pw30, pw40, pw60]); (try dsimp only [sAsg, sIf, sRet, sRetN, sDrop, sNext, asg, setAll, eT, eOp, eUn, eLst, eTup, eCons, eNil, eVar, eC, eCall, eCB, eNot, eAnd, eOr, eTru, eAndT, eOrT, eNotT, eIf, ePart, eNoPart, eYes, eChain, eChain3, oI, oI0, oLt, oLe, oGt, oGe, oNeg, oSub, oMod, oMul, oDivW, eXp, eXa, eConsX, eCallX, eCallN, eLstX, eCBX, sDropX, sRetX, sAsgX, sRaise, sRaiseF, List.set_cons_zero, List.set_cons_succ, List.getElem?_cons_zero, List.getElem?_cons_succ, truD_bl])
    unfold r_law_L3
    refine seq_gen fun W3 hW3 => ?_
    (try dsimp only [sAsg, sIf, sRet, sRetN, sDrop, sNext, asg, setAll, eT, eOp, eUn, eLst, eTup, eCons, eNil, eVar, eC, eCall, eCB, eNot, eAnd, eOr, eTru, eAndT, eOrT, eNotT, eIf, ePart, eNoPart, eYes, eChain, eChain3, oI, oI0, oLt, oLe, oGt, oGe, oNeg, oSub, oMod, oMul, oDivW, eXp, eXa, eConsX, eCallX, eCallN, eLstX, eCBX, sDropX, sRetX, sAsgX, sRaise, sRaiseF, List.set_cons_zero, List.set_cons_succ, List.getElem?_cons_zero, List.getElem?_cons_succ, truD_bl]); (try simp only [if_true, Bool.false_eq_true, if_false, decide_true, decide_false, Bool.not_true, Bool.not_false, List.length_cons, List.length_nil, sizeLine_eq, Nat.reduceAdd, Nat.reduceLeDiff, true_and, and_true, pw6, pw10, pw11, pw12, pw13, pw30, pw40, pw60]); (try dsimp only [sAsg, sIf, sRet, sRetN, sDrop, sNext, asg, setAll, eT, eOp, eUn, eLst, eTup, eCons, eNil, eVar, eC, eCall, eCB, eNot, eAnd, eOr, eTru, eAndT, eOrT, eNotT, eIf, ePart, eNoPart, eYes, eChain, eChain3, oI, oI0, oLt, oLe, oGt, oGe, oNeg, oSub, oMod, oMul, oDivW, eXp, eXa, eConsX, eCallX, eCallN, eLstX, eCBX, sDropX, sRetX, sAsgX, sRaise, sRaiseF, List.set_cons_zero, List.set_cons_succ, List.getElem?_cons_zero, List.getElem?_cons_succ, truD_bl])
    refine ⟨ns, i, rfl, h0, by omega, fun p x y z hp ok => hW3 _ _ ?_⟩
    refine seq_gen fun W4 hW4 => ?_
    (try dsimp only [sAsg, sIf, sRet, sRetN, sDrop, sNext, asg, setAll, eT, eOp, eUn, eLst, eTup, eCons, eNil, eVar, eC, eCall, eCB, eNot, eAnd, eOr, eTru, eAndT, eOrT, eNotT, eIf, ePart, eNoPart, eYes, eChain, eChain3, oI, oI0, oLt, oLe, oGt, oGe, oNeg, oSub, oMod, oMul, oDivW, eXp, eXa, eConsX, eCallX, eCallN, eLstX, eCBX, sDropX, sRetX, sAsgX, sRaise, sRaiseF, List.set_cons_zero, List.set_cons_succ, List.getElem?_cons_zero, List.getElem?_cons_succ, truD_bl]); (try simp only [if_true, Bool.false_eq_true, if_false, decide_true, decide_false, Bool.not_true, Bool.not_false, List.length_cons, List.length_nil, sizeLine_eq, Nat.reduceAdd, Nat.reduceLeDiff, true_and, and_true, pw6, pw10, pw11, pw12, pw13, pw30, pw40, pw60]); (try dsimp only [sAsg, sIf, sRet, sRetN, sDrop, sNext, asg, setAll, eT, eOp, eUn, eLst, eTup, eCons, eNil, eVar, eC, eCall, eCB, eNot, eAnd, eOr, eTru, eAndT, eOrT, eNotT, eIf, ePart, eNoPart, eYes, eChain, eChain3, oI, oI0, oLt, oLe, oGt, oGe, oNeg, oSub, oMod, oMul, oDivW, eXp, eXa, eConsX, eCallX, eCallN, eLstX, eCBX, sDropX, sRetX, sAsgX, sRaise, sRaiseF, List.set_cons_zero, List.set_cons_succ, List.getElem?_cons_zero, List.getElem?_cons_succ, truD_bl])
    refine ⟨p, 7, x, y, z, rfl, gput_same, ok, by decide, by decide, fun n rs x y z ok hr l7 => hW4 _ _ ?_⟩
    rw [gput_gput]
    refine seq_gen fun W5 hW5 => ?_
    (try dsimp only [sAsg, sIf, sRet, sRetN, sDrop, sNext, asg, setAll, eT, eOp, eUn, eLst, eTup, eCons, eNil, eVar, eC, eCall, eCB, eNot, eAnd, eOr, eTru, eAndT, eOrT, eNotT, eIf, ePart, eNoPart, eYes, eChain, eChain3, oI, oI0, oLt, oLe, oGt, oGe, oNeg, oSub, oMod, oMul, oDivW, eXp, eXa, eConsX, eCallX, eCallN, eLstX, eCBX, sDropX, sRetX, sAsgX, sRaise, sRaiseF, List.set_cons_zero, List.set_cons_succ, List.getElem?_cons_zero, List.getElem?_cons_succ, truD_bl]); (try simp only [if_true, Bool.false_eq_true, if_false, decide_true, decide_false, Bool.not_true, Bool.not_false, List.length_cons, List.length_nil, sizeLine_eq, Nat.reduceAdd, Nat.reduceLeDiff, true_and, and_true, pw6, pw10, pw11, pw12, pw13, pw30, pw40, pw60]); (try dsimp only [sAsg, sIf, sRet, sRetN, sDrop, sNext, asg, setAll, eT, eOp, eUn, eLst, eTup, eCons, eNil, eVar, eC, eCall, eCB, eNot, eAnd, eOr, eTru, eAndT, eOrT, eNotT, eIf, ePart, eNoPart, eYes, eChain, eChain3, oI, oI0, oLt, oLe, oGt, oGe, oNeg, oSub, oMod, oMul, oDivW, eXp, eXa, eConsX, eCallX, eCallN, eLstX, eCBX, sDropX, sRetX, sAsgX, sRaise, sRaiseF, List.set_cons_zero, List.set_cons_succ, List.getElem?_cons_zero, List.getElem?_cons_succ, truD_bl])
    refine take_ok gput_same ok (wd_of (by decide) (by decide)) fun r x y z ok r0 r1 => ?_
    rw [gput_gput]
    (try dsimp only [sAsg, sIf, sRet, sRetN, sDrop, sNext, asg, setAll, eT, eOp, eUn, eLst, eTup, eCons, eNil, eVar, eC, eCall, eCB, eNot, eAnd, eOr, eTru, eAndT, eOrT, eNotT, eIf, ePart, eNoPart, eYes, eChain, eChain3, oI, oI0, oLt, oLe, oGt, oGe, oNeg, oSub, oMod, oMul, oDivW, eXp, eXa, eConsX, eCallX, eCallN, eLstX, eCBX, sDropX, sRetX, sAsgX, sRaise, sRaiseF, List.set_cons_zero, List.set_cons_succ, List.getElem?_cons_zero, List.getElem?_cons_succ, truD_bl]); (try simp only [if_true, Bool.false_eq_true, if_false, decide_true, decide_false, Bool.not_true, Bool.not_false, List.length_cons, List.length_nil, sizeLine_eq, Nat.reduceAdd, Nat.reduceLeDiff, true_and, and_true, pw6, pw10, pw11, pw12, pw13, pw30, pw40, pw60]); (try dsimp only [sAsg, sIf, sRet, sRetN, sDrop, sNext, asg, setAll, eT, eOp, eUn, eLst, eTup, eCons, eNil, eVar, eC, eCall, eCB, eNot, eAnd, eOr, eTru, eAndT, eOrT, eNotT, eIf, ePart, eNoPart, eYes, eChain, eChain3, oI, oI0, oLt, oLe, oGt, oGe, oNeg, oSub, oMod, oMul, oDivW, eXp, eXa, eConsX, eCallX, eCallN, eLstX, eCBX, sDropX, sRetX, sAsgX, sRaise, sRaiseF, List.set_cons_zero, List.set_cons_succ, List.getElem?_cons_zero, List.getElem?_cons_succ, truD_bl])
    have hr3 : r / 3 = 0 ∨ r / 3 = 1 := by omega
    refine ⟨⟨by decide, by decide⟩, ?_⟩
    obtain ⟨m, em, m1, m2⟩ : ∃ m : Int, atI [D.int 4, D.int 25] (r / 3) = some (.int m) ∧ 1 ≤ m ∧ m ≤ 25 := by
      rcases hr3 with e | e <;> rw [e]
      · exact ⟨4, rfl, by decide, by decide⟩
      · exact ⟨25, rfl, by decide, by decide⟩
    refine ix_at em ?_
    refine take_ok gput_same ok (wd_of (by omega) (by omega)) fun nb x y z ok b0 b1 => hW5 _ _ ?_
    rw [gput_gput]
    refine seq_gen fun W6 hW6 => ?_
    (try dsimp only [sAsg, sIf, sRet, sRetN, sDrop, sNext, asg, setAll, eT, eOp, eUn, eLst, eTup, eCons, eNil, eVar, eC, eCall, eCB, eNot, eAnd, eOr, eTru, eAndT, eOrT, eNotT, eIf, ePart, eNoPart, eYes, eChain, eChain3, oI, oI0, oLt, oLe, oGt, oGe, oNeg, oSub, oMod, oMul, oDivW, eXp, eXa, eConsX, eCallX, eCallN, eLstX, eCBX, sDropX, sRetX, sAsgX, sRaise, sRaiseF, List.set_cons_zero, List.set_cons_succ, List.getElem?_cons_zero, List.getElem?_cons_succ, truD_bl]); (try simp only [if_true, Bool.false_eq_true, if_false, decide_true, decide_false, Bool.not_true, Bool.not_false, List.length_cons, List.length_nil, sizeLine_eq, Nat.reduceAdd, Nat.reduceLeDiff, true_and, and_true, pw6, pw10, pw11, pw12, pw13, pw30, pw40, pw60]); (try dsimp only [sAsg, sIf, sRet, sRetN, sDrop, sNext, asg, setAll, eT, eOp, eUn, eLst, eTup, eCons, eNil, eVar, eC, eCall, eCB, eNot, eAnd, eOr, eTru, eAndT, eOrT, eNotT, eIf, ePart, eNoPart, eYes, eChain, eChain3, oI, oI0, oLt, oLe, oGt, oGe, oNeg, oSub, oMod, oMul, oDivW, eXp, eXa, eConsX, eCallX, eCallN, eLstX, eCBX, sDropX, sRetX, sAsgX, sRaise, sRaiseF, List.set_cons_zero, List.set_cons_succ, List.getElem?_cons_zero, List.getElem?_cons_succ, truD_bl])
    refine ⟨n, rs, nb, rfl, hr, by omega, b0, fun ls ne hls => hW6 _ _ ?_⟩
    refine seq_gen fun W7 hW7 => ?_
    simp only [sAsg]
    refine best_ok (nb := nb) hr ne hls rfl rfl rfl fun l hl => ?_
    obtain ⟨sl, kl⟩ := hls l hl
    (try dsimp only [sAsg, sIf, sRet, sRetN, sDrop, sNext, asg, setAll, eT, eOp, eUn, eLst, eTup, eCons, eNil, eVar, eC, eCall, eCB, eNot, eAnd, eOr, eTru, eAndT, eOrT, eNotT, eIf, ePart, eNoPart, eYes, eChain, eChain3, oI, oI0, oLt, oLe, oGt, oGe, oNeg, oSub, oMod, oMul, oDivW, eXp, eXa, eConsX, eCallX, eCallN, eLstX, eCBX, sDropX, sRetX, sAsgX, sRaise, sRaiseF, List.set_cons_zero, List.set_cons_succ, List.getElem?_cons_zero, List.getElem?_cons_succ, truD_bl]); (try simp only [if_true, Bool.false_eq_true, if_false, decide_true, decide_false, Bool.not_true, Bool.not_false, List.length_cons, List.length_nil, sizeLine_eq, Nat.reduceAdd, Nat.reduceLeDiff, true_and, and_true, pw6, pw10, pw11, pw12, pw13, pw30, pw40, pw60]); (try dsimp only [sAsg, sIf, sRet, sRetN, sDrop, sNext, asg, setAll, eT, eOp, eUn, eLst, eTup, eCons, eNil, eVar, eC, eCall, eCB, eNot, eAnd, eOr, eTru, eAndT, eOrT, eNotT, eIf, ePart, eNoPart, eYes, eChain, eChain3, oI, oI0, oLt, oLe, oGt, oGe, oNeg, oSub, oMod, oMul, oDivW, eXp, eXa, eConsX, eCallX, eCallN, eLstX, eCBX, sDropX, sRetX, sAsgX, sRaise, sRaiseF, List.set_cons_zero, List.set_cons_succ, List.getElem?_cons_zero, List.getElem?_cons_succ, truD_bl])
    refine hW7 _ _ ?_
    generalize hb : worthOf rs l = best
    have weak : ∀ {t : Tr} {m' : Nat} {s' : List Int} {v : Int}, t.pap n → wlk n rs nb t 0 [] [] = some (m', s') → (∀ y ∈ s', y ≤ v) → best ≤ v := fun {t m' s' v} pap e hm => by
      obtain ⟨u, hu, hw⟩ := tree_weak sl kl t e pap .nil (fun i hi => by cases hi) (fun i hi => by cases hi)
      have := hm u hu
      omega
    (try dsimp only [sAsg, sIf, sRet, sRetN, sDrop, sNext, asg, setAll, eT, eOp, eUn, eLst, eTup, eCons, eNil, eVar, eC, eCall, eCB, eNot, eAnd, eOr, eTru, eAndT, eOrT, eNotT, eIf, ePart, eNoPart, eYes, eChain, eChain3, oI, oI0, oLt, oLe, oGt, oGe, oNeg, oSub, oMod, oMul, oDivW, eXp, eXa, eConsX, eCallX, eCallN, eLstX, eCBX, sDropX, sRetX, sAsgX, sRaise, sRaiseF, List.set_cons_zero, List.set_cons_succ, List.getElem?_cons_zero, List.getElem?_cons_succ, truD_bl, sFor, iR1]); (try simp only [if_true, Bool.false_eq_true, if_false, decide_true, decide_false, Bool.not_true, Bool.not_false, List.length_cons, List.length_nil, sizeLine_eq, Nat.reduceAdd, Nat.reduceLeDiff, true_and, and_true, pw6, pw10, pw11, pw12, pw13, pw30, pw40, pw60, sFor, iR1]); (try dsimp only [sAsg, sIf, sRet, sRetN, sDrop, sNext, asg, setAll, eT, eOp, eUn, eLst, eTup, eCons, eNil, eVar, eC, eCall, eCB, eNot, eAnd, eOr, eTru, eAndT, eOrT, eNotT, eIf, ePart, eNoPart, eYes, eChain, eChain3, oI, oI0, oLt, oLe, oGt, oGe, oNeg, oSub, oMod, oMul, oDivW, eXp, eXa, eConsX, eCallX, eCallN, eLstX, eCBX, sDropX, sRetX, sAsgX, sRaise, sRaiseF, List.set_cons_zero, List.set_cons_succ, List.getElem?_cons_zero, List.getElem?_cons_succ, truD_bl, sFor, iR1])
    refine ⟨by omega, by omega, ?_⟩
    refine forW_rng (fun j s G' => ∃ (x y z : Int) (o7 o8 o9 o10 : Option D), Ok3 x y z ∧ G' = gput G p (stO x y z) ∧ s = [some (.scr ns), some (.int i), some (.ref p), some (ringD n rs), some (.int nb), some (.lst (ls.map fun l => .lst (nD l))), some (.int best), o7, o8, o9, o10, none, none]) ?_ ?_ ⟨x, y, z, _, _, _, _, ok, rfl, rfl⟩
    · rintro j0 s G' W hj ⟨x, y, z, o7, o8, o9, o10, ok, rfl, rfl⟩ hW'
      (try dsimp only [sAsg, sIf, sRet, sRetN, sDrop, sNext, asg, setAll, eT, eOp, eUn, eLst, eTup, eCons, eNil, eVar, eC, eCall, eCB, eNot, eAnd, eOr, eTru, eAndT, eOrT, eNotT, eIf, ePart, eNoPart, eYes, eChain, eChain3, oI, oI0, oLt, oLe, oGt, oGe, oNeg, oSub, oMod, oMul, oDivW, eXp, eXa, eConsX, eCallX, eCallN, eLstX, eCBX, sDropX, sRetX, sAsgX, sRaise, sRaiseF, List.set_cons_zero, List.set_cons_succ, List.getElem?_cons_zero, List.getElem?_cons_succ, truD_bl]); (try simp only [if_true, Bool.false_eq_true, if_false, decide_true, decide_false, Bool.not_true, Bool.not_false, List.length_cons, List.length_nil, sizeLine_eq, Nat.reduceAdd, Nat.reduceLeDiff, true_and, and_true, pw6, pw10, pw11, pw12, pw13, pw30, pw40, pw60]); (try dsimp only [sAsg, sIf, sRet, sRetN, sDrop, sNext, asg, setAll, eT, eOp, eUn, eLst, eTup, eCons, eNil, eVar, eC, eCall, eCB, eNot, eAnd, eOr, eTru, eAndT, eOrT, eNotT, eIf, ePart, eNoPart, eYes, eChain, eChain3, oI, oI0, oLt, oLe, oGt, oGe, oNeg, oSub, oMod, oMul, oDivW, eXp, eXa, eConsX, eCallX, eCallN, eLstX, eCBX, sDropX, sRetX, sAsgX, sRaise, sRaiseF, List.set_cons_zero, List.set_cons_succ, List.getElem?_cons_zero, List.getElem?_cons_succ, truD_bl])
      unfold r_law_L2
      refine seq_gen fun W8 hW8 => ?_
      (try dsimp only [sAsg, sIf, sRet, sRetN, sDrop, sNext, asg, setAll, eT, eOp, eUn, eLst, eTup, eCons, eNil, eVar, eC, eCall, eCB, eNot, eAnd, eOr, eTru, eAndT, eOrT, eNotT, eIf, ePart, eNoPart, eYes, eChain, eChain3, oI, oI0, oLt, oLe, oGt, oGe, oNeg, oSub, oMod, oMul, oDivW, eXp, eXa, eConsX, eCallX, eCallN, eLstX, eCBX, sDropX, sRetX, sAsgX, sRaise, sRaiseF, List.set_cons_zero, List.set_cons_succ, List.getElem?_cons_zero, List.getElem?_cons_succ, truD_bl]); (try simp only [if_true, Bool.false_eq_true, if_false, decide_true, decide_false, Bool.not_true, Bool.not_false, List.length_cons, List.length_nil, sizeLine_eq, Nat.reduceAdd, Nat.reduceLeDiff, true_and, and_true, pw6, pw10, pw11, pw12, pw13, pw30, pw40, pw60]); (try dsimp only [sAsg, sIf, sRet, sRetN, sDrop, sNext, asg, setAll, eT, eOp, eUn, eLst, eTup, eCons, eNil, eVar, eC, eCall, eCB, eNot, eAnd, eOr, eTru, eAndT, eOrT, eNotT, eIf, ePart, eNoPart, eYes, eChain, eChain3, oI, oI0, oLt, oLe, oGt, oGe, oNeg, oSub, oMod, oMul, oDivW, eXp, eXa, eConsX, eCallX, eCallN, eLstX, eCBX, sDropX, sRetX, sAsgX, sRaise, sRaiseF, List.set_cons_zero, List.set_cons_succ, List.getElem?_cons_zero, List.getElem?_cons_succ, truD_bl])
      refine ⟨p, x, y, z, n, rs, nb, [], [], 4, rfl, gput_same, ok, hr, by decide, (fun i hi => by cases hi), by simp, by simp, fun t x y z ok tk td tl => hW8 _ _ ?_⟩
      rw [gput_gput]
      have sz := t.size_le
      have sz2 : 2 ^ t.dep ≤ 2 ^ 5 := Nat.pow_le_pow_right (by decide) (by omega)
      have e32 : 2 ^ 5 = 32 := rfl
      have ew := wlk_ok (met := 0) tk (by omega)
      refine seq_gen fun W9 hW9 => ?_
      (try dsimp only [sAsg, sIf, sRet, sRetN, sDrop, sNext, asg, setAll, eT, eOp, eUn, eLst, eTup, eCons, eNil, eVar, eC, eCall, eCB, eNot, eAnd, eOr, eTru, eAndT, eOrT, eNotT, eIf, ePart, eNoPart, eYes, eChain, eChain3, oI, oI0, oLt, oLe, oGt, oGe, oNeg, oSub, oMod, oMul, oDivW, eXp, eXa, eConsX, eCallX, eCallN, eLstX, eCBX, sDropX, sRetX, sAsgX, sRaise, sRaiseF, List.set_cons_zero, List.set_cons_succ, List.getElem?_cons_zero, List.getElem?_cons_succ, truD_bl]); (try simp only [if_true, Bool.false_eq_true, if_false, decide_true, decide_false, Bool.not_true, Bool.not_false, List.length_cons, List.length_nil, sizeLine_eq, Nat.reduceAdd, Nat.reduceLeDiff, true_and, and_true, pw6, pw10, pw11, pw12, pw13, pw30, pw40, pw60]); (try dsimp only [sAsg, sIf, sRet, sRetN, sDrop, sNext, asg, setAll, eT, eOp, eUn, eLst, eTup, eCons, eNil, eVar, eC, eCall, eCB, eNot, eAnd, eOr, eTru, eAndT, eOrT, eNotT, eIf, ePart, eNoPart, eYes, eChain, eChain3, oI, oI0, oLt, oLe, oGt, oGe, oNeg, oSub, oMod, oMul, oDivW, eXp, eXa, eConsX, eCallX, eCallN, eLstX, eCBX, sDropX, sRetX, sAsgX, sRaise, sRaiseF, List.set_cons_zero, List.set_cons_succ, List.getElem?_cons_zero, List.getElem?_cons_succ, truD_bl])
      refine ⟨n, rs, nb, t, rfl, hr, b0, tk.pap, tk.small hr, by omega, by omega, (fun e => by rw [ew] at e; cases e), fun m' s' e v hv hm => hW9 _ _ ?_⟩
      have hbv := weak tk.pap e hm
      refine seq_gen fun WA hWA => ?_
      (try dsimp only [sAsg, sIf, sRet, sRetN, sDrop, sNext, asg, setAll, eT, eOp, eUn, eLst, eTup, eCons, eNil, eVar, eC, eCall, eCB, eNot, eAnd, eOr, eTru, eAndT, eOrT, eNotT, eIf, ePart, eNoPart, eYes, eChain, eChain3, oI, oI0, oLt, oLe, oGt, oGe, oNeg, oSub, oMod, oMul, oDivW, eXp, eXa, eConsX, eCallX, eCallN, eLstX, eCBX, sDropX, sRetX, sAsgX, sRaise, sRaiseF, List.set_cons_zero, List.set_cons_succ, List.getElem?_cons_zero, List.getElem?_cons_succ, truD_bl, oIsN]); (try simp only [if_true, Bool.false_eq_true, if_false, decide_true, decide_false, Bool.not_true, Bool.not_false, List.length_cons, List.length_nil, sizeLine_eq, Nat.reduceAdd, Nat.reduceLeDiff, true_and, and_true, pw6, pw10, pw11, pw12, pw13, pw30, pw40, pw60, oIsN]); (try dsimp only [sAsg, sIf, sRet, sRetN, sDrop, sNext, asg, setAll, eT, eOp, eUn, eLst, eTup, eCons, eNil, eVar, eC, eCall, eCB, eNot, eAnd, eOr, eTru, eAndT, eOrT, eNotT, eIf, ePart, eNoPart, eYes, eChain, eChain3, oI, oI0, oLt, oLe, oGt, oGe, oNeg, oSub, oMod, oMul, oDivW, eXp, eXa, eConsX, eCallX, eCallN, eLstX, eCBX, sDropX, sRetX, sAsgX, sRaise, sRaiseF, List.set_cons_zero, List.set_cons_succ, List.getElem?_cons_zero, List.getElem?_cons_succ, truD_bl, oIsN])
      rw [decide_eq_false (by omega : ¬ v < best)]
      (try dsimp only [sAsg, sIf, sRet, sRetN, sDrop, sNext, asg, setAll, eT, eOp, eUn, eLst, eTup, eCons, eNil, eVar, eC, eCall, eCB, eNot, eAnd, eOr, eTru, eAndT, eOrT, eNotT, eIf, ePart, eNoPart, eYes, eChain, eChain3, oI, oI0, oLt, oLe, oGt, oGe, oNeg, oSub, oMod, oMul, oDivW, eXp, eXa, eConsX, eCallX, eCallN, eLstX, eCBX, sDropX, sRetX, sAsgX, sRaise, sRaiseF, List.set_cons_zero, List.set_cons_succ, List.getElem?_cons_zero, List.getElem?_cons_succ, truD_bl]); (try simp only [if_true, Bool.false_eq_true, if_false, decide_true, decide_false, Bool.not_true, Bool.not_false, List.length_cons, List.length_nil, sizeLine_eq, Nat.reduceAdd, Nat.reduceLeDiff, true_and, and_true, pw6, pw10, pw11, pw12, pw13, pw30, pw40, pw60]); (try dsimp only [sAsg, sIf, sRet, sRetN, sDrop, sNext, asg, setAll, eT, eOp, eUn, eLst, eTup, eCons, eNil, eVar, eC, eCall, eCB, eNot, eAnd, eOr, eTru, eAndT, eOrT, eNotT, eIf, ePart, eNoPart, eYes, eChain, eChain3, oI, oI0, oLt, oLe, oGt, oGe, oNeg, oSub, oMod, oMul, oDivW, eXp, eXa, eConsX, eCallX, eCallN, eLstX, eCBX, sDropX, sRetX, sAsgX, sRaise, sRaiseF, List.set_cons_zero, List.set_cons_succ, List.getElem?_cons_zero, List.getElem?_cons_succ, truD_bl])
      refine hWA _ _ ?_
      (try dsimp only [sAsg, sIf, sRet, sRetN, sDrop, sNext, asg, setAll, eT, eOp, eUn, eLst, eTup, eCons, eNil, eVar, eC, eCall, eCB, eNot, eAnd, eOr, eTru, eAndT, eOrT, eNotT, eIf, ePart, eNoPart, eYes, eChain, eChain3, oI, oI0, oLt, oLe, oGt, oGe, oNeg, oSub, oMod, oMul, oDivW, eXp, eXa, eConsX, eCallX, eCallN, eLstX, eCBX, sDropX, sRetX, sAsgX, sRaise, sRaiseF, List.set_cons_zero, List.set_cons_succ, List.getElem?_cons_zero, List.getElem?_cons_succ, truD_bl, sFor, iR1]); (try simp only [if_true, Bool.false_eq_true, if_false, decide_true, decide_false, Bool.not_true, Bool.not_false, List.length_cons, List.length_nil, sizeLine_eq, Nat.reduceAdd, Nat.reduceLeDiff, true_and, and_true, pw6, pw10, pw11, pw12, pw13, pw30, pw40, pw60, sFor, iR1]); (try dsimp only [sAsg, sIf, sRet, sRetN, sDrop, sNext, asg, setAll, eT, eOp, eUn, eLst, eTup, eCons, eNil, eVar, eC, eCall, eCB, eNot, eAnd, eOr, eTru, eAndT, eOrT, eNotT, eIf, ePart, eNoPart, eYes, eChain, eChain3, oI, oI0, oLt, oLe, oGt, oGe, oNeg, oSub, oMod, oMul, oDivW, eXp, eXa, eConsX, eCallX, eCallN, eLstX, eCBX, sDropX, sRetX, sAsgX, sRaise, sRaiseF, List.set_cons_zero, List.set_cons_succ, List.getElem?_cons_zero, List.getElem?_cons_succ, truD_bl, sFor, iR1])
      refine ⟨by omega, by omega, ?_⟩
      refine forW_rng (fun j s G' => ∃ (t : Tr) (x y z : Int) (o9 o10 : Option D), Ok3 x y z ∧ t.pap n ∧ t.small ∧ t.le (1000000000000 + (j : Int)) ∧ t.dep ≤ 5 + j ∧ G' = gput G p (stO x y z) ∧ s = [some (.scr ns), some (.int i), some (.ref p), some (ringD n rs), some (.int nb), some (.lst (ls.map fun l => .lst (nD l))), some (.int best), some (.int (j0 : Int)), some t.d, o9, o10, none, none]) ?_ ?_ ⟨t, x, y, z, _, _, ok, tk.pap, tk.small hr, Tr.le_mono (by omega) tl, by omega, rfl, rfl⟩
      · rintro j s G' W hj ⟨t, x, y, z, o9, o10, ok, tp, ts, tl, td, rfl, rfl⟩ hW'
        have hj3 : j < 3 := by simpa using hj
        (try dsimp only [sAsg, sIf, sRet, sRetN, sDrop, sNext, asg, setAll, eT, eOp, eUn, eLst, eTup, eCons, eNil, eVar, eC, eCall, eCB, eNot, eAnd, eOr, eTru, eAndT, eOrT, eNotT, eIf, ePart, eNoPart, eYes, eChain, eChain3, oI, oI0, oLt, oLe, oGt, oGe, oNeg, oSub, oMod, oMul, oDivW, eXp, eXa, eConsX, eCallX, eCallN, eLstX, eCBX, sDropX, sRetX, sAsgX, sRaise, sRaiseF, List.set_cons_zero, List.set_cons_succ, List.getElem?_cons_zero, List.getElem?_cons_succ, truD_bl]); (try simp only [if_true, Bool.false_eq_true, if_false, decide_true, decide_false, Bool.not_true, Bool.not_false, List.length_cons, List.length_nil, sizeLine_eq, Nat.reduceAdd, Nat.reduceLeDiff, true_and, and_true, pw6, pw10, pw11, pw12, pw13, pw30, pw40, pw60]); (try dsimp only [sAsg, sIf, sRet, sRetN, sDrop, sNext, asg, setAll, eT, eOp, eUn, eLst, eTup, eCons, eNil, eVar, eC, eCall, eCB, eNot, eAnd, eOr, eTru, eAndT, eOrT, eNotT, eIf, ePart, eNoPart, eYes, eChain, eChain3, oI, oI0, oLt, oLe, oGt, oGe, oNeg, oSub, oMod, oMul, oDivW, eXp, eXa, eConsX, eCallX, eCallN, eLstX, eCBX, sDropX, sRetX, sAsgX, sRaise, sRaiseF, List.set_cons_zero, List.set_cons_succ, List.getElem?_cons_zero, List.getElem?_cons_succ, truD_bl])
        unfold r_law_L1
        refine seq_gen fun WB hWB => ?_
        (try dsimp only [sAsg, sIf, sRet, sRetN, sDrop, sNext, asg, setAll, eT, eOp, eUn, eLst, eTup, eCons, eNil, eVar, eC, eCall, eCB, eNot, eAnd, eOr, eTru, eAndT, eOrT, eNotT, eIf, ePart, eNoPart, eYes, eChain, eChain3, oI, oI0, oLt, oLe, oGt, oGe, oNeg, oSub, oMod, oMul, oDivW, eXp, eXa, eConsX, eCallX, eCallN, eLstX, eCBX, sDropX, sRetX, sAsgX, sRaise, sRaiseF, List.set_cons_zero, List.set_cons_succ, List.getElem?_cons_zero, List.getElem?_cons_succ, truD_bl]); (try simp only [if_true, Bool.false_eq_true, if_false, decide_true, decide_false, Bool.not_true, Bool.not_false, List.length_cons, List.length_nil, sizeLine_eq, Nat.reduceAdd, Nat.reduceLeDiff, true_and, and_true, pw6, pw10, pw11, pw12, pw13, pw30, pw40, pw60]); (try dsimp only [sAsg, sIf, sRet, sRetN, sDrop, sNext, asg, setAll, eT, eOp, eUn, eLst, eTup, eCons, eNil, eVar, eC, eCall, eCB, eNot, eAnd, eOr, eTru, eAndT, eOrT, eNotT, eIf, ePart, eNoPart, eYes, eChain, eChain3, oI, oI0, oLt, oLe, oGt, oGe, oNeg, oSub, oMod, oMul, oDivW, eXp, eXa, eConsX, eCallX, eCallN, eLstX, eCBX, sDropX, sRetX, sAsgX, sRaise, sRaiseF, List.set_cons_zero, List.set_cons_succ, List.getElem?_cons_zero, List.getElem?_cons_succ, truD_bl])
        refine ⟨p, x, y, z, n, rs, t, 1000000000000 + (j : Int), rfl, gput_same, ok, hr, tp, ts, tl, by omega, by omega, (by show t.dep ≤ 11; omega), fun t2 x y z ok p2 s2 l2 d2 => hWB _ _ ?_⟩
        rw [gput_gput]
        have sz := t2.size_le
        have sz2 : 2 ^ t2.dep ≤ 2 ^ 8 := Nat.pow_le_pow_right (by decide) (by omega)
        have e32 : 2 ^ 8 = 256 := rfl
        have nxt : ∀ o9, W [some (.scr ns), some (.int i), some (.ref p), some (ringD n rs), some (.int nb), some (.lst (ls.map fun l => .lst (nD l))), some (.int best), some (.int (j0 : Int)), some t2.d, o9, some (.int (j : Int)), none, none] (gput G p (stO x y z)) := fun o9 => hW' _ _ ⟨t2, x, y, z, _, _, ok, p2, s2, by rw [show (1000000000000 : Int) + ((j + 1 : Nat) : Int) = 1000000000000 + (j : Int) + 1 by omega]; exact l2, by omega, rfl, rfl⟩
        refine seq_gen fun WC hWC => ?_
        (try dsimp only [sAsg, sIf, sRet, sRetN, sDrop, sNext, asg, setAll, eT, eOp, eUn, eLst, eTup, eCons, eNil, eVar, eC, eCall, eCB, eNot, eAnd, eOr, eTru, eAndT, eOrT, eNotT, eIf, ePart, eNoPart, eYes, eChain, eChain3, oI, oI0, oLt, oLe, oGt, oGe, oNeg, oSub, oMod, oMul, oDivW, eXp, eXa, eConsX, eCallX, eCallN, eLstX, eCBX, sDropX, sRetX, sAsgX, sRaise, sRaiseF, List.set_cons_zero, List.set_cons_succ, List.getElem?_cons_zero, List.getElem?_cons_succ, truD_bl]); (try simp only [if_true, Bool.false_eq_true, if_false, decide_true, decide_false, Bool.not_true, Bool.not_false, List.length_cons, List.length_nil, sizeLine_eq, Nat.reduceAdd, Nat.reduceLeDiff, true_and, and_true, pw6, pw10, pw11, pw12, pw13, pw30, pw40, pw60]); (try dsimp only [sAsg, sIf, sRet, sRetN, sDrop, sNext, asg, setAll, eT, eOp, eUn, eLst, eTup, eCons, eNil, eVar, eC, eCall, eCB, eNot, eAnd, eOr, eTru, eAndT, eOrT, eNotT, eIf, ePart, eNoPart, eYes, eChain, eChain3, oI, oI0, oLt, oLe, oGt, oGe, oNeg, oSub, oMod, oMul, oDivW, eXp, eXa, eConsX, eCallX, eCallN, eLstX, eCBX, sDropX, sRetX, sAsgX, sRaise, sRaiseF, List.set_cons_zero, List.set_cons_succ, List.getElem?_cons_zero, List.getElem?_cons_succ, truD_bl])
        refine ⟨n, rs, nb, t2, rfl, hr, b0, p2, s2, by omega, by omega, fun e => hWC _ _ ?_, fun m' s' e v hv hm => hWC _ _ ?_⟩
        · (try dsimp only [sAsg, sIf, sRet, sRetN, sDrop, sNext, asg, setAll, eT, eOp, eUn, eLst, eTup, eCons, eNil, eVar, eC, eCall, eCB, eNot, eAnd, eOr, eTru, eAndT, eOrT, eNotT, eIf, ePart, eNoPart, eYes, eChain, eChain3, oI, oI0, oLt, oLe, oGt, oGe, oNeg, oSub, oMod, oMul, oDivW, eXp, eXa, eConsX, eCallX, eCallN, eLstX, eCBX, sDropX, sRetX, sAsgX, sRaise, sRaiseF, List.set_cons_zero, List.set_cons_succ, List.getElem?_cons_zero, List.getElem?_cons_succ, truD_bl, oNotN]); (try simp only [if_true, Bool.false_eq_true, if_false, decide_true, decide_false, Bool.not_true, Bool.not_false, List.length_cons, List.length_nil, sizeLine_eq, Nat.reduceAdd, Nat.reduceLeDiff, true_and, and_true, pw6, pw10, pw11, pw12, pw13, pw30, pw40, pw60, oNotN]); (try dsimp only [sAsg, sIf, sRet, sRetN, sDrop, sNext, asg, setAll, eT, eOp, eUn, eLst, eTup, eCons, eNil, eVar, eC, eCall, eCB, eNot, eAnd, eOr, eTru, eAndT, eOrT, eNotT, eIf, ePart, eNoPart, eYes, eChain, eChain3, oI, oI0, oLt, oLe, oGt, oGe, oNeg, oSub, oMod, oMul, oDivW, eXp, eXa, eConsX, eCallX, eCallN, eLstX, eCBX, sDropX, sRetX, sAsgX, sRaise, sRaiseF, List.set_cons_zero, List.set_cons_succ, List.getElem?_cons_zero, List.getElem?_cons_succ, truD_bl, oNotN])
          exact nxt _
        · have hbv := weak p2 e hm
          (try dsimp only [sAsg, sIf, sRet, sRetN, sDrop, sNext, asg, setAll, eT, eOp, eUn, eLst, eTup, eCons, eNil, eVar, eC, eCall, eCB, eNot, eAnd, eOr, eTru, eAndT, eOrT, eNotT, eIf, ePart, eNoPart, eYes, eChain, eChain3, oI, oI0, oLt, oLe, oGt, oGe, oNeg, oSub, oMod, oMul, oDivW, eXp, eXa, eConsX, eCallX, eCallN, eLstX, eCBX, sDropX, sRetX, sAsgX, sRaise, sRaiseF, List.set_cons_zero, List.set_cons_succ, List.getElem?_cons_zero, List.getElem?_cons_succ, truD_bl, oNotN]); (try simp only [if_true, Bool.false_eq_true, if_false, decide_true, decide_false, Bool.not_true, Bool.not_false, List.length_cons, List.length_nil, sizeLine_eq, Nat.reduceAdd, Nat.reduceLeDiff, true_and, and_true, pw6, pw10, pw11, pw12, pw13, pw30, pw40, pw60, oNotN]); (try dsimp only [sAsg, sIf, sRet, sRetN, sDrop, sNext, asg, setAll, eT, eOp, eUn, eLst, eTup, eCons, eNil, eVar, eC, eCall, eCB, eNot, eAnd, eOr, eTru, eAndT, eOrT, eNotT, eIf, ePart, eNoPart, eYes, eChain, eChain3, oI, oI0, oLt, oLe, oGt, oGe, oNeg, oSub, oMod, oMul, oDivW, eXp, eXa, eConsX, eCallX, eCallN, eLstX, eCBX, sDropX, sRetX, sAsgX, sRaise, sRaiseF, List.set_cons_zero, List.set_cons_succ, List.getElem?_cons_zero, List.getElem?_cons_succ, truD_bl, oNotN])
          rw [decide_eq_false (by omega : ¬ v < best)]
          (try dsimp only [sAsg, sIf, sRet, sRetN, sDrop, sNext, asg, setAll, eT, eOp, eUn, eLst, eTup, eCons, eNil, eVar, eC, eCall, eCB, eNot, eAnd, eOr, eTru, eAndT, eOrT, eNotT, eIf, ePart, eNoPart, eYes, eChain, eChain3, oI, oI0, oLt, oLe, oGt, oGe, oNeg, oSub, oMod, oMul, oDivW, eXp, eXa, eConsX, eCallX, eCallN, eLstX, eCBX, sDropX, sRetX, sAsgX, sRaise, sRaiseF, List.set_cons_zero, List.set_cons_succ, List.getElem?_cons_zero, List.getElem?_cons_succ, truD_bl]); (try simp only [if_true, Bool.false_eq_true, if_false, decide_true, decide_false, Bool.not_true, Bool.not_false, List.length_cons, List.length_nil, sizeLine_eq, Nat.reduceAdd, Nat.reduceLeDiff, true_and, and_true, pw6, pw10, pw11, pw12, pw13, pw30, pw40, pw60]); (try dsimp only [sAsg, sIf, sRet, sRetN, sDrop, sNext, asg, setAll, eT, eOp, eUn, eLst, eTup, eCons, eNil, eVar, eC, eCall, eCB, eNot, eAnd, eOr, eTru, eAndT, eOrT, eNotT, eIf, ePart, eNoPart, eYes, eChain, eChain3, oI, oI0, oLt, oLe, oGt, oGe, oNeg, oSub, oMod, oMul, oDivW, eXp, eXa, eConsX, eCallX, eCallN, eLstX, eCBX, sDropX, sRetX, sAsgX, sRaise, sRaiseF, List.set_cons_zero, List.set_cons_succ, List.getElem?_cons_zero, List.getElem?_cons_succ, truD_bl])
          exact nxt _
      · rintro s G' ⟨t, x, y, z, o9, o10, ok, tp, ts, tl, td, rfl, rfl⟩
        exact hW' _ _ ⟨x, y, z, _, _, _, _, ok, rfl, rfl⟩
    · rintro s G' ⟨x, y, z, o7, o8, o9, o10, ok, rfl, rfl⟩
      exact hW2 _ _ ⟨_, _, _, _, _, _, _, _, _, _, rfl⟩
  · rintro s G ⟨o1, o2, o3, o4, o5, o6, o7, o8, o9, o10, rfl⟩
    refine hW _ _ ?_
    (try dsimp only [sAsg, sIf, sRet, sRetN, sDrop, sNext, asg, setAll, eT, eOp, eUn, eLst, eTup, eCons, eNil, eVar, eC, eCall, eCB, eNot, eAnd, eOr, eTru, eAndT, eOrT, eNotT, eIf, ePart, eNoPart, eYes, eChain, eChain3, oI, oI0, oLt, oLe, oGt, oGe, oNeg, oSub, oMod, oMul, oDivW, eXp, eXa, eConsX, eCallX, eCallN, eLstX, eCBX, sDropX, sRetX, sAsgX, sRaise, sRaiseF, List.set_cons_zero, List.set_cons_succ, List.getElem?_cons_zero, List.getElem?_cons_succ, truD_bl]); (try simp only [if_true, Bool.false_eq_true, if_false, decide_true, decide_false, Bool.not_true, Bool.not_false, List.length_cons, List.length_nil, sizeLine_eq, Nat.reduceAdd, Nat.reduceLeDiff, true_and, and_true, pw6, pw10, pw11, pw12, pw13, pw30, pw40, pw60]); (try dsimp only [sAsg, sIf, sRet, sRetN, sDrop, sNext, asg, setAll, eT, eOp, eUn, eLst, eTup, eCons, eNil, eVar, eC, eCall, eCB, eNot, eAnd, eOr, eTru, eAndT, eOrT, eNotT, eIf, ePart, eNoPart, eYes, eChain, eChain3, oI, oI0, oLt, oLe, oGt, oGe, oNeg, oSub, oMod, oMul, oDivW, eXp, eXa, eConsX, eCallX, eCallN, eLstX, eCBX, sDropX, sRetX, sAsgX, sRaise, sRaiseF, List.set_cons_zero, List.set_cons_succ, List.getElem?_cons_zero, List.getElem?_cons_succ, truD_bl])
    exact fin_id (k _)
end DL
set_option Elab.async false
set_option linter.all false
set_option maxRecDepth 100000
set_option maxHeartbeats 0
namespace Row
open PySem PySem.Spec PyProof.Rows L2 DL
def top (i : Nat) : Stmt := PySem.Challenge.pw_benchworth_k59_whole_no_choice_beats_a_t.main.body.getD i (.Pass ⟨0, 0, 0, 0⟩)
def inC (st : Stmt) (j : Nat) : Stmt := match st with
  | .ClassDef _ _ _ body _ _ _ _ _ _ _ => body.getD j (.Pass ⟨0, 0, 0, 0⟩)
  | _ => .Pass ⟨0, 0, 0, 0⟩
abbrev s__law_begun : Stmt := top 21
theorem sc__law_begun : FnScope ["_law_script", "_law_k", "_law_cell", "_law_number", "_law_seed"] ["_law_script", "_law_k"] (defScope s__law_begun) := ⟨rfl, rfl, rfl, by decide +kernel, rfl, by decide +kernel, by decide +kernel⟩
abbrev s__law_take : Stmt := top 22
theorem sc__law_take : FnScope ["_law_state", "_law_many", "_law_found", "_law_made", "_law_turn"] ["_law_state", "_law_many"] (defScope s__law_take) := ⟨rfl, rfl, rfl, by decide +kernel, rfl, by decide +kernel, by decide +kernel⟩
abbrev s__law_name : Stmt := top 23
theorem sc__law_name : FnScope ["_law_state", "_law_k", "_law_letters", "_law_spelt", "_law_j"] ["_law_state", "_law_k"] (defScope s__law_name) := ⟨rfl, rfl, rfl, by decide +kernel, rfl, by decide +kernel, by decide +kernel⟩
abbrev s__law_ring : Stmt := top 24
theorem sc__law_ring : FnScope ["_law_state", "_law_most", "_law_size", "_law_stretches", "_law_k", "_law_begin", "_law_span", "_law_worth"] ["_law_state", "_law_most"] (defScope s__law_ring) := ⟨rfl, rfl, rfl, by decide +kernel, rfl, by decide +kernel, by decide +kernel⟩
abbrev s__law_moments : Stmt := top 25
theorem sc__law_moments : FnScope ["_law_ring_here", "_law_i", "_law_name_here", "_law_begin", "_law_span", "_law_worth", "_law_k"] ["_law_ring_here", "_law_i"] (defScope s__law_moments) := ⟨rfl, rfl, rfl, by decide +kernel, rfl, by decide +kernel, by decide +kernel⟩
abbrev s__law_is_light : Stmt := top 26
theorem sc__law_is_light : FnScope ["_law_ring_here", "_law_some", "_law_benches", "_law_loads", "_law_i", "_law_moment"] ["_law_ring_here", "_law_some", "_law_benches"] (defScope s__law_is_light) := ⟨rfl, rfl, rfl, by decide +kernel, rfl, by decide +kernel, by decide +kernel⟩
abbrev s__law_ring_choices : Stmt := top 27
theorem sc__law_ring_choices : FnScope ["_law_ring_here", "_law_benches", "_law_found", "_law_i", "_law_more", "_law_some"] ["_law_ring_here", "_law_benches"] (defScope s__law_ring_choices) := ⟨rfl, rfl, rfl, by decide +kernel, rfl, by decide +kernel, by decide +kernel⟩
abbrev s__law_load_in : Stmt := top 29
theorem sc__law_load_in : FnScope ["_law_ring_here", "_law_inside", "_law_moment", "_law_size", "_law_stretches", "_law_i"] ["_law_ring_here", "_law_inside", "_law_moment"] (defScope s__law_load_in) := ⟨rfl, rfl, rfl, by decide +kernel, rfl, by decide +kernel, by decide +kernel⟩
abbrev s__law_ring_paper : Stmt := top 28
theorem sc__law_ring_paper : FnScope ["_law_state", "_law_ring_here", "_law_prices", "_law_turn", "_law_moment"] ["_law_state", "_law_ring_here"] (defScope s__law_ring_paper) := ⟨rfl, rfl, rfl, by decide +kernel, rfl, by decide +kernel, by decide +kernel⟩
abbrev s__law_tree : Stmt := top 30
theorem sc__law_tree : FnScope ["_law_state", "_law_ring_here", "_law_benches", "_law_put", "_law_deep", "_law_inside", "_law_outside", "_law_crowds", "_law_free", "_law_i", "_law_one", "_law_moment"] ["_law_state", "_law_ring_here", "_law_benches", "_law_put", "_law_deep"] (defScope s__law_tree) := ⟨rfl, rfl, rfl, by decide +kernel, rfl, by decide +kernel, by decide +kernel⟩
abbrev s_RingWalk___init__ : Stmt := inC (top 18) 0
theorem sc_RingWalk___init__ : FnScope ["self", "ring", "benches"] ["self", "ring", "benches"] (defScope s_RingWalk___init__) := ⟨rfl, rfl, rfl, by decide +kernel, rfl, by decide +kernel, by decide +kernel⟩
abbrev s_is_whole : Stmt := top 4
theorem sc_is_whole : FnScope ["thing"] ["thing"] (defScope s_is_whole) := ⟨rfl, rfl, rfl, by decide +kernel, rfl, by decide +kernel, by decide +kernel⟩
abbrev s_is_price : Stmt := top 9
theorem sc_is_price : FnScope ["thing"] ["thing"] (defScope s_is_price) := ⟨rfl, rfl, rfl, by decide +kernel, rfl, by decide +kernel, by decide +kernel⟩
abbrev s_is_paper : Stmt := top 10
theorem sc_is_paper : FnScope ["thing", "one", "other"] ["thing"] (defScope s_is_paper) := ⟨rfl, rfl, rfl, by decide +kernel, rfl, by decide +kernel, by decide +kernel⟩
abbrev s_is_ring_paper : Stmt := top 14
theorem sc_is_ring_paper : FnScope ["ring", "thing", "moment", "price"] ["ring", "thing"] (defScope s_is_ring_paper) := ⟨rfl, rfl, rfl, by decide +kernel, rfl, by decide +kernel, by decide +kernel⟩
abbrev s_is_over_ring : Stmt := top 12
theorem sc_is_over_ring : FnScope ["ring", "i", "moment", "name", "begin", "span", "worth"] ["ring", "i", "moment"] (defScope s_is_over_ring) := ⟨rfl, rfl, rfl, by decide +kernel, rfl, by decide +kernel, by decide +kernel⟩
abbrev s_load_on : Stmt := top 13
theorem sc_load_on : FnScope ["ring", "some", "moment", "i"] ["ring", "some", "moment"] (defScope s_load_on) := ⟨rfl, rfl, rfl, by decide +kernel, rfl, by decide +kernel, by decide +kernel⟩
abbrev s_RingWalk_free : Stmt := inC (top 18) 1
theorem sc_RingWalk_free : FnScope ["self", "inside", "outside", "i"] ["self", "inside", "outside"] (defScope s_RingWalk_free) := ⟨rfl, rfl, rfl, by decide +kernel, rfl, by decide +kernel, by decide +kernel⟩
abbrev s_ring_rest : Stmt := top 15
theorem sc_ring_rest : FnScope ["ring", "i", "paper", "toll", "moment", "price"] ["ring", "i", "paper"] (defScope s_ring_rest) := ⟨rfl, rfl, rfl, by decide +kernel, rfl, by decide +kernel, by decide +kernel⟩
abbrev s_RingWalk_priced : Stmt := inC (top 18) 2
theorem sc_RingWalk_priced : FnScope ["self", "paper", "inside", "outside", "found", "moment", "price", "i"] ["self", "paper", "inside", "outside"] (defScope s_RingWalk_priced) := ⟨rfl, rfl, rfl, by decide +kernel, rfl, by decide +kernel, by decide +kernel⟩
abbrev s_RingWalk_is_split : Stmt := inC (top 18) 4
theorem sc_RingWalk_is_split : FnScope ["self", "thing", "inside", "outside"] ["self", "thing", "inside", "outside"] (defScope s_RingWalk_is_split) := ⟨rfl, rfl, rfl, by decide +kernel, rfl, by decide +kernel, by decide +kernel⟩
abbrev s_RingWalk_is_crowd : Stmt := inC (top 18) 3
theorem sc_RingWalk_is_crowd : FnScope ["self", "moment", "inside"] ["self", "moment", "inside"] (defScope s_RingWalk_is_crowd) := ⟨rfl, rfl, rfl, by decide +kernel, rfl, by decide +kernel, by decide +kernel⟩
abbrev s_RingWalk_go : Stmt := inC (top 18) 5
theorem sc_RingWalk_go : FnScope ["self", "thing", "inside", "outside", "way"] ["self", "thing", "inside", "outside", "way"] (defScope s_RingWalk_go) := ⟨rfl, rfl, rfl, by decide +kernel, rfl, by decide +kernel, by decide +kernel⟩
abbrev s_tree_claim : Stmt := top 19
theorem sc_tree_claim : FnScope ["ring", "benches", "thing", "walk"] ["ring", "benches", "thing"] (defScope s_tree_claim) := ⟨rfl, rfl, rfl, by decide +kernel, rfl, by decide +kernel, by decide +kernel⟩
abbrev s__law_told : Stmt := top 32
theorem sc__law_told : FnScope ["_law_ring_here", "_law_benches", "_law_tree_here", "_law_kept", "_law_found"] ["_law_ring_here", "_law_benches", "_law_tree_here"] (defScope s__law_told) := ⟨rfl, rfl, rfl, by decide +kernel, rfl, by decide +kernel, by decide +kernel⟩
abbrev s__law_bent : Stmt := top 31
theorem sc__law_bent : FnScope ["_law_state", "_law_ring_here", "_law_tree_here", "_law_way", "_law_one", "_law_other", "_law_paper", "_law_at", "_law_moment", "_law_price", "_law_some"] ["_law_state", "_law_ring_here", "_law_tree_here"] (defScope s__law_bent) := ⟨rfl, rfl, rfl, by decide +kernel, rfl, by decide +kernel, by decide +kernel⟩
abbrev s_law : Stmt := top 33
theorem sc_law : FnScope ["_law_script", "_law_k", "_law_state", "_law_ring_here", "_law_benches", "_law_choices", "_law_best", "_law_turn", "_law_tree_here", "_law_found", "_law_lap", "_law_some", "_law_i"] ["_law_script"] (defScope s_law) := ⟨rfl, rfl, rfl, by decide +kernel, rfl, by decide +kernel, by decide +kernel⟩
abbrev s_NoTree___init__ : Stmt := inC (top 2) 0
theorem sc_NoTree___init__ : FnScope ["self", "way"] ["self", "way"] (defScope s_NoTree___init__) := ⟨rfl, rfl, rfl, by decide +kernel, rfl, by decide +kernel, by decide +kernel⟩
section
variable {P : Program} {w : World} {K : PySem.W.Frag} {mg : Str → Option Value} {base : Heap}
theorem ok__law_begun (Df_ : Df K mg "_law_begun" s__law_begun) (b_len : mg "len" = none) (b_max : mg "max" = none) : Cal P w K mg base 1 "_law_begun" ["_law_script", "_law_k"] (F__law_begun) := by
  refine cal_ok (N := ["_law_script", "_law_k", "_law_cell", "_law_number", "_law_seed"]) (es := r__law_begun) Df_ sc__law_begun (fun _ _ _ _ _ _ us hl => match us, hl with | [_, _], _ => rfl) (fun f cdv A outer s H E hr => ?_) d__law_begun
  exact (jss_cons (js_set (i := 2) sc__law_begun.nd rfl (by first | exact Or.inl rfl | exact Or.inr rfl) j_int)
      (jss_cons (js_if (jt_cmp op_lt lo_lt (jv 1) (j_cb call_len lc_len rfl b_len PySem.boot_len (ja_cons (jv 0) ja_nil)) (nomark _)) (jss_one (js_set (i := 2) sc__law_begun.nd rfl (by first | exact Or.inl rfl | exact Or.inr rfl) (j_ix (jv 0) (jv 1)))) jss_nil)
      (jss_cons (js_set (i := 3) sc__law_begun.nd rfl (by first | exact Or.inl rfl | exact Or.inr rfl) (j_cb (call_max2 rfl) lc_max2 rfl b_max (by decide +kernel) (ja_cons (jv 2) (ja_cons (j_sub (j_neg j_int) (jv 2)) ja_nil))))
      (jss_cons (js_set (i := 4) sc__law_begun.nd rfl (by first | exact Or.inl rfl | exact Or.inr rfl) (j_mod (j_add (j_add (jv 3) (j_mul (j_mul j_int (jv 1)) (jv 1))) j_int) j_int))
      (jss_cons (js_if (jt_cmp op_lt lo_lt (jv 3) (j_pow j_int j_int) (nomark _)) (jss_one (js_set (i := 3) sc__law_begun.nd rfl (by first | exact Or.inl rfl | exact Or.inr rfl) j_int)) jss_nil)
      (jss_one (js_ret (j_lstO (ja_cons (jv 3) (ja_cons (jv 4) (ja_cons j_int ja_nil)))))))))))
theorem ok__law_take (Df_ : Df K mg "_law_take" s__law_take) (b_range : mg "range" = none) (b_int : mg "int" = none) : Cal P w K mg base 1 "_law_take" ["_law_state", "_law_many"] (F__law_take) := by
  refine cal_ok (N := ["_law_state", "_law_many", "_law_found", "_law_made", "_law_turn"]) (es := r__law_take) Df_ sc__law_take (fun _ _ _ _ _ _ us hl => match us, hl with | [_, _], _ => rfl) (fun f cdv A outer s H E hr => ?_) d__law_take
  exact (jss_cons (js_if (jt_cmp op_gt lo_gt (j_ix (jv 0) j_int) j_int (nomark _)) (jss_cons (js_set (i := 2) sc__law_take.nd rfl (by first | exact Or.inl rfl | exact Or.inr rfl) (j_mod (j_ix (jv 0) j_int) (jv 1)))
      (jss_cons (js_setI (j_div (j_ix (jv 0) j_int) (jv 1)) (jv 0) j_int)
      (jss_one (js_ret (jv 2))))) jss_nil)
      (jss_cons (js_set (i := 3) sc__law_take.nd rfl (by first | exact Or.inl rfl | exact Or.inr rfl) j_int)
      (jss_cons (js_for PassesOwn.never rfl (ji_range1 rfl b_range (ja_cons (j_add j_int (j_ct call_int1 lc_int1 rfl b_int (by decide +kernel) (ja_cons (j_cmp op_gt lo_gt (jv 1) (j_pow j_int j_int) (nomark _)) ja_nil))) ja_nil)) (jg_name (i := 4) sc__law_take.nd rfl (by first | exact Or.inl rfl | exact Or.inr rfl))
      (jss_cons (js_setI (j_add (j_ix (jv 0) j_int) j_int) (jv 0) j_int)
      (jss_cons (js_setI (j_mod (j_add (j_mul (j_ix (jv 0) j_int) j_int) (j_mul j_int (j_ix (jv 0) j_int))) j_int) (jv 0) j_int)
      (jss_one (js_set (i := 3) sc__law_take.nd rfl (by first | exact Or.inl rfl | exact Or.inr rfl) (j_add (j_mul (jv 3) j_int) (j_mod (j_mul (j_ix (jv 0) j_int) (j_ix (jv 0) j_int)) j_int)))))))
      (jss_one (js_ret (j_mod (j_div (jv 3) j_int) (jv 1)))))))
theorem ok__law_name (Df_ : Df K mg "_law_name" s__law_name) (b_range : mg "range" = none) (c__law_take : Cal P w K mg base 1 "_law_take" ["_law_state", "_law_many"] F__law_take) : Cal P w K mg base 2 "_law_name" ["_law_state", "_law_k"] (F__law_name) := by
  refine cal_ok (N := ["_law_state", "_law_k", "_law_letters", "_law_spelt", "_law_j"]) (es := r__law_name) Df_ sc__law_name (fun _ _ _ _ _ _ us hl => match us, hl with | [_, _], _ => rfl) (fun f cdv A outer s H E hr => ?_) d__law_name
  exact (jss_cons (js_set (i := 2) sc__law_name.nd rfl (by first | exact Or.inl rfl | exact Or.inr rfl) j_str)
      (jss_cons (js_set (i := 3) sc__law_name.nd rfl (by first | exact Or.inl rfl | exact Or.inr rfl) j_str)
      (jss_cons (js_for PassesOwn.never rfl (ji_range1 rfl b_range (ja_cons (j_cal c__law_take (hr.mono (by decide)) rfl (ja_cons (jv 0) (ja_cons j_int ja_nil))) ja_nil)) (jg_name (i := 4) sc__law_name.nd rfl (by first | exact Or.inl rfl | exact Or.inr rfl))
      (jss_one (js_set (i := 3) sc__law_name.nd rfl (by first | exact Or.inl rfl | exact Or.inr rfl) (j_add (jv 3) (j_ix (jv 2) (j_cal c__law_take (hr.mono (by decide)) rfl (ja_cons (jv 0) (ja_cons j_int ja_nil))))))))
      (jss_one (js_ret (j_add (jv 3) (j_ix (jv 2) (jv 1))))))))
theorem ok__law_ring (Df_ : Df K mg "_law_ring" s__law_ring) (b_range : mg "range" = none) (b_min : mg "min" = none) (c__law_take : Cal P w K mg base 1 "_law_take" ["_law_state", "_law_many"] F__law_take) (c__law_name : Cal P w K mg base 2 "_law_name" ["_law_state", "_law_k"] F__law_name) : Cal P w K mg base 3 "_law_ring" ["_law_state", "_law_most"] (F__law_ring) := by
  refine cal_ok (N := ["_law_state", "_law_most", "_law_size", "_law_stretches", "_law_k", "_law_begin", "_law_span", "_law_worth"]) (es := r__law_ring) Df_ sc__law_ring (fun _ _ _ _ _ _ us hl => match us, hl with | [_, _], _ => rfl) (fun f cdv A outer s H E hr => ?_) d__law_ring
  have hu := hr.units
  exact (jss_cons (js_set (i := 2) sc__law_ring.nd rfl (by first | exact Or.inl rfl | exact Or.inr rfl) (j_add j_int (j_cal c__law_take (hr.mono (by decide)) rfl (ja_cons (jv 0) (ja_cons (j_ix (j_lst (ja_cons j_int (ja_cons j_int (ja_cons j_int (ja_cons j_int ja_nil))))) (j_cal c__law_take (hr.mono (by decide)) rfl (ja_cons (jv 0) (ja_cons j_int ja_nil)))) ja_nil)))))
      (jss_cons (js_set (i := 3) sc__law_ring.nd rfl (by first | exact Or.inl rfl | exact Or.inr rfl) (j_lstO ja_nil))
      (jss_cons (js_for PassesOwn.never rfl (ji_range1 rfl b_range (ja_cons (j_cal c__law_take (hr.mono (by decide)) rfl (ja_cons (jv 0) (ja_cons (j_add (jv 1) j_int) ja_nil))) ja_nil)) (jg_name (i := 4) sc__law_ring.nd rfl (by first | exact Or.inl rfl | exact Or.inr rfl))
      (jss_cons (js_set (i := 5) sc__law_ring.nd rfl (by first | exact Or.inl rfl | exact Or.inr rfl) (j_cal c__law_take (hr.mono (by decide)) rfl (ja_cons (jv 0) (ja_cons (jv 2) ja_nil))))
      (jss_cons (js_set (i := 6) sc__law_ring.nd rfl (by first | exact Or.inl rfl | exact Or.inr rfl) (j_add j_int (j_cal c__law_take (hr.mono (by decide)) rfl (ja_cons (jv 0) (ja_cons (j_ix (j_lst (ja_cons (jv 2) (ja_cons (j_add j_int (j_div (jv 2) j_int)) ja_nil))) (j_cal c__law_take (hr.mono (by decide)) rfl (ja_cons (jv 0) (ja_cons j_int ja_nil)))) ja_nil)))))
      (jss_cons (js_if (JW.jt (jw_and (jt_cmp op_gt lo_gt (jv 4) j_int (nomark _)) (jw_and1 (jt_cmp (op_eqD hu) lo_eq (j_cal c__law_take (hr.mono (by decide)) rfl (ja_cons (jv 0) (ja_cons j_int ja_nil))) j_int (nomark _))))) (jss_one (js_asgTup (j_slT (j_ix (jv 3) (j_neg j_int)) (jo_some j_int) (jo_some j_int)) (jg_tup rfl (jgs_cons (jg_name (i := 5) sc__law_ring.nd rfl (by first | exact Or.inl rfl | exact Or.inr rfl)) (jgs_cons (jg_name (i := 6) sc__law_ring.nd rfl (by first | exact Or.inl rfl | exact Or.inr rfl)) jgs_nil))))) jss_nil)
      (jss_cons (js_set (i := 7) sc__law_ring.nd rfl (by first | exact Or.inl rfl | exact Or.inr rfl) (j_cal c__law_take (hr.mono (by decide)) rfl (ja_cons (jv 0) (ja_cons (j_ix (j_lst (ja_cons j_int (ja_cons j_int (ja_cons j_int (ja_cons (j_add (j_pow j_int j_int) j_int) ja_nil))))) (j_cal c__law_take (hr.mono (by decide)) rfl (ja_cons (jv 0) (ja_cons j_int ja_nil)))) ja_nil))))
      (jss_one (js_expr (j_bm PySem.F.plainAttrs_list PySem.F.slot_list_append PySem.F.type_list_append mt_append lm_app (jv 3) (ja_cons (j_tup (ja_cons (j_cal c__law_name (hr.mono (by decide)) rfl (ja_cons (jv 0) (ja_cons (jv 4) ja_nil))) (ja_cons (jv 5) (ja_cons (j_cb (call_min2 rfl) lc_min2 rfl b_min (by decide +kernel) (ja_cons (jv 2) (ja_cons (jv 6) ja_nil))) (ja_cons (jv 7) ja_nil))))) ja_nil)))))))))
      (jss_one (js_ret (j_tup (ja_cons (jv 2) (ja_cons (jv 3) ja_nil))))))))
theorem ok__law_moments (Df_ : Df K mg "_law_moments" s__law_moments) (b_range : mg "range" = none) : Cal P w K mg base 1 "_law_moments" ["_law_ring_here", "_law_i"] (F__law_moments) := by
  refine cal_ok (N := ["_law_ring_here", "_law_i", "_law_name_here", "_law_begin", "_law_span", "_law_worth", "_law_k"]) (es := r__law_moments) Df_ sc__law_moments (fun _ _ _ _ _ _ us hl => match us, hl with | [_, _], _ => rfl) (fun f cdv A outer s H E hr => ?_) d__law_moments
  exact (jss_cons (js_asgTup (j_ix (j_ix (jv 0) j_int) (jv 1)) (jg_tup rfl (jgs_cons (jg_name (i := 2) sc__law_moments.nd rfl (by first | exact Or.inl rfl | exact Or.inr rfl)) (jgs_cons (jg_name (i := 3) sc__law_moments.nd rfl (by first | exact Or.inl rfl | exact Or.inr rfl)) (jgs_cons (jg_name (i := 4) sc__law_moments.nd rfl (by first | exact Or.inl rfl | exact Or.inr rfl)) (jgs_cons (jg_name (i := 5) sc__law_moments.nd rfl (by first | exact Or.inl rfl | exact Or.inr rfl)) jgs_nil))))))
      (jss_one (js_ret (j_lc (own := [("_law_k", 6)]) rfl sc__law_moments.nd (ji_range1 rfl b_range (ja_cons (jv 4) ja_nil)) (blkOk_by (own := [("_law_k", 6)]) (N := ["_law_ring_here", "_law_i", "_law_name_here", "_law_begin", "_law_span", "_law_worth", "_law_k"]) (sc := defScope s__law_moments) (by decide +kernel)) (fun _ _ _ _ _ => (jg_name (i := 6) sc__law_moments.nd rfl (by first | exact Or.inl rfl | exact Or.inr rfl))) (fun _ _ _ _ _ => jts_nil) (fun _ _ _ _ _ => (j_mod (j_add (jv 3) (jv 6)) (j_ix (jv 0) j_int)))))))
theorem ok__law_is_light (Df_ : Df K mg "_law_is_light" s__law_is_light) (b_max : mg "max" = none) (c__law_moments : Cal P w K mg base 1 "_law_moments" ["_law_ring_here", "_law_i"] F__law_moments) : Cal P w K mg base 2 "_law_is_light" ["_law_ring_here", "_law_some", "_law_benches"] (F__law_is_light) := by
  refine cal_ok (N := ["_law_ring_here", "_law_some", "_law_benches", "_law_loads", "_law_i", "_law_moment"]) (es := r__law_is_light) Df_ sc__law_is_light (fun _ _ _ _ _ _ us hl => match us, hl with | [_, _, _], _ => rfl) (fun f cdv A outer s H E hr => ?_) d__law_is_light
  exact (jss_cons (js_set (i := 3) sc__law_is_light.nd rfl (by first | exact Or.inl rfl | exact Or.inr rfl) (j_repO (j_lst (ja_cons j_int ja_nil)) (j_ix (jv 0) j_int)))
      (jss_cons (js_for PassesOwn.never rfl (ji_list (jv 1)) (jg_name (i := 4) sc__law_is_light.nd rfl (by first | exact Or.inl rfl | exact Or.inr rfl))
      (jss_one (js_for PassesOwn.never rfl (ji_list (j_cal c__law_moments (hr.mono (by decide)) rfl (ja_cons (jv 0) (ja_cons (jv 4) ja_nil)))) (jg_name (i := 5) sc__law_is_light.nd rfl (by first | exact Or.inl rfl | exact Or.inr rfl))
      (jss_one (js_setI (j_add (j_ix (jv 3) (jv 5)) j_int) (jv 3) (jv 5))))))
      (jss_one (js_ret (j_cmp op_le lo_le (j_cb (cr_max rfl) lc_max rfl b_max (by decide +kernel) (ja_cons (jv 3) ja_nil)) (jv 2) (nomark _))))))
theorem ok__law_ring_choices (Df_ : Df K mg "_law_ring_choices" s__law_ring_choices) (b_range : mg "range" = none) (b_len : mg "len" = none) (c__law_is_light : Cal P w K mg base 2 "_law_is_light" ["_law_ring_here", "_law_some", "_law_benches"] F__law_is_light) : Cal P w K mg base 3 "_law_ring_choices" ["_law_ring_here", "_law_benches"] (F__law_ring_choices) := by
  refine cal_ok (N := ["_law_ring_here", "_law_benches", "_law_found", "_law_i", "_law_more", "_law_some"]) (es := r__law_ring_choices) Df_ sc__law_ring_choices (fun _ _ _ _ _ _ us hl => match us, hl with | [_, _], _ => rfl) (fun f cdv A outer s H E hr => ?_) d__law_ring_choices
  exact (jss_cons (js_set (i := 2) sc__law_ring_choices.nd rfl (by first | exact Or.inl rfl | exact Or.inr rfl) (j_lst (ja_cons (j_lst ja_nil) ja_nil)))
      (jss_cons (js_for PassesOwn.never rfl (ji_range1 rfl b_range (ja_cons (j_cb call_len lc_len rfl b_len PySem.boot_len (ja_cons (j_ix (jv 0) j_int) ja_nil)) ja_nil)) (jg_name (i := 3) sc__law_ring_choices.nd rfl (by first | exact Or.inl rfl | exact Or.inr rfl))
      (jss_cons (js_setLc (i := 4) (own := [("_law_some", 5)]) rfl sc__law_ring_choices.nd rfl rfl (sw_true rfl rfl rfl (by decide +kernel)) (ji_list (jv 2)) (blkOk_by (own := [("_law_some", 5)]) (N := ["_law_ring_here", "_law_benches", "_law_found", "_law_i", "_law_more", "_law_some"]) (sc := defScope s__law_ring_choices) (by decide +kernel)) (fun _ _ _ _ _ => (jg_name (i := 5) sc__law_ring_choices.nd rfl (by first | exact Or.inl rfl | exact Or.inr rfl))) (fun _ _ _ _ _ => jts_nil) (fun _ _ _ _ _ => (j_add (jv 5) (j_lst (ja_cons (jv 3) ja_nil)))))
      (jss_one (js_set (i := 2) sc__law_ring_choices.nd rfl (by first | exact Or.inl rfl | exact Or.inr rfl) (j_add (jv 2) (j_lc (own := [("_law_some", 5)]) rfl sc__law_ring_choices.nd (ji_list (jv 4)) (blkOk_by (own := [("_law_some", 5)]) (N := ["_law_ring_here", "_law_benches", "_law_found", "_law_i", "_law_more", "_law_some"]) (sc := defScope s__law_ring_choices) (by decide +kernel)) (fun _ _ _ _ _ => (jg_name (i := 5) sc__law_ring_choices.nd rfl (by first | exact Or.inl rfl | exact Or.inr rfl))) (fun _ _ _ _ _ => (jts_one (jt_tru (j_cal c__law_is_light (hr.mono (by decide)) rfl (ja_cons (jv 0) (ja_cons (jv 5) (ja_cons (jv 1) ja_nil))))))) (fun _ _ _ _ _ => (jv 5))))))))
      (jss_one (js_ret (jv 2)))))
theorem ok__law_load_in (Df_ : Df K mg "_law_load_in" s__law_load_in) (b_len : mg "len" = none) : Cal P w K mg base 1 "_law_load_in" ["_law_ring_here", "_law_inside", "_law_moment"] (F__law_load_in) := by
  refine cal_ok (N := ["_law_ring_here", "_law_inside", "_law_moment", "_law_size", "_law_stretches", "_law_i"]) (es := r__law_load_in) Df_ sc__law_load_in (fun _ _ _ _ _ _ us hl => match us, hl with | [_, _, _], _ => rfl) (fun f cdv A outer s H E hr => ?_) d__law_load_in
  exact (jss_cons (js_asgTup (jv 0) (jg_tup rfl (jgs_cons (jg_name (i := 3) sc__law_load_in.nd rfl (by first | exact Or.inl rfl | exact Or.inr rfl)) (jgs_cons (jg_name (i := 4) sc__law_load_in.nd rfl (by first | exact Or.inl rfl | exact Or.inr rfl)) jgs_nil))))
      (jss_one (js_ret (j_cb call_len lc_len rfl b_len PySem.boot_len (ja_cons (j_lc (own := [("_law_i", 5)]) rfl sc__law_load_in.nd (ji_list (jv 1)) (blkOk_by (own := [("_law_i", 5)]) (N := ["_law_ring_here", "_law_inside", "_law_moment", "_law_size", "_law_stretches", "_law_i"]) (sc := defScope s__law_load_in) (by decide +kernel)) (fun _ _ _ _ _ => (jg_name (i := 5) sc__law_load_in.nd rfl (by first | exact Or.inl rfl | exact Or.inr rfl))) (fun _ _ _ _ _ => (jts_one (jt_cmp op_lt lo_lt (j_mod (j_sub (jv 2) (j_ix (j_ix (jv 4) (jv 5)) j_int)) (jv 3)) (j_ix (j_ix (jv 4) (jv 5)) j_int) (nomark _)))) (fun _ _ _ _ _ => (jv 5))) ja_nil)))))
theorem ok__law_ring_paper (Df_ : Df K mg "_law_ring_paper" s__law_ring_paper) (b_range : mg "range" = none) (b_sorted : mg "sorted" = none) (c__law_take : Cal P w K mg base 1 "_law_take" ["_law_state", "_law_many"] F__law_take) : Cal P w K mg base 2 "_law_ring_paper" ["_law_state", "_law_ring_here"] (F__law_ring_paper57) := by
  refine cal_ok (N := ["_law_state", "_law_ring_here", "_law_prices", "_law_turn", "_law_moment"]) (es := r__law_ring_paper57) Df_ sc__law_ring_paper (fun _ _ _ _ _ _ us hl => match us, hl with | [_, _], _ => rfl) (fun f cdv A outer s H E hr => ?_) d__law_ring_paper57
  have hu1 := DL.hu_of hr
  exact (jss_cons (js_set (i := 2) sc__law_ring_paper.nd rfl (by first | exact Or.inl rfl | exact Or.inr rfl) j_dnewO)
      (jss_cons (js_for PassesOwn.never rfl (ji_range1 rfl b_range (ja_cons (j_cal c__law_take (hr.mono (by decide)) rfl (ja_cons (jv 0) (ja_cons j_int ja_nil))) ja_nil)) (jg_name (i := 3) sc__law_ring_paper.nd rfl (by first | exact Or.inl rfl | exact Or.inr rfl))
      (jss_cons (js_set (i := 4) sc__law_ring_paper.nd rfl (by first | exact Or.inl rfl | exact Or.inr rfl) (j_cal c__law_take (hr.mono (by decide)) rfl (ja_cons (jv 0) (ja_cons (j_ix (jv 1) j_int) ja_nil))))
      (jss_one (js_putD hu1 (j_add j_int (j_cal c__law_take (hr.mono (by decide)) rfl (ja_cons (jv 0) (ja_cons (j_ix (j_lst (ja_cons j_int (ja_cons j_int (ja_cons j_int (ja_cons (JE.imp (j_pow j_int j_int) (pwK (v := 1000000000000) (by decide +kernel))) ja_nil))))) (j_cal c__law_take (hr.mono (by decide)) rfl (ja_cons (jv 0) (ja_cons j_int ja_nil)))) ja_nil)))) (jv 2) (jv 4)))))
      (jss_one (js_ret (j_lc (own := [("_law_moment", 4)]) rfl sc__law_ring_paper.nd (ji_list (j_cb (call_sortedDI rfl) lc_sortedDI rfl b_sorted (by decide +kernel) (ja_cons (jv 2) ja_nil))) (blkOk_by (own := [("_law_moment", 4)]) (N := ["_law_state", "_law_ring_here", "_law_prices", "_law_turn", "_law_moment"]) (sc := defScope s__law_ring_paper) (by decide +kernel)) (fun _ _ _ _ _ => (jg_name (i := 4) sc__law_ring_paper.nd rfl (by first | exact Or.inl rfl | exact Or.inr rfl))) (fun _ _ _ _ _ => jts_nil) (fun _ _ _ _ _ => (j_tup (ja_cons (jv 4) (ja_cons (j_dget hu1 (jv 2) (jv 4)) ja_nil)))))))))
theorem ok0__law_tree (Df_ : Df K mg "_law_tree" s__law_tree) (b_range : mg "range" = none) (b_len : mg "len" = none) (c__law_load_in : Cal P w K mg base 1 "_law_load_in" ["_law_ring_here", "_law_inside", "_law_moment"] F__law_load_in) (c__law_take : Cal P w K mg base 1 "_law_take" ["_law_state", "_law_many"] F__law_take) (c__law_ring_paper : Cal P w K mg base 2 "_law_ring_paper" ["_law_state", "_law_ring_here"] F__law_ring_paper57) : Cal P w K mg base 3 "_law_tree" ["_law_state", "_law_ring_here", "_law_benches", "_law_put", "_law_deep"] (F__law_tree 0) := by
  refine cal_ok (N := ["_law_state", "_law_ring_here", "_law_benches", "_law_put", "_law_deep", "_law_inside", "_law_outside", "_law_crowds", "_law_free", "_law_i", "_law_one", "_law_moment"]) (es := (fun _ _ _ => False)) Df_ sc__law_tree (fun _ _ _ _ _ _ us hl => match us, hl with | [_, _, _, _, _], _ => rfl) (fun f cdv A outer s H E hr => ?_) fun _ _ _ h => h
  exact jss_false
theorem ok__law_tree (Df_ : Df K mg "_law_tree" s__law_tree) (b_range : mg "range" = none) (b_len : mg "len" = none) (c__law_load_in : Cal P w K mg base 1 "_law_load_in" ["_law_ring_here", "_law_inside", "_law_moment"] F__law_load_in) (c__law_take : Cal P w K mg base 1 "_law_take" ["_law_state", "_law_many"] F__law_take) (c__law_ring_paper : Cal P w K mg base 2 "_law_ring_paper" ["_law_state", "_law_ring_here"] F__law_ring_paper57) (n : Nat) (c__law_tree : Cal P w K mg base (3 + n) "_law_tree" ["_law_state", "_law_ring_here", "_law_benches", "_law_put", "_law_deep"] (F__law_tree n)) : Cal P w K mg base (3 + n + 1) "_law_tree" ["_law_state", "_law_ring_here", "_law_benches", "_law_put", "_law_deep"] (F__law_tree (n + 1)) := by
  refine cal_ok (N := ["_law_state", "_law_ring_here", "_law_benches", "_law_put", "_law_deep", "_law_inside", "_law_outside", "_law_crowds", "_law_free", "_law_i", "_law_one", "_law_moment"]) (es := (r__law_tree n)) Df_ sc__law_tree (fun _ _ _ _ _ _ us hl => match us, hl with | [_, _, _, _, _], _ => rfl) (fun f cdv A outer s H E hr => ?_) (d__law_tree n)
  have hu := hr.units
  exact (jss_cons (js_asgTup (jv 3) (jg_tup rfl (jgs_cons (jg_name (i := 5) sc__law_tree.nd rfl (by first | exact Or.inl rfl | exact Or.inr rfl)) (jgs_cons (jg_name (i := 6) sc__law_tree.nd rfl (by first | exact Or.inl rfl | exact Or.inr rfl)) jgs_nil))))
      (jss_cons (js_setLc (i := 7) (own := [("_law_moment", 11)]) rfl sc__law_tree.nd rfl rfl (sw_true rfl rfl rfl (by decide +kernel)) (ji_range1 rfl b_range (ja_cons (j_ix (jv 1) j_int) ja_nil)) (blkOk_by (own := [("_law_moment", 11)]) (N := ["_law_state", "_law_ring_here", "_law_benches", "_law_put", "_law_deep", "_law_inside", "_law_outside", "_law_crowds", "_law_free", "_law_i", "_law_one", "_law_moment"]) (sc := defScope s__law_tree) (by decide +kernel)) (fun _ _ _ _ _ => (jg_name (i := 11) sc__law_tree.nd rfl (by first | exact Or.inl rfl | exact Or.inr rfl))) (fun _ _ _ _ _ => (jts_one (jt_cmp op_gt lo_gt (j_cal c__law_load_in (hr.mono (by omega)) rfl (ja_cons (jv 1) (ja_cons (jv 5) (ja_cons (jv 11) ja_nil)))) (jv 2) (nomark _)))) (fun _ _ _ _ _ => (jv 11)))
      (jss_cons (js_if (JW.jt (jw_and (jt_cmp (op_neD hu) lo_ne (jv 7) (j_lst ja_nil) (nomark _)) (jw_and1 (jt_cmp op_gt lo_gt (j_cal c__law_take (hr.mono (by omega)) rfl (ja_cons (jv 0) (ja_cons j_int ja_nil))) j_int (nomark _))))) (jss_one (js_ret (j_tup (ja_cons j_str (ja_cons (j_ix (jv 7) (j_cal c__law_take (hr.mono (by omega)) rfl (ja_cons (jv 0) (ja_cons (j_cb call_len lc_len rfl b_len PySem.boot_len (ja_cons (jv 7) ja_nil)) ja_nil)))) ja_nil))))) jss_nil)
      (jss_cons (js_setLc (i := 8) (own := [("_law_i", 9)]) rfl sc__law_tree.nd rfl rfl (sw_true rfl rfl rfl (by decide +kernel)) (ji_range1 rfl b_range (ja_cons (j_cb call_len lc_len rfl b_len PySem.boot_len (ja_cons (j_ix (jv 1) j_int) ja_nil)) ja_nil)) (blkOk_by (own := [("_law_i", 9)]) (N := ["_law_state", "_law_ring_here", "_law_benches", "_law_put", "_law_deep", "_law_inside", "_law_outside", "_law_crowds", "_law_free", "_law_i", "_law_one", "_law_moment"]) (sc := defScope s__law_tree) (by decide +kernel)) (fun _ _ _ _ _ => (jg_name (i := 9) sc__law_tree.nd rfl (by first | exact Or.inl rfl | exact Or.inr rfl))) (fun _ _ _ _ _ => (jts_one (JW.jt (jw_and (jt_cmp op_notIn_seq lo_in (jv 9) (jv 5) rfl) (jw_and1 (jt_cmp op_notIn_seq lo_in (jv 9) (jv 6) rfl)))))) (fun _ _ _ _ _ => (jv 9)))
      (jss_cons (js_if (JW.jt (jw_or (jt_cmp (op_eqD hu) lo_eq (jv 8) (j_lst ja_nil) (nomark _)) (jw_or (jt_cmp (op_eqD hu) lo_eq (jv 4) j_int (nomark _)) (jw_or1 (jt_cmp (op_eqD hu) lo_eq (j_cal c__law_take (hr.mono (by omega)) rfl (ja_cons (jv 0) (ja_cons j_int ja_nil))) j_int (nomark _)))))) (jss_one (js_ret (j_tup (ja_cons j_str (ja_cons (j_cal c__law_ring_paper (hr.mono (by omega)) rfl (ja_cons (jv 0) (ja_cons (jv 1) ja_nil))) ja_nil))))) jss_nil)
      (jss_cons (js_set (i := 9) sc__law_tree.nd rfl (by first | exact Or.inl rfl | exact Or.inr rfl) (j_ix (jv 8) (j_cal c__law_take (hr.mono (by omega)) rfl (ja_cons (jv 0) (ja_cons (j_cb call_len lc_len rfl b_len PySem.boot_len (ja_cons (jv 8) ja_nil)) ja_nil)))))
      (jss_cons (js_set (i := 10) sc__law_tree.nd rfl (by first | exact Or.inl rfl | exact Or.inr rfl) (j_cal c__law_tree (hr.mono (by omega)) rfl (ja_cons (jv 0) (ja_cons (jv 1) (ja_cons (jv 2) (ja_cons (j_tup (ja_cons (j_add (jv 5) (j_lst (ja_cons (jv 9) ja_nil))) (ja_cons (jv 6) ja_nil))) (ja_cons (j_sub (jv 4) j_int) ja_nil)))))))
      (jss_one (js_ret (j_tup (ja_cons j_str (ja_cons (jv 9) (ja_cons (j_lst (ja_cons (jv 10) (ja_cons (j_cal c__law_tree (hr.mono (by omega)) rfl (ja_cons (jv 0) (ja_cons (jv 1) (ja_cons (jv 2) (ja_cons (j_tup (ja_cons (jv 5) (ja_cons (j_add (jv 6) (j_lst (ja_cons (jv 9) ja_nil))) ja_nil))) (ja_cons (j_sub (jv 4) j_int) ja_nil)))))) ja_nil))) ja_nil)))))))))))))
theorem ok_RingWalk___init__ (Df_ : DfM K "RingWalk" "__init__" "RingWalk.__init__" s_RingWalk___init__) (kc_RingWalk : Cls K (He.ga K "RingWalk")) (kn_RingWalk_ring : NoAttr K (He.ga K "RingWalk") "ring") (kn_RingWalk_benches : NoAttr K (He.ga K "RingWalk") "benches") (kn_RingWalk_met : NoAttr K (He.ga K "RingWalk") "met") (kn_RingWalk_sums : NoAttr K (He.ga K "RingWalk") "sums") : ∃ fd, FK P w K mg base 1 (He.ma K (He.ga K "RingWalk") "__init__") fd ["self", "ring", "benches"] (F_RingWalk___init__) ∧ Binds K fd ["self", "ring", "benches"] [] := by
  refine fk_meth (N := ["self", "ring", "benches"]) (es := r_RingWalk___init__) Df_ sc_RingWalk___init__ (fun _ _ _ _ _ _ us hl => match us, hl with | [_, _, _], _ => rfl) (fun f cdv A outer s H E hr => ?_) d_RingWalk___init__
  exact (jss_cons (js_fld kc_RingWalk kn_RingWalk_ring (jv 0) (jv 1))
      (jss_cons (js_fld kc_RingWalk kn_RingWalk_benches (jv 0) (jv 2))
      (jss_cons (js_fld kc_RingWalk kn_RingWalk_met (jv 0) j_int)
      (jss_one (js_fld kc_RingWalk kn_RingWalk_sums (jv 0) (j_lstO ja_nil))))))
theorem ok_is_whole (Df_ : Df K mg "is_whole" s_is_whole) (b_isinstance : mg "isinstance" = none) (b_int : mg "int" = none) (b_bool : mg "bool" = none) : Cal P w K mg base 1 "is_whole" ["thing"] (F_is_whole) := by
  refine cal_ok (N := ["thing"]) (es := r_is_whole) Df_ sc_is_whole (fun _ _ _ _ _ _ us hl => match us, hl with | [_], _ => rfl) (fun f cdv A outer s H E hr => ?_) d_is_whole
  exact (jss_one (js_ret (j_and (j_cb call_isi lc_isi rfl b_isinstance (by decide +kernel) (ja_cons (jv 0) (ja_cons (j_ty rfl b_int (by decide +kernel)) ja_nil))) (j_one (j_not (j_cb call_isi lc_isi rfl b_isinstance (by decide +kernel) (ja_cons (jv 0) (ja_cons (j_ty rfl b_bool (by decide +kernel)) ja_nil))))))))
theorem ok_is_price (Df_ : Df K mg "is_price" s_is_price) (b_isinstance : mg "isinstance" = none) (b_tuple : mg "tuple" = none) (b_len : mg "len" = none) (z_FARTHEST : ∃ t, mg "FARTHEST" = some (.int 1000000000000 t)) (z_GREATEST_PRICE : ∃ t, mg "GREATEST_PRICE" = some (.int 10000000000000 t)) (c_is_whole : Cal P w K mg base 1 "is_whole" ["thing"] F_is_whole) : Cal P w K mg base 2 "is_price" ["thing"] (F_is_priceX) := by
  refine cal_ok (N := ["thing"]) (es := r_is_priceX) Df_ sc_is_price (fun _ _ _ _ _ _ us hl => match us, hl with | [_], _ => rfl) (fun f cdv A outer s H E hr => ?_) d_is_priceX
  have hu := hr.units
  exact (jss_cons (js_if (JW.jt (jw_or (jt_not (jt_tru (j_cb call_isi lc_isi rfl b_isinstance (by decide +kernel) (ja_cons (jv 0) (ja_cons (j_ty rfl b_tuple (by decide +kernel)) ja_nil))))) (jw_or (jt_cmp (op_neD hu) lo_ne (j_cb call_len lc_len rfl b_len PySem.boot_len (ja_cons (jv 0) ja_nil)) j_int (nomark _)) (jw_or (jt_not (jt_tru (j_cal c_is_whole (hr.mono (by decide)) rfl (ja_cons (j_ix (jv 0) j_int) ja_nil)))) (jw_or1 (jt_not (jt_tru (j_cal c_is_whole (hr.mono (by decide)) rfl (ja_cons (j_ix (jv 0) j_int) ja_nil))))))))) (jss_one (js_ret j_bl)) jss_nil)
      (jss_one (js_ret (j_and (j_chain op_le lo_le op_lt lo_lt (j_sub j_int (j_gint rfl z_FARTHEST)) (j_ix (jv 0) j_int) (j_gint rfl z_FARTHEST)) (j_one (j_chain op_le lo_le op_le lo_le j_int (j_ix (jv 0) j_int) (j_gint rfl z_GREATEST_PRICE)))))))
theorem ok_is_paper (Df_ : Df K mg "is_paper" s_is_paper) (b_isinstance : mg "isinstance" = none) (b_list : mg "list" = none) (b_len : mg "len" = none) (b_zip : mg "zip" = none) (z_MOST_PRICES : ∃ t, mg "MOST_PRICES" = some (.int 48 t)) (c_is_price : Cal P w K mg base 2 "is_price" ["thing"] F_is_priceX) : Cal P w K mg base 3 "is_paper" ["thing"] (F_is_paperX) := by
  refine cal_ok (N := ["thing", "one", "other"]) (es := r_is_paperX) Df_ sc_is_paper (fun _ _ _ _ _ _ us hl => match us, hl with | [_], _ => rfl) (fun f cdv A outer s H E hr => ?_) d_is_paperX
  exact (jss_cons (js_if (JW.jt (jw_or (jt_not (jt_tru (j_cb call_isi lc_isi rfl b_isinstance (by decide +kernel) (ja_cons (jv 0) (ja_cons (j_ty rfl b_list (by decide +kernel)) ja_nil))))) (jw_or1 (jt_cmp op_gt lo_gt (j_cb call_len lc_len rfl b_len PySem.boot_len (ja_cons (jv 0) ja_nil)) (j_gint rfl z_MOST_PRICES) (nomark _))))) (jss_one (js_ret j_bl)) jss_nil)
      (jss_cons (js_for PassesOwn.never rfl (ji_list (jv 0)) (jg_name (i := 1) sc_is_paper.nd rfl (by first | exact Or.inl rfl | exact Or.inr rfl))
      (jss_one (js_if (jt_not (jt_tru (j_cal c_is_price (hr.mono (by decide)) rfl (ja_cons (jv 1) ja_nil)))) (jss_one (js_ret j_bl)) jss_nil)))
      (jss_cons (js_for PassesOwn.never rfl (ji_zip rfl b_zip (ja_cons (jv 0) (ja_cons (j_slL (jv 0) (jo_some j_int) jo_none) ja_nil))) (jg_tup rfl (jgs_cons (jg_name (i := 1) sc_is_paper.nd rfl (by first | exact Or.inl rfl | exact Or.inr rfl)) (jgs_cons (jg_name (i := 2) sc_is_paper.nd rfl (by first | exact Or.inl rfl | exact Or.inr rfl)) jgs_nil)))
      (jss_one (js_if (jt_cmp op_le lo_le (j_ix (jv 2) j_int) (j_ix (jv 1) j_int) (nomark _)) (jss_one (js_ret j_bl)) jss_nil)))
      (jss_one (js_ret j_bl)))))
theorem ok_is_ring_paper (Df_ : Df K mg "is_ring_paper" s_is_ring_paper) (b_all : mg "all" = none) (c_is_paper : Cal P w K mg base 3 "is_paper" ["thing"] F_is_paperX) : Cal P w K mg base 4 "is_ring_paper" ["ring", "thing"] (F_is_ring_paper) := by
  refine cal_ok (N := ["ring", "thing", "moment", "price"]) (es := r_is_ring_paper) Df_ sc_is_ring_paper (fun _ _ _ _ _ _ us hl => match us, hl with | [_, _], _ => rfl) (fun f cdv A outer s H E hr => ?_) d_is_ring_paper
  exact (jss_one (js_ret (j_and (j_cal c_is_paper (hr.mono (by decide)) rfl (ja_cons (jv 1) ja_nil)) (j_one (j_cb (cr_all rfl) lc_all rfl b_all (by decide +kernel) (ja_cons (j_lc (own := [("moment", 2), ("price", 3)]) rfl sc_is_ring_paper.nd (ji_list (jv 1)) (blkOk_by (own := [("moment", 2), ("price", 3)]) (N := ["ring", "thing", "moment", "price"]) (sc := defScope s_is_ring_paper) (by decide +kernel)) (fun _ _ _ _ _ => (jg_tup rfl (jgs_cons (jg_name (i := 2) sc_is_ring_paper.nd rfl (by first | exact Or.inl rfl | exact Or.inr rfl)) (jgs_cons (jg_name (i := 3) sc_is_ring_paper.nd rfl (by first | exact Or.inl rfl | exact Or.inr rfl)) jgs_nil)))) (fun _ _ _ _ _ => jts_nil) (fun _ _ _ _ _ => (j_chain op_le lo_le op_lt lo_lt j_int (jv 2) (j_ix (jv 0) j_int)))) ja_nil))))))
theorem ok_is_over_ring (Df_ : Df K mg "is_over_ring" s_is_over_ring) : Cal P w K mg base 1 "is_over_ring" ["ring", "i", "moment"] (F_is_over_ring) := by
  refine cal_ok (N := ["ring", "i", "moment", "name", "begin", "span", "worth"]) (es := r_is_over_ring) Df_ sc_is_over_ring (fun _ _ _ _ _ _ us hl => match us, hl with | [_, _, _], _ => rfl) (fun f cdv A outer s H E hr => ?_) d_is_over_ring
  exact (jss_cons (js_asgTup (j_ix (j_ix (jv 0) j_int) (jv 1)) (jg_tup rfl (jgs_cons (jg_name (i := 3) sc_is_over_ring.nd rfl (by first | exact Or.inl rfl | exact Or.inr rfl)) (jgs_cons (jg_name (i := 4) sc_is_over_ring.nd rfl (by first | exact Or.inl rfl | exact Or.inr rfl)) (jgs_cons (jg_name (i := 5) sc_is_over_ring.nd rfl (by first | exact Or.inl rfl | exact Or.inr rfl)) (jgs_cons (jg_name (i := 6) sc_is_over_ring.nd rfl (by first | exact Or.inl rfl | exact Or.inr rfl)) jgs_nil))))))
      (jss_one (js_ret (j_cmp op_lt lo_lt (j_mod (j_sub (jv 2) (jv 4)) (j_ix (jv 0) j_int)) (jv 5) (nomark _)))))
theorem ok_load_on (Df_ : Df K mg "load_on" s_load_on) (b_len : mg "len" = none) (c_is_over_ring : Cal P w K mg base 1 "is_over_ring" ["ring", "i", "moment"] F_is_over_ring) : Cal P w K mg base 2 "load_on" ["ring", "some", "moment"] (F_load_on) := by
  refine cal_ok (N := ["ring", "some", "moment", "i"]) (es := r_load_on) Df_ sc_load_on (fun _ _ _ _ _ _ us hl => match us, hl with | [_, _, _], _ => rfl) (fun f cdv A outer s H E hr => ?_) d_load_on
  exact (jss_one (js_ret (j_cb call_len lc_len rfl b_len PySem.boot_len (ja_cons (j_lc (own := [("i", 3)]) rfl sc_load_on.nd (ji_list (jv 1)) (blkOk_by (own := [("i", 3)]) (N := ["ring", "some", "moment", "i"]) (sc := defScope s_load_on) (by decide +kernel)) (fun _ _ _ _ _ => (jg_name (i := 3) sc_load_on.nd rfl (by first | exact Or.inl rfl | exact Or.inr rfl))) (fun _ _ _ _ _ => (jts_one (jt_tru (j_cal c_is_over_ring (hr.mono (by decide)) rfl (ja_cons (jv 0) (ja_cons (jv 3) (ja_cons (jv 2) ja_nil))))))) (fun _ _ _ _ _ => (jv 3))) ja_nil))))
theorem ok_RingWalk_free (Df_ : DfM K "RingWalk" "free" "RingWalk.free" s_RingWalk_free) (b_range : mg "range" = none) (b_len : mg "len" = none) (kc_RingWalk : Cls K (He.ga K "RingWalk")) (kn_RingWalk_ring : NoAttr K (He.ga K "RingWalk") "ring") : ∃ fd, FK P w K mg base 1 (He.ma K (He.ga K "RingWalk") "free") fd ["self", "inside", "outside"] (F_RingWalk_free) ∧ Binds K fd ["self", "inside", "outside"] [] := by
  refine fk_meth (N := ["self", "inside", "outside", "i"]) (es := r_RingWalk_free) Df_ sc_RingWalk_free (fun _ _ _ _ _ _ us hl => match us, hl with | [_, _, _], _ => rfl) (fun f cdv A outer s H E hr => ?_) d_RingWalk_free
  exact (jss_one (js_ret (j_lc (own := [("i", 3)]) rfl sc_RingWalk_free.nd (ji_range1 rfl b_range (ja_cons (j_cb call_len lc_len rfl b_len PySem.boot_len (ja_cons (j_ix (j_fld kc_RingWalk kn_RingWalk_ring (jv 0)) j_int) ja_nil)) ja_nil)) (blkOk_by (own := [("i", 3)]) (N := ["self", "inside", "outside", "i"]) (sc := defScope s_RingWalk_free) (by decide +kernel)) (fun _ _ _ _ _ => (jg_name (i := 3) sc_RingWalk_free.nd rfl (by first | exact Or.inl rfl | exact Or.inr rfl))) (fun _ _ _ _ _ => (jts_one (JW.jt (jw_and (jt_cmp op_notIn_seq lo_in (jv 3) (jv 1) rfl) (jw_and1 (jt_cmp op_notIn_seq lo_in (jv 3) (jv 2) rfl)))))) (fun _ _ _ _ _ => (jv 3)))))
theorem ok_ring_rest (Df_ : Df K mg "ring_rest" s_ring_rest) (b_sum : mg "sum" = none) (b_max : mg "max" = none) (c_is_over_ring : Cal P w K mg base 1 "is_over_ring" ["ring", "i", "moment"] F_is_over_ring) : Cal P w K mg base 2 "ring_rest" ["ring", "i", "paper"] (F_ring_rest) := by
  refine cal_ok (N := ["ring", "i", "paper", "toll", "moment", "price"]) (es := r_ring_rest) Df_ sc_ring_rest (fun _ _ _ _ _ _ us hl => match us, hl with | [_, _, _], _ => rfl) (fun f cdv A outer s H E hr => ?_) d_ring_rest
  exact (jss_cons (js_set (i := 3) sc_ring_rest.nd rfl (by first | exact Or.inl rfl | exact Or.inr rfl) (j_cb (cr_sum rfl) lc_sum rfl b_sum (by decide +kernel) (ja_cons (j_lc (own := [("moment", 4), ("price", 5)]) rfl sc_ring_rest.nd (ji_list (jv 2)) (blkOk_by (own := [("moment", 4), ("price", 5)]) (N := ["ring", "i", "paper", "toll", "moment", "price"]) (sc := defScope s_ring_rest) (by decide +kernel)) (fun _ _ _ _ _ => (jg_tup rfl (jgs_cons (jg_name (i := 4) sc_ring_rest.nd rfl (by first | exact Or.inl rfl | exact Or.inr rfl)) (jgs_cons (jg_name (i := 5) sc_ring_rest.nd rfl (by first | exact Or.inl rfl | exact Or.inr rfl)) jgs_nil)))) (fun _ _ _ _ _ => (jts_one (jt_tru (j_cal c_is_over_ring (hr.mono (by decide)) rfl (ja_cons (jv 0) (ja_cons (jv 1) (ja_cons (jv 4) ja_nil))))))) (fun _ _ _ _ _ => (jv 5))) ja_nil)))
      (jss_one (js_ret (j_cb (call_max2 rfl) lc_max2 rfl b_max (by decide +kernel) (ja_cons j_int (ja_cons (j_sub (j_ix (j_ix (j_ix (jv 0) j_int) (jv 1)) j_int) (jv 3)) ja_nil))))))
theorem ok_RingWalk_priced (Df_ : DfM K "RingWalk" "priced" "RingWalk.priced" s_RingWalk_priced) (b_sum : mg "sum" = none) (kc_RingWalk : Cls K (He.ga K "RingWalk")) (kn_RingWalk_ring : NoAttr K (He.ga K "RingWalk") "ring") (kn_RingWalk_benches : NoAttr K (He.ga K "RingWalk") "benches") (c_load_on : Cal P w K mg base 2 "load_on" ["ring", "some", "moment"] F_load_on) (c_RingWalk_free : CalM P w K mg base 1 "RingWalk" "free" ["self", "inside", "outside"] F_RingWalk_free) (c_ring_rest : Cal P w K mg base 2 "ring_rest" ["ring", "i", "paper"] F_ring_rest) : ∃ fd, FK P w K mg base 3 (He.ma K (He.ga K "RingWalk") "priced") fd ["self", "paper", "inside", "outside"] (F_RingWalk_priced) ∧ Binds K fd ["self", "paper", "inside", "outside"] [] := by
  refine fk_meth (N := ["self", "paper", "inside", "outside", "found", "moment", "price", "i"]) (es := r_RingWalk_priced) Df_ sc_RingWalk_priced (fun _ _ _ _ _ _ us hl => match us, hl with | [_, _, _, _], _ => rfl) (fun f cdv A outer s H E hr => ?_) d_RingWalk_priced
  exact (jss_cons (js_set (i := 4) sc_RingWalk_priced.nd rfl (by first | exact Or.inl rfl | exact Or.inr rfl) (j_cb (cr_sum rfl) lc_sum rfl b_sum (by decide +kernel) (ja_cons (j_lc (own := [("i", 7)]) rfl sc_RingWalk_priced.nd (ji_list (jv 2)) (blkOk_by (own := [("i", 7)]) (N := ["self", "paper", "inside", "outside", "found", "moment", "price", "i"]) (sc := defScope s_RingWalk_priced) (by decide +kernel)) (fun _ _ _ _ _ => (jg_name (i := 7) sc_RingWalk_priced.nd rfl (by first | exact Or.inl rfl | exact Or.inr rfl))) (fun _ _ _ _ _ => jts_nil) (fun _ _ _ _ _ => (j_ix (j_ix (j_ix (j_fld kc_RingWalk kn_RingWalk_ring (jv 0)) j_int) (jv 7)) j_int))) ja_nil)))
      (jss_cons (js_for PassesOwn.never rfl (ji_list (jv 1)) (jg_tup rfl (jgs_cons (jg_name (i := 5) sc_RingWalk_priced.nd rfl (by first | exact Or.inl rfl | exact Or.inr rfl)) (jgs_cons (jg_name (i := 6) sc_RingWalk_priced.nd rfl (by first | exact Or.inl rfl | exact Or.inr rfl)) jgs_nil)))
      (jss_one (js_set (i := 4) sc_RingWalk_priced.nd rfl (by first | exact Or.inl rfl | exact Or.inr rfl) (j_add (jv 4) (j_mul (jv 6) (j_sub (j_fld kc_RingWalk kn_RingWalk_benches (jv 0)) (j_cal c_load_on (hr.mono (by decide)) rfl (ja_cons (j_fld kc_RingWalk kn_RingWalk_ring (jv 0)) (ja_cons (jv 2) (ja_cons (jv 5) ja_nil))))))))))
      (jss_one (js_ret (j_add (jv 4) (j_cb (cr_sum rfl) lc_sum rfl b_sum (by decide +kernel) (ja_cons (j_lc (own := [("i", 7)]) rfl sc_RingWalk_priced.nd (ji_list (j_meth c_RingWalk_free (hr.mono (by decide)) (jv 0) (ja_cons (jv 2) (ja_cons (jv 3) ja_nil)))) (blkOk_by (own := [("i", 7)]) (N := ["self", "paper", "inside", "outside", "found", "moment", "price", "i"]) (sc := defScope s_RingWalk_priced) (by decide +kernel)) (fun _ _ _ _ _ => (jg_name (i := 7) sc_RingWalk_priced.nd rfl (by first | exact Or.inl rfl | exact Or.inr rfl))) (fun _ _ _ _ _ => jts_nil) (fun _ _ _ _ _ => (j_cal c_ring_rest (hr.mono (by decide)) rfl (ja_cons (j_fld kc_RingWalk kn_RingWalk_ring (jv 0)) (ja_cons (jv 7) (ja_cons (jv 1) ja_nil)))))) ja_nil)))))))
theorem ok_RingWalk_is_split (Df_ : DfM K "RingWalk" "is_split" "RingWalk.is_split" s_RingWalk_is_split) (b_len : mg "len" = none) (b_isinstance : mg "isinstance" = none) (b_list : mg "list" = none) (c_is_whole : Cal P w K mg base 1 "is_whole" ["thing"] F_is_whole) (c_RingWalk_free : CalM P w K mg base 1 "RingWalk" "free" ["self", "inside", "outside"] F_RingWalk_free) : ∃ fd, FK P w K mg base 2 (He.ma K (He.ga K "RingWalk") "is_split") fd ["self", "thing", "inside", "outside"] (F_RingWalk_is_split) ∧ Binds K fd ["self", "thing", "inside", "outside"] [] := by
  refine fk_meth (N := ["self", "thing", "inside", "outside"]) (es := r_RingWalk_is_split) Df_ sc_RingWalk_is_split (fun _ _ _ _ _ _ us hl => match us, hl with | [_, _, _, _], _ => rfl) (fun f cdv A outer s H E hr => ?_) d_RingWalk_is_split
  have hu := hr.units
  exact (jss_cons (js_if (JW.jt (jw_or (jt_cmp (op_neD hu) lo_ne (j_cb call_len lc_len rfl b_len PySem.boot_len (ja_cons (jv 1) ja_nil)) j_int (nomark _)) (jw_or (jt_cmp (op_neD hu) lo_ne (j_ix (jv 1) j_int) j_str (nomark _)) (jw_or1 (jt_not (jt_tru (j_cal c_is_whole (hr.mono (by decide)) rfl (ja_cons (j_ix (jv 1) j_int) ja_nil)))))))) (jss_one (js_ret j_bl)) jss_nil)
      (jss_one (js_ret (j_and (j_cmp op_in_seq lo_in (j_ix (jv 1) j_int) (j_meth c_RingWalk_free (hr.mono (by decide)) (jv 0) (ja_cons (jv 2) (ja_cons (jv 3) ja_nil))) rfl) (j_and (j_cb call_isi lc_isi rfl b_isinstance (by decide +kernel) (ja_cons (j_ix (jv 1) j_int) (ja_cons (j_ty rfl b_list (by decide +kernel)) ja_nil))) (j_one (j_cmp (op_eqD hu) lo_eq (j_cb call_len lc_len rfl b_len PySem.boot_len (ja_cons (j_ix (jv 1) j_int) ja_nil)) j_int (nomark _))))))))
theorem ok_RingWalk_is_crowd (Df_ : DfM K "RingWalk" "is_crowd" "RingWalk.is_crowd" s_RingWalk_is_crowd) (kc_RingWalk : Cls K (He.ga K "RingWalk")) (kn_RingWalk_ring : NoAttr K (He.ga K "RingWalk") "ring") (kn_RingWalk_benches : NoAttr K (He.ga K "RingWalk") "benches") (c_is_whole : Cal P w K mg base 1 "is_whole" ["thing"] F_is_whole) (c_load_on : Cal P w K mg base 2 "load_on" ["ring", "some", "moment"] F_load_on) : ∃ fd, FK P w K mg base 3 (He.ma K (He.ga K "RingWalk") "is_crowd") fd ["self", "moment", "inside"] (F_RingWalk_is_crowd) ∧ Binds K fd ["self", "moment", "inside"] [] := by
  refine fk_meth (N := ["self", "moment", "inside"]) (es := r_RingWalk_is_crowd) Df_ sc_RingWalk_is_crowd (fun _ _ _ _ _ _ us hl => match us, hl with | [_, _, _], _ => rfl) (fun f cdv A outer s H E hr => ?_) d_RingWalk_is_crowd
  exact (jss_cons (js_if (JW.jt (jw_or (jt_not (jt_tru (j_cal c_is_whole (hr.mono (by decide)) rfl (ja_cons (jv 1) ja_nil)))) (jw_or1 (jt_not (jt_chain op_le lo_le op_lt lo_lt j_int (jv 1) (j_ix (j_fld kc_RingWalk kn_RingWalk_ring (jv 0)) j_int)))))) (jss_one (js_ret j_bl)) jss_nil)
      (jss_one (js_ret (j_cmp op_gt lo_gt (j_cal c_load_on (hr.mono (by decide)) rfl (ja_cons (j_fld kc_RingWalk kn_RingWalk_ring (jv 0)) (ja_cons (jv 2) (ja_cons (jv 1) ja_nil)))) (j_fld kc_RingWalk kn_RingWalk_benches (jv 0)) (nomark _)))))
theorem ok0_RingWalk_go (Df_ : DfM K "RingWalk" "go" "RingWalk.go" s_RingWalk_go) (b_isinstance : mg "isinstance" = none) (b_tuple : mg "tuple" = none) (b_str : mg "str" = none) (b_len : mg "len" = none) (z_MOST_WALKED : ∃ t, mg "MOST_WALKED" = some (.int 500 t)) (kc_RingWalk : Cls K (He.ga K "RingWalk")) (kn_RingWalk_met : NoAttr K (He.ga K "RingWalk") "met") (kn_RingWalk_ring : NoAttr K (He.ga K "RingWalk") "ring") (kn_RingWalk_sums : NoAttr K (He.ga K "RingWalk") "sums") (c_is_ring_paper : Cal P w K mg base 4 "is_ring_paper" ["ring", "thing"] F_is_ring_paper) (c_RingWalk_priced : CalM P w K mg base 3 "RingWalk" "priced" ["self", "paper", "inside", "outside"] F_RingWalk_priced) (c_RingWalk_is_split : CalM P w K mg base 2 "RingWalk" "is_split" ["self", "thing", "inside", "outside"] F_RingWalk_is_split) (c_RingWalk_is_crowd : CalM P w K mg base 3 "RingWalk" "is_crowd" ["self", "moment", "inside"] F_RingWalk_is_crowd) (ox_NoTree : OxK P w K mg base "NoTree" "way") : ∃ fd, FnOk P w K mg base (L2.CX P w) 5 (He.ma K (He.ga K "RingWalk") "go") fd ["self", "thing", "inside", "outside", "way"] (LfX K ["self", "thing", "inside", "outside", "way"].length (F_RingWalk_go 0)) ∧ Binds K fd ["self", "thing", "inside", "outside", "way"] [] := by
  refine fk_methX (N := ["self", "thing", "inside", "outside", "way"]) (es := (fun _ _ _ => False)) Df_ sc_RingWalk_go (fun _ _ _ _ _ _ us hl => match us, hl with | [_, _, _, _, _], _ => rfl) (fun f cdv A outer s H E hr tk po => ?_) fun _ _ _ _ h => h
  exact jss_false
theorem ok_RingWalk_go (Df_ : DfM K "RingWalk" "go" "RingWalk.go" s_RingWalk_go) (b_isinstance : mg "isinstance" = none) (b_tuple : mg "tuple" = none) (b_str : mg "str" = none) (b_len : mg "len" = none) (z_MOST_WALKED : ∃ t, mg "MOST_WALKED" = some (.int 500 t)) (kc_RingWalk : Cls K (He.ga K "RingWalk")) (kn_RingWalk_met : NoAttr K (He.ga K "RingWalk") "met") (kn_RingWalk_ring : NoAttr K (He.ga K "RingWalk") "ring") (kn_RingWalk_sums : NoAttr K (He.ga K "RingWalk") "sums") (c_is_ring_paper : Cal P w K mg base 4 "is_ring_paper" ["ring", "thing"] F_is_ring_paper) (c_RingWalk_priced : CalM P w K mg base 3 "RingWalk" "priced" ["self", "paper", "inside", "outside"] F_RingWalk_priced) (c_RingWalk_is_split : CalM P w K mg base 2 "RingWalk" "is_split" ["self", "thing", "inside", "outside"] F_RingWalk_is_split) (c_RingWalk_is_crowd : CalM P w K mg base 3 "RingWalk" "is_crowd" ["self", "moment", "inside"] F_RingWalk_is_crowd) (ox_NoTree : OxK P w K mg base "NoTree" "way") (n : Nat) (c_RingWalk_go : CalMX P w K mg base (5 + n) "RingWalk" "go" ["self", "thing", "inside", "outside", "way"] (F_RingWalk_go n)) : ∃ fd, FnOk P w K mg base (L2.CX P w) (5 + n + 1) (He.ma K (He.ga K "RingWalk") "go") fd ["self", "thing", "inside", "outside", "way"] (LfX K ["self", "thing", "inside", "outside", "way"].length (F_RingWalk_go (n + 1))) ∧ Binds K fd ["self", "thing", "inside", "outside", "way"] [] := by
  refine fk_methX (N := ["self", "thing", "inside", "outside", "way"]) (es := (r_RingWalk_go n)) Df_ sc_RingWalk_go (fun _ _ _ _ _ _ us hl => match us, hl with | [_, _, _, _, _], _ => rfl) (fun f cdv A outer s H E hr tk po => ?_) (d_RingWalk_go n)
  have hu := hr.units
  exact (jss_cons (js_fld kc_RingWalk kn_RingWalk_met (jv 0) (j_add (j_fld kc_RingWalk kn_RingWalk_met (jv 0)) j_int))
      (jss_cons (js_if (JW.jt (jw_or (jt_cmp op_gt lo_gt (j_fld kc_RingWalk kn_RingWalk_met (jv 0)) (j_gint rfl z_MOST_WALKED) (nomark _)) (jw_or (jt_not (jt_tru (j_cb call_isi lc_isi rfl b_isinstance (by decide +kernel) (ja_cons (jv 1) (ja_cons (j_ty rfl b_tuple (by decide +kernel)) ja_nil))))) (jw_or (jt_cmp (op_eqD hu) lo_eq (jv 1) (j_tup ja_nil) (nomark _)) (jw_or1 (jt_not (jt_tru (j_cb call_isi lc_isi rfl b_isinstance (by decide +kernel) (ja_cons (j_ix (jv 1) j_int) (ja_cons (j_ty rfl b_str (by decide +kernel)) ja_nil)))))))))) (jss_one (js_raiseF tk ox_NoTree hr (by omega) rfl rfl (jv 4))) jss_nil)
      (jss_one (js_if (JW.jt (jw_and (jt_cmp (op_eqD hu) lo_eq (j_cb call_len lc_len rfl b_len PySem.boot_len (ja_cons (jv 1) ja_nil)) j_int (nomark _)) (jw_and (jt_cmp (op_eqD hu) lo_eq (j_ix (jv 1) j_int) j_str (nomark _)) (jw_and1 (jt_tru (j_cal c_is_ring_paper (hr.mono (by omega)) rfl (ja_cons (j_fld kc_RingWalk kn_RingWalk_ring (jv 0)) (ja_cons (j_ix (jv 1) j_int) ja_nil)))))))) (jss_one (js_expr (j_bm PySem.F.plainAttrs_list PySem.F.slot_list_append PySem.F.type_list_append mt_append lm_app (j_fld kc_RingWalk kn_RingWalk_sums (jv 0)) (ja_cons (j_meth c_RingWalk_priced (hr.mono (by omega)) (jv 0) (ja_cons (j_ix (jv 1) j_int) (ja_cons (jv 2) (ja_cons (jv 3) ja_nil)))) ja_nil)))) (jss_one (js_if (jt_tru (j_meth c_RingWalk_is_split (hr.mono (by omega)) (jv 0) (ja_cons (jv 1) (ja_cons (jv 2) (ja_cons (jv 3) ja_nil))))) (jss_cons (js_exprX (jx_meth c_RingWalk_go (hr.mono (by omega)) tk (jv 0) (jax_of (ja_cons (j_ix (j_ix (jv 1) j_int) j_int) (ja_cons (j_add (jv 2) (j_lst (ja_cons (j_ix (jv 1) j_int) ja_nil))) (ja_cons (jv 3) (ja_cons (j_add (jv 4) (j_lst (ja_cons j_int ja_nil))) ja_nil)))))))
      (jss_one (js_exprX (jx_meth c_RingWalk_go (hr.mono (by omega)) tk (jv 0) (jax_of (ja_cons (j_ix (j_ix (jv 1) j_int) j_int) (ja_cons (jv 2) (ja_cons (j_add (jv 3) (j_lst (ja_cons (j_ix (jv 1) j_int) ja_nil))) (ja_cons (j_add (jv 4) (j_lst (ja_cons j_int ja_nil))) ja_nil))))))))) (jss_one (js_if (JW.jt (jw_or (jt_cmp (op_neD hu) lo_ne (j_cb call_len lc_len rfl b_len PySem.boot_len (ja_cons (jv 1) ja_nil)) j_int (nomark _)) (jw_or (jt_cmp (op_neD hu) lo_ne (j_ix (jv 1) j_int) j_str (nomark _)) (jw_or1 (jt_not (jt_tru (j_meth c_RingWalk_is_crowd (hr.mono (by omega)) (jv 0) (ja_cons (j_ix (jv 1) j_int) (ja_cons (jv 2) ja_nil))))))))) (jss_one (js_raiseF tk ox_NoTree hr (by omega) rfl rfl (jv 4))) jss_nil))))))))
theorem ok_tree_claim (Df_ : Df K mg "tree_claim" s_tree_claim) (b_max : mg "max" = none) (kc_RingWalk : Cls K (He.ga K "RingWalk")) (kn_RingWalk_sums : NoAttr K (He.ga K "RingWalk") "sums") (c_RingWalk___init__ : CalK P w K mg base 1 "RingWalk" ["self", "ring", "benches"] F_RingWalk___init__) (c_RingWalk_go : CalMX P w K mg base 31 "RingWalk" "go" ["self", "thing", "inside", "outside", "way"] (F_RingWalk_go 26)) : CalX P w K mg base 32 "tree_claim" ["ring", "benches", "thing"] (F_tree_claim) := by
  refine calX_ok (N := ["ring", "benches", "thing", "walk"]) (es := r_tree_claim) Df_ sc_tree_claim (fun _ _ _ _ _ _ us hl => match us, hl with | [_, _, _], _ => rfl) (fun f cdv A outer s H E hr tk po => ?_) d_tree_claim
  exact (jss_cons (js_set (i := 3) sc_tree_claim.nd rfl (by first | exact Or.inl rfl | exact Or.inr rfl) (j_make c_RingWalk___init__ (hr.mono (by decide)) rfl (ja_cons (jv 0) (ja_cons (jv 1) ja_nil))))
      (jss_cons (js_exprX (jx_meth c_RingWalk_go (hr.mono (by decide)) tk (jv 3) (jax_of (ja_cons (jv 2) (ja_cons (j_lst ja_nil) (ja_cons (j_lst ja_nil) (ja_cons (j_lst ja_nil) ja_nil)))))))
      (jss_one (js_ret (j_cb (cr_max rfl) lc_max rfl b_max (by decide +kernel) (ja_cons (j_fld kc_RingWalk kn_RingWalk_sums (jv 3)) ja_nil))))))
theorem ok__law_told (Df_ : Df K mg "_law_told" s__law_told) (b_str : mg "str" = none) (c_tree_claim : CalX P w K mg base 32 "tree_claim" ["ring", "benches", "thing"] F_tree_claim) (xg_NoTree : mg "NoTree" = some (.ref (He.ga K "NoTree"))) (xm_NoTree : ∀ m ∈ (["NoTree"] : List Str), PySem.W.exmOne K (.ref (He.ga K m)) (.ref (He.ga K "NoTree")) = some (isSub m "NoTree")) (hsy : ∃ m, base.Ns sysModules m) : CalG P w K mg base 33 "_law_told" ["_law_ring_here", "_law_benches", "_law_tree_here"] (F__law_told) := by
  refine calG_ok (N := ["_law_ring_here", "_law_benches", "_law_tree_here", "_law_kept", "_law_found"]) (es := r__law_told) Df_ sc__law_told (fun _ _ _ _ _ _ us hl => match us, hl with | [_, _, _], _ => rfl) (fun f cdv A outer s H E hr gd => ?_) d__law_told
  have hu := hr.units
  exact (jss_cons (js_set (i := 3) sc__law_told.nd rfl (by first | exact Or.inl rfl | exact Or.inr rfl) (j_ct (cr_strX gd hu hsy) lc_strX rfl b_str (by decide +kernel) (ja_cons (jv 2) ja_nil)))
      (jss_cons (js_set (i := 4) sc__law_told.nd rfl (by first | exact Or.inl rfl | exact Or.inr rfl) j_non)
      (jss_cons (js_try (ns := (["NoTree"] : List Str)) takes0 rfl rfl ⟨rfl, by decide, .inl xg_NoTree⟩ xm_NoTree (fun W pn xe tk po => (jss_one (js_setX (i := 4) sc__law_told.nd rfl (by first | exact Or.inl rfl | exact Or.inr rfl) (jx_cal c_tree_claim (hr.mono (by decide)) tk rfl (jax_of (ja_cons (jv 0) (ja_cons (jv 1) (ja_cons (jv 2) ja_nil)))))))) (fun a oe pn => (jss_one (js_set (i := 4) sc__law_told.nd rfl (by first | exact Or.inl rfl | exact Or.inr rfl) j_non))))
      (jss_cons (js_if (jt_cmp (op_neD hu) lo_ne (j_ct (cr_strX gd hu hsy) lc_strX rfl b_str (by decide +kernel) (ja_cons (jv 2) ja_nil)) (jv 3) (nomark _)) (jss_one (js_ret (j_neg j_int))) jss_nil)
      (jss_one (js_ret (jv 4)))))))
theorem ok0__law_bent (Df_ : Df K mg "_law_bent" s__law_bent) (b_list : mg "list" = none) (b_len : mg "len" = none) (b_max : mg "max" = none) (c__law_take : Cal P w K mg base 1 "_law_take" ["_law_state", "_law_many"] F__law_take) : Cal P w K mg base 2 "_law_bent" ["_law_state", "_law_ring_here", "_law_tree_here"] (F__law_bent 0) := by
  refine cal_ok (N := ["_law_state", "_law_ring_here", "_law_tree_here", "_law_way", "_law_one", "_law_other", "_law_paper", "_law_at", "_law_moment", "_law_price", "_law_some"]) (es := (fun _ _ _ => False)) Df_ sc__law_bent (fun _ _ _ _ _ _ us hl => match us, hl with | [_, _, _], _ => rfl) (fun f cdv A outer s H E hr => ?_) fun _ _ _ h => h
  exact jss_false
theorem ok__law_bent (Df_ : Df K mg "_law_bent" s__law_bent) (b_list : mg "list" = none) (b_len : mg "len" = none) (b_max : mg "max" = none) (c__law_take : Cal P w K mg base 1 "_law_take" ["_law_state", "_law_many"] F__law_take) (n : Nat) (c__law_bent : Cal P w K mg base (2 + n) "_law_bent" ["_law_state", "_law_ring_here", "_law_tree_here"] (F__law_bent n)) : Cal P w K mg base (2 + n + 1) "_law_bent" ["_law_state", "_law_ring_here", "_law_tree_here"] (F__law_bent (n + 1)) := by
  refine cal_ok (N := ["_law_state", "_law_ring_here", "_law_tree_here", "_law_way", "_law_one", "_law_other", "_law_paper", "_law_at", "_law_moment", "_law_price", "_law_some"]) (es := (r__law_bent n)) Df_ sc__law_bent (fun _ _ _ _ _ _ us hl => match us, hl with | [_, _, _], _ => rfl) (fun f cdv A outer s H E hr => ?_) (d__law_bent n)
  have hu := hr.units
  exact (jss_cons (js_set (i := 3) sc__law_bent.nd rfl (by first | exact Or.inl rfl | exact Or.inr rfl) (j_cal c__law_take (hr.mono (by omega)) rfl (ja_cons (jv 0) (ja_cons j_int ja_nil))))
      (jss_cons (js_if (jt_cmp (op_eqD hu) lo_eq (jv 3) j_int (nomark _)) (jss_one (js_ret (j_tup (ja_cons j_str (ja_cons (j_cal c__law_take (hr.mono (by omega)) rfl (ja_cons (jv 0) (ja_cons (j_ix (jv 1) j_int) ja_nil))) ja_nil))))) jss_nil)
      (jss_cons (js_if (JW.jt (jw_and (jt_cmp (op_eqD hu) lo_eq (j_ix (jv 2) j_int) j_str (nomark _)) (jw_and1 (jt_cmp op_lt lo_lt (jv 3) j_int (nomark _))))) (jss_cons (js_asgL (j_ix (jv 2) j_int) rfl (jgs_cons (jg_name (i := 4) sc__law_bent.nd rfl (by first | exact Or.inl rfl | exact Or.inr rfl)) (jgs_cons (jg_name (i := 5) sc__law_bent.nd rfl (by first | exact Or.inl rfl | exact Or.inr rfl)) jgs_nil)))
      (jss_cons (js_if (jt_cmp (op_eqD hu) lo_eq (jv 3) j_int (nomark _)) (jss_one (js_ret (j_tup (ja_cons j_str (ja_cons (j_ix (jv 2) j_int) (ja_cons (j_lst (ja_cons (jv 5) (ja_cons (jv 4) ja_nil))) ja_nil)))))) jss_nil)
      (jss_cons (js_if (jt_cmp op_lt lo_lt (jv 3) j_int (nomark _)) (jss_one (js_ret (j_tup (ja_cons j_str (ja_cons (j_ix (jv 2) j_int) (ja_cons (j_lst (ja_cons (j_cal c__law_bent (hr.mono (by omega)) rfl (ja_cons (jv 0) (ja_cons (jv 1) (ja_cons (jv 4) ja_nil)))) (ja_cons (jv 5) ja_nil))) ja_nil)))))) jss_nil)
      (jss_one (js_ret (j_tup (ja_cons j_str (ja_cons (j_ix (jv 2) j_int) (ja_cons (j_lst (ja_cons (jv 4) (ja_cons (j_cal c__law_bent (hr.mono (by omega)) rfl (ja_cons (jv 0) (ja_cons (jv 1) (ja_cons (jv 5) ja_nil)))) ja_nil))) ja_nil))))))))) jss_nil)
      (jss_cons (js_if (JW.jt (jw_or (jt_cmp (op_neD hu) lo_ne (j_ix (jv 2) j_int) j_str (nomark _)) (jw_or1 (jt_cmp (op_eqD hu) lo_eq (jv 3) j_int (nomark _))))) (jss_one (js_ret (j_tup (ja_cons j_str (ja_cons (j_cal c__law_take (hr.mono (by omega)) rfl (ja_cons (jv 0) (ja_cons j_int ja_nil))) (ja_cons (j_lst (ja_cons (jv 2) (ja_cons (jv 2) ja_nil))) ja_nil)))))) jss_nil)
      (jss_cons (js_set (i := 6) sc__law_bent.nd rfl (by first | exact Or.inl rfl | exact Or.inr rfl) (j_ct call_list_of lc_list rfl b_list (by decide +kernel) (ja_cons (j_ix (jv 2) j_int) ja_nil)))
      (jss_cons (js_if (jt_cmp (op_eqD hu) lo_eq (jv 6) (j_lst ja_nil) (nomark _)) (jss_one (js_ret (j_tup (ja_cons j_str (ja_cons (j_lst (ja_cons (j_tup (ja_cons (j_cal c__law_take (hr.mono (by omega)) rfl (ja_cons (jv 0) (ja_cons (j_ix (jv 1) j_int) ja_nil))) (ja_cons j_int ja_nil))) ja_nil)) ja_nil))))) jss_nil)
      (jss_cons (js_set (i := 7) sc__law_bent.nd rfl (by first | exact Or.inl rfl | exact Or.inr rfl) (j_cal c__law_take (hr.mono (by omega)) rfl (ja_cons (jv 0) (ja_cons (j_cb call_len lc_len rfl b_len PySem.boot_len (ja_cons (jv 6) ja_nil)) ja_nil))))
      (jss_cons (js_asgTup (j_ix (jv 6) (jv 7)) (jg_tup rfl (jgs_cons (jg_name (i := 8) sc__law_bent.nd rfl (by first | exact Or.inl rfl | exact Or.inr rfl)) (jgs_cons (jg_name (i := 9) sc__law_bent.nd rfl (by first | exact Or.inl rfl | exact Or.inr rfl)) jgs_nil))))
      (jss_cons (js_set (i := 10) sc__law_bent.nd rfl (by first | exact Or.inl rfl | exact Or.inr rfl) (j_lstO (ja_cons (j_add (j_slL (jv 6) jo_none (jo_some (jv 7))) (j_slL (jv 6) (jo_some (j_add (jv 7) j_int)) jo_none)) (ja_cons (j_lst ja_nil) (ja_cons (j_add (j_add (j_slL (jv 6) jo_none (jo_some (jv 7))) (j_lst (ja_cons (j_tup (ja_cons (jv 8) (ja_cons (j_add (jv 9) j_int) ja_nil))) ja_nil))) (j_slL (jv 6) (jo_some (j_add (jv 7) j_int)) jo_none)) ja_nil)))))
      (jss_cons (js_expr (j_bm PySem.F.plainAttrs_list PySem.F.slot_list_append PySem.F.type_list_append mt_append lm_app (jv 10) (ja_cons (j_add (j_add (j_slL (jv 6) jo_none (jo_some (jv 7))) (j_lst (ja_cons (j_tup (ja_cons (jv 8) (ja_cons (j_cb (call_max2 rfl) lc_max2 rfl b_max (by decide +kernel) (ja_cons j_int (ja_cons (j_sub (jv 9) j_int) ja_nil))) ja_nil))) ja_nil))) (j_slL (jv 6) (jo_some (j_add (jv 7) j_int)) jo_none)) ja_nil)))
      (jss_one (js_ret (j_tup (ja_cons j_str (ja_cons (j_ix (jv 10) (j_mod (jv 3) j_int)) ja_nil)))))))))))))))
theorem ok_law {f : Addr} {fd : FuncData} (FD : FunD K "law" "law" (defArgs s_law) (defBody s_law) (defScope s_law) [] [] f fd) (b_range : mg "range" = none) (b_max : mg "max" = none) (b_min : mg "min" = none) (b_len : mg "len" = none) (b_sum : mg "sum" = none) (c__law_begun : Cal P w K mg base 1 "_law_begun" ["_law_script", "_law_k"] F__law_begun) (c__law_ring : Cal P w K mg base 3 "_law_ring" ["_law_state", "_law_most"] F__law_ring) (c__law_take : Cal P w K mg base 1 "_law_take" ["_law_state", "_law_many"] F__law_take) (c__law_ring_choices : Cal P w K mg base 3 "_law_ring_choices" ["_law_ring_here", "_law_benches"] F__law_ring_choices) (c__law_tree : Cal P w K mg base 8 "_law_tree" ["_law_state", "_law_ring_here", "_law_benches", "_law_put", "_law_deep"] (F__law_tree 5)) (c__law_told : CalG P w K mg base 33 "_law_told" ["_law_ring_here", "_law_benches", "_law_tree_here"] F__law_told) (c__law_bent : Cal P w K mg base 14 "_law_bent" ["_law_state", "_law_ring_here", "_law_tree_here"] (F__law_bent 12)) (hsy : ∃ m, base.Ns sysModules m) : FKG P w K mg base 34 f fd ["_law_script"] (lawF 63) := by
  refine fkG_ok (N := ["_law_script", "_law_k", "_law_state", "_law_ring_here", "_law_benches", "_law_choices", "_law_best", "_law_turn", "_law_tree_here", "_law_found", "_law_lap", "_law_some", "_law_i"]) (es := r_law) FD sc_law (fun cdv A outer s H E hr gd => ?_) d_law
  exact (jss_cons (js_for PassesOwn.never rfl (ji_range1 rfl b_range (ja_cons (j_cb (call_max2 rfl) lc_max2 rfl b_max (by decide +kernel) (ja_cons j_int (ja_cons (j_cb (call_min2 rfl) lc_min2 rfl b_min (by decide +kernel) (ja_cons (j_cb call_len lc_len rfl b_len PySem.boot_len (ja_cons (jv 0) ja_nil)) (ja_cons j_int ja_nil))) ja_nil))) ja_nil)) (jg_name (i := 1) sc_law.nd rfl (by first | exact Or.inl rfl | exact Or.inr rfl))
      (jss_cons (js_set (i := 2) sc_law.nd rfl (by first | exact Or.inl rfl | exact Or.inr rfl) (j_cal c__law_begun (hr.mono (by decide)) rfl (ja_cons (jv 0) (ja_cons (jv 1) ja_nil))))
      (jss_cons (js_set (i := 3) sc_law.nd rfl (by first | exact Or.inl rfl | exact Or.inr rfl) (j_cal c__law_ring (hr.mono (by decide)) rfl (ja_cons (jv 2) (ja_cons j_int ja_nil))))
      (jss_cons (js_set (i := 4) sc_law.nd rfl (by first | exact Or.inl rfl | exact Or.inr rfl) (j_cal c__law_take (hr.mono (by decide)) rfl (ja_cons (jv 2) (ja_cons (j_ix (j_lst (ja_cons j_int (ja_cons j_int ja_nil))) (j_div (j_cal c__law_take (hr.mono (by decide)) rfl (ja_cons (jv 2) (ja_cons j_int ja_nil))) j_int)) ja_nil))))
      (jss_cons (js_set (i := 5) sc_law.nd rfl (by first | exact Or.inl rfl | exact Or.inr rfl) (j_cal c__law_ring_choices (hr.mono (by decide)) rfl (ja_cons (jv 3) (ja_cons (jv 4) ja_nil))))
      (jss_cons (js_set (i := 6) sc_law.nd rfl (by first | exact Or.inl rfl | exact Or.inr rfl) (j_cb (cr_max rfl) lc_max rfl b_max (by decide +kernel) (ja_cons (j_lc (own := [("_law_some", 11)]) rfl sc_law.nd (ji_list (jv 5)) (blkOk_by (own := [("_law_some", 11)]) (N := ["_law_script", "_law_k", "_law_state", "_law_ring_here", "_law_benches", "_law_choices", "_law_best", "_law_turn", "_law_tree_here", "_law_found", "_law_lap", "_law_some", "_law_i"]) (sc := defScope s_law) (by decide +kernel)) (fun _ _ _ _ _ => (jg_name (i := 11) sc_law.nd rfl (by first | exact Or.inl rfl | exact Or.inr rfl))) (fun _ _ _ _ _ => jts_nil) (fun _ _ _ _ _ => (j_cb (cr_sum rfl) lc_sum rfl b_sum (by decide +kernel) (ja_cons (j_lc (own := [("_law_i", 12)]) rfl sc_law.nd (ji_list (jv 11)) (blkOk_by (own := [("_law_i", 12)]) (by kernel_rfl)) (fun _ _ _ _ _ => (jg_name (i := 12) sc_law.nd rfl (by first | exact Or.inl rfl | exact Or.inr rfl))) (fun _ _ _ _ _ => jts_nil) (fun _ _ _ _ _ => (j_ix (j_ix (j_ix (jv 3) j_int) (jv 12)) j_int))) ja_nil)))) ja_nil)))
      (jss_one (js_for PassesOwn.never rfl (ji_range1 rfl b_range (ja_cons j_int ja_nil)) (jg_name (i := 7) sc_law.nd rfl (by first | exact Or.inl rfl | exact Or.inr rfl))
      (jss_cons (js_set (i := 8) sc_law.nd rfl (by first | exact Or.inl rfl | exact Or.inr rfl) (j_cal c__law_tree (hr.mono (by decide)) rfl (ja_cons (jv 2) (ja_cons (jv 3) (ja_cons (jv 4) (ja_cons (j_tup (ja_cons (j_lst ja_nil) (ja_cons (j_lst ja_nil) ja_nil))) (ja_cons j_int ja_nil)))))))
      (jss_cons (js_set (i := 9) sc_law.nd rfl (by first | exact Or.inl rfl | exact Or.inr rfl) (j_calG c__law_told (hr.mono (by decide)) gd rfl (ja_cons (jv 3) (ja_cons (jv 4) (ja_cons (jv 8) ja_nil)))))
      (jss_cons (js_if (JW.jt (jw_or (jt_cmp op_isN lo_isN (jv 9) j_non (nomark _)) (jw_or1 (jt_cmp op_lt lo_lt (jv 9) (jv 6) (nomark _))))) (jss_one (js_ret j_bl)) jss_nil)
      (jss_one (js_for PassesOwn.never rfl (ji_range1 rfl b_range (ja_cons j_int ja_nil)) (jg_name (i := 10) sc_law.nd rfl (by first | exact Or.inl rfl | exact Or.inr rfl))
      (jss_cons (js_set (i := 8) sc_law.nd rfl (by first | exact Or.inl rfl | exact Or.inr rfl) (j_cal c__law_bent (hr.mono (by decide)) rfl (ja_cons (jv 2) (ja_cons (jv 3) (ja_cons (jv 8) ja_nil)))))
      (jss_cons (js_set (i := 9) sc_law.nd rfl (by first | exact Or.inl rfl | exact Or.inr rfl) (j_calG c__law_told (hr.mono (by decide)) gd rfl (ja_cons (jv 3) (ja_cons (jv 4) (ja_cons (jv 8) ja_nil)))))
      (jss_one (js_if (JW.jt (jw_and (jt_cmp op_notN lo_notN (jv 9) j_non (nomark _)) (jw_and1 (jt_cmp op_lt lo_lt (jv 9) (jv 6) (nomark _))))) (jss_one (js_ret j_bl)) jss_nil)))))))))))))))))
      (jss_one (js_ret j_bl)))
end
def dd__law_begun : He.DefD := ⟨("_law_begun", none), "_law_begun", "_law_begun", defArgs s__law_begun, defBody s__law_begun, defScope s__law_begun, [], []⟩
def dd__law_take : He.DefD := ⟨("_law_take", none), "_law_take", "_law_take", defArgs s__law_take, defBody s__law_take, defScope s__law_take, [], []⟩
def dd__law_name : He.DefD := ⟨("_law_name", none), "_law_name", "_law_name", defArgs s__law_name, defBody s__law_name, defScope s__law_name, [], []⟩
def dd__law_ring : He.DefD := ⟨("_law_ring", none), "_law_ring", "_law_ring", defArgs s__law_ring, defBody s__law_ring, defScope s__law_ring, [], []⟩
def dd__law_moments : He.DefD := ⟨("_law_moments", none), "_law_moments", "_law_moments", defArgs s__law_moments, defBody s__law_moments, defScope s__law_moments, [], []⟩
def dd__law_is_light : He.DefD := ⟨("_law_is_light", none), "_law_is_light", "_law_is_light", defArgs s__law_is_light, defBody s__law_is_light, defScope s__law_is_light, [], []⟩
def dd__law_ring_choices : He.DefD := ⟨("_law_ring_choices", none), "_law_ring_choices", "_law_ring_choices", defArgs s__law_ring_choices, defBody s__law_ring_choices, defScope s__law_ring_choices, [], []⟩
def dd__law_load_in : He.DefD := ⟨("_law_load_in", none), "_law_load_in", "_law_load_in", defArgs s__law_load_in, defBody s__law_load_in, defScope s__law_load_in, [], []⟩
def dd__law_ring_paper : He.DefD := ⟨("_law_ring_paper", none), "_law_ring_paper", "_law_ring_paper", defArgs s__law_ring_paper, defBody s__law_ring_paper, defScope s__law_ring_paper, [], []⟩
def dd__law_tree : He.DefD := ⟨("_law_tree", none), "_law_tree", "_law_tree", defArgs s__law_tree, defBody s__law_tree, defScope s__law_tree, [], []⟩
def dd_RingWalk___init__ : He.DefD := ⟨("RingWalk", some "__init__"), "__init__", "RingWalk.__init__", defArgs s_RingWalk___init__, defBody s_RingWalk___init__, defScope s_RingWalk___init__, [], []⟩
def dd_is_whole : He.DefD := ⟨("is_whole", none), "is_whole", "is_whole", defArgs s_is_whole, defBody s_is_whole, defScope s_is_whole, [], []⟩
def dd_is_price : He.DefD := ⟨("is_price", none), "is_price", "is_price", defArgs s_is_price, defBody s_is_price, defScope s_is_price, [], []⟩
def dd_is_paper : He.DefD := ⟨("is_paper", none), "is_paper", "is_paper", defArgs s_is_paper, defBody s_is_paper, defScope s_is_paper, [], []⟩
def dd_is_ring_paper : He.DefD := ⟨("is_ring_paper", none), "is_ring_paper", "is_ring_paper", defArgs s_is_ring_paper, defBody s_is_ring_paper, defScope s_is_ring_paper, [], []⟩
def dd_is_over_ring : He.DefD := ⟨("is_over_ring", none), "is_over_ring", "is_over_ring", defArgs s_is_over_ring, defBody s_is_over_ring, defScope s_is_over_ring, [], []⟩
def dd_load_on : He.DefD := ⟨("load_on", none), "load_on", "load_on", defArgs s_load_on, defBody s_load_on, defScope s_load_on, [], []⟩
def dd_RingWalk_free : He.DefD := ⟨("RingWalk", some "free"), "free", "RingWalk.free", defArgs s_RingWalk_free, defBody s_RingWalk_free, defScope s_RingWalk_free, [], []⟩
def dd_ring_rest : He.DefD := ⟨("ring_rest", none), "ring_rest", "ring_rest", defArgs s_ring_rest, defBody s_ring_rest, defScope s_ring_rest, [], []⟩
def dd_RingWalk_priced : He.DefD := ⟨("RingWalk", some "priced"), "priced", "RingWalk.priced", defArgs s_RingWalk_priced, defBody s_RingWalk_priced, defScope s_RingWalk_priced, [], []⟩
def dd_RingWalk_is_split : He.DefD := ⟨("RingWalk", some "is_split"), "is_split", "RingWalk.is_split", defArgs s_RingWalk_is_split, defBody s_RingWalk_is_split, defScope s_RingWalk_is_split, [], []⟩
def dd_RingWalk_is_crowd : He.DefD := ⟨("RingWalk", some "is_crowd"), "is_crowd", "RingWalk.is_crowd", defArgs s_RingWalk_is_crowd, defBody s_RingWalk_is_crowd, defScope s_RingWalk_is_crowd, [], []⟩
def dd_RingWalk_go : He.DefD := ⟨("RingWalk", some "go"), "go", "RingWalk.go", defArgs s_RingWalk_go, defBody s_RingWalk_go, defScope s_RingWalk_go, [], []⟩
def dd_tree_claim : He.DefD := ⟨("tree_claim", none), "tree_claim", "tree_claim", defArgs s_tree_claim, defBody s_tree_claim, defScope s_tree_claim, [], []⟩
def dd__law_told : He.DefD := ⟨("_law_told", none), "_law_told", "_law_told", defArgs s__law_told, defBody s__law_told, defScope s__law_told, [], []⟩
def dd__law_bent : He.DefD := ⟨("_law_bent", none), "_law_bent", "_law_bent", defArgs s__law_bent, defBody s__law_bent, defScope s__law_bent, [], []⟩
def dd_law : He.DefD := ⟨("law", none), "law", "law", defArgs s_law, defBody s_law, defScope s_law, [], []⟩
def dd_NoTree___init__ : He.DefD := ⟨("NoTree", some "__init__"), "__init__", "NoTree.__init__", defArgs s_NoTree___init__, defBody s_NoTree___init__, defScope s_NoTree___init__, [], []⟩
def exK (K : PySem.W.Frag) : Bool := oxB K "NoTree" "way" && (allB K (["NoTree"] : List Str) (tExm "NoTree") && true)
def fn : List He.DefD := [dd__law_begun, dd__law_take, dd__law_name, dd__law_ring, dd__law_moments, dd__law_is_light, dd__law_ring_choices, dd__law_load_in, dd__law_ring_paper, dd__law_tree, dd_RingWalk___init__, dd_is_whole, dd_is_price, dd_is_paper, dd_is_ring_paper, dd_is_over_ring, dd_load_on, dd_RingWalk_free, dd_ring_rest, dd_RingWalk_priced, dd_RingWalk_is_split, dd_RingWalk_is_crowd, dd_RingWalk_go, dd_tree_claim, dd__law_told, dd__law_bent, dd_law, dd_NoTree___init__]
def fa : List He.Fa := [.glo "_law_begun", .glo "_law_take", .glo "_law_name", .glo "_law_ring", .glo "_law_moments", .glo "_law_is_light", .glo "_law_ring_choices", .glo "_law_load_in", .glo "_law_ring_paper", .glo "_law_tree", .glo "is_whole", .glo "is_price", .glo "is_paper", .glo "is_ring_paper", .glo "is_over_ring", .glo "load_on", .glo "ring_rest", .glo "tree_claim", .glo "_law_told", .glo "_law_bent", .glo "law", .free "all", .free "bool", .free "int", .free "isinstance", .free "len", .free "list", .free "max", .free "min", .free "range", .free "sorted", .free "str", .free "sum", .free "tuple", .free "zip", .int "MOST_PRICES" 48, .int "GREATEST_PRICE" 10000000000000, .int "FARTHEST" 1000000000000, .int "MOST_WALKED" 500, .cls "RingWalk", .mkr "RingWalk", .glo "RingWalk", .meth "RingWalk" "free", .meth "RingWalk" "priced", .meth "RingWalk" "is_split", .meth "RingWalk" "is_crowd", .meth "RingWalk" "go", .noat "RingWalk" "ring", .noat "RingWalk" "benches", .noat "RingWalk" "met", .noat "RingWalk" "sums", .glo "NoTree"]
abbrev R : PySem.W.OpenRow := PySem.W.OpenLaw.row PySem.Challenge.rw_benchworth_k59_whole_no_choice_beats_a_t
abbrev hk : PySem.W.Hook := hookB 4 fa fn exK
def ob (s : PySem.W.SharedT) : He.AlD × Bool := obsB 4 fa fn exK (HandSHeadRun.getT s)
theorem ob_eq (s : PySem.W.SharedT) : ob s = hk.obs s.abs := obsB_eq (HandSHeadRun.getT_eq s)
def loose : List Str := (["NoTree.__init__", "is_whole", "is_price", "is_paper", "is_over_ring", "load_on", "is_ring_paper", "ring_rest", "RingWalk.__init__", "RingWalk.free", "RingWalk.priced", "RingWalk.is_crowd", "RingWalk.is_split", "RingWalk.go", "tree_claim", "_law_begun", "_law_take", "_law_name", "_law_ring", "_law_moments", "_law_is_light", "_law_ring_choices", "_law_ring_paper", "_law_load_in", "_law_tree", "_law_bent", "_law_told", "MOST_PRICES", "GREATEST_PRICE", "FARTHEST"] : List Str) ++ (["MOST_WALKED", "BenchError", "NoTree", "RingWalk"] : List Str)
theorem run (w : World) : HandSHeadRun.RunEq R (PySem.W.view R.prog [33]) hk ob 20000 loose w := by
  intro os
  kernel_rfl
theorem facts {P : Program} {w : World} {K : PySem.W.Frag} {h : Heap} {mg : Str → Option Value} {f : Addr} (X : K.In h) (G : h.Ns mainGlobals mg) (hfa : mg ("law" : Str) = some (.ref f)) (c : He.SaysD fa fn K) (hx : exK K = true) :
    ∃ fd : FuncData, (∀ (s : Shared) (v : Value), BindsTo s fd ⟨[v], []⟩ [("_law_script", v)]) ∧ ∀ base : Heap, K.In base → base.Ns mainGlobals mg → (∃ m, base.Ns sysModules m) → FKG P w K mg base 34 f fd ["_law_script"] (lawF 63) := by
  have g__law_begun := He.glo_ok X G (c.fact 0 (f := .glo "_law_begun") rfl)
  have g__law_take := He.glo_ok X G (c.fact 1 (f := .glo "_law_take") rfl)
  have g__law_name := He.glo_ok X G (c.fact 2 (f := .glo "_law_name") rfl)
  have g__law_ring := He.glo_ok X G (c.fact 3 (f := .glo "_law_ring") rfl)
  have g__law_moments := He.glo_ok X G (c.fact 4 (f := .glo "_law_moments") rfl)
  have g__law_is_light := He.glo_ok X G (c.fact 5 (f := .glo "_law_is_light") rfl)
  have g__law_ring_choices := He.glo_ok X G (c.fact 6 (f := .glo "_law_ring_choices") rfl)
  have g__law_load_in := He.glo_ok X G (c.fact 7 (f := .glo "_law_load_in") rfl)
  have g__law_ring_paper := He.glo_ok X G (c.fact 8 (f := .glo "_law_ring_paper") rfl)
  have g__law_tree := He.glo_ok X G (c.fact 9 (f := .glo "_law_tree") rfl)
  have g_is_whole := He.glo_ok X G (c.fact 10 (f := .glo "is_whole") rfl)
  have g_is_price := He.glo_ok X G (c.fact 11 (f := .glo "is_price") rfl)
  have g_is_paper := He.glo_ok X G (c.fact 12 (f := .glo "is_paper") rfl)
  have g_is_ring_paper := He.glo_ok X G (c.fact 13 (f := .glo "is_ring_paper") rfl)
  have g_is_over_ring := He.glo_ok X G (c.fact 14 (f := .glo "is_over_ring") rfl)
  have g_load_on := He.glo_ok X G (c.fact 15 (f := .glo "load_on") rfl)
  have g_ring_rest := He.glo_ok X G (c.fact 16 (f := .glo "ring_rest") rfl)
  have g_tree_claim := He.glo_ok X G (c.fact 17 (f := .glo "tree_claim") rfl)
  have g__law_told := He.glo_ok X G (c.fact 18 (f := .glo "_law_told") rfl)
  have g__law_bent := He.glo_ok X G (c.fact 19 (f := .glo "_law_bent") rfl)
  have g_law := He.glo_ok X G (c.fact 20 (f := .glo "law") rfl)
  have b_all := He.free_ok X G (c.fact 21 (f := .free "all") rfl)
  have b_bool := He.free_ok X G (c.fact 22 (f := .free "bool") rfl)
  have b_int := He.free_ok X G (c.fact 23 (f := .free "int") rfl)
  have b_isinstance := He.free_ok X G (c.fact 24 (f := .free "isinstance") rfl)
  have b_len := He.free_ok X G (c.fact 25 (f := .free "len") rfl)
  have b_list := He.free_ok X G (c.fact 26 (f := .free "list") rfl)
  have b_max := He.free_ok X G (c.fact 27 (f := .free "max") rfl)
  have b_min := He.free_ok X G (c.fact 28 (f := .free "min") rfl)
  have b_range := He.free_ok X G (c.fact 29 (f := .free "range") rfl)
  have b_sorted := He.free_ok X G (c.fact 30 (f := .free "sorted") rfl)
  have b_str := He.free_ok X G (c.fact 31 (f := .free "str") rfl)
  have b_sum := He.free_ok X G (c.fact 32 (f := .free "sum") rfl)
  have b_tuple := He.free_ok X G (c.fact 33 (f := .free "tuple") rfl)
  have b_zip := He.free_ok X G (c.fact 34 (f := .free "zip") rfl)
  have z_MOST_PRICES := He.int_ok X G (c.fact 35 (f := .int "MOST_PRICES" 48) rfl)
  have z_GREATEST_PRICE := He.int_ok X G (c.fact 36 (f := .int "GREATEST_PRICE" 10000000000000) rfl)
  have z_FARTHEST := He.int_ok X G (c.fact 37 (f := .int "FARTHEST" 1000000000000) rfl)
  have z_MOST_WALKED := He.int_ok X G (c.fact 38 (f := .int "MOST_WALKED" 500) rfl)
  have kc_RingWalk := He.cls_ok (c.fact 39 (f := .cls "RingWalk") rfl)
  have km_RingWalk := He.mkr_ok (c.fact 40 (f := .mkr "RingWalk") rfl)
  have g_RingWalk := He.glo_ok X G (c.fact 41 (f := .glo "RingWalk") rfl)
  have kt_RingWalk_free := He.meth_ok (c.fact 42 (f := .meth "RingWalk" "free") rfl)
  have kt_RingWalk_priced := He.meth_ok (c.fact 43 (f := .meth "RingWalk" "priced") rfl)
  have kt_RingWalk_is_split := He.meth_ok (c.fact 44 (f := .meth "RingWalk" "is_split") rfl)
  have kt_RingWalk_is_crowd := He.meth_ok (c.fact 45 (f := .meth "RingWalk" "is_crowd") rfl)
  have kt_RingWalk_go := He.meth_ok (c.fact 46 (f := .meth "RingWalk" "go") rfl)
  have kn_RingWalk_ring := He.noat_ok (c.fact 47 (f := .noat "RingWalk" "ring") rfl)
  have kn_RingWalk_benches := He.noat_ok (c.fact 48 (f := .noat "RingWalk" "benches") rfl)
  have kn_RingWalk_met := He.noat_ok (c.fact 49 (f := .noat "RingWalk" "met") rfl)
  have kn_RingWalk_sums := He.noat_ok (c.fact 50 (f := .noat "RingWalk" "sums") rfl)
  have xg_NoTree := He.glo_ok X G (c.fact 51 (f := .glo "NoTree") rfl)
  obtain ⟨q_xo_NoTree, hx⟩ := He.ba hx
  obtain ⟨q_xm_NoTree, hx⟩ := He.ba hx
  have xm_NoTree : ∀ m ∈ (["NoTree"] : List Str), PySem.W.exmOne K (.ref (He.ga K m)) (.ref (He.ga K "NoTree")) = some (isSub m "NoTree") := fun m hm => tExm_ok (allB_ok q_xm_NoTree hm)
  obtain ⟨fd_NoTree___init__, FD_NoTree___init__⟩ := c.def_ 27 (d := dd_NoTree___init__) rfl
  have D_NoTree___init__ : DfM K "NoTree" "__init__" "NoTree.__init__" s_NoTree___init__ := ⟨_, FD_NoTree___init__⟩
  obtain ⟨fd__law_begun, FD__law_begun⟩ := c.def_ 0 (d := dd__law_begun) rfl
  have D__law_begun : Df K mg "_law_begun" s__law_begun := ⟨_, _, FD__law_begun, g__law_begun⟩
  obtain ⟨fd__law_take, FD__law_take⟩ := c.def_ 1 (d := dd__law_take) rfl
  have D__law_take : Df K mg "_law_take" s__law_take := ⟨_, _, FD__law_take, g__law_take⟩
  obtain ⟨fd__law_name, FD__law_name⟩ := c.def_ 2 (d := dd__law_name) rfl
  have D__law_name : Df K mg "_law_name" s__law_name := ⟨_, _, FD__law_name, g__law_name⟩
  obtain ⟨fd__law_ring, FD__law_ring⟩ := c.def_ 3 (d := dd__law_ring) rfl
  have D__law_ring : Df K mg "_law_ring" s__law_ring := ⟨_, _, FD__law_ring, g__law_ring⟩
  obtain ⟨fd__law_moments, FD__law_moments⟩ := c.def_ 4 (d := dd__law_moments) rfl
  have D__law_moments : Df K mg "_law_moments" s__law_moments := ⟨_, _, FD__law_moments, g__law_moments⟩
  obtain ⟨fd__law_is_light, FD__law_is_light⟩ := c.def_ 5 (d := dd__law_is_light) rfl
  have D__law_is_light : Df K mg "_law_is_light" s__law_is_light := ⟨_, _, FD__law_is_light, g__law_is_light⟩
  obtain ⟨fd__law_ring_choices, FD__law_ring_choices⟩ := c.def_ 6 (d := dd__law_ring_choices) rfl
  have D__law_ring_choices : Df K mg "_law_ring_choices" s__law_ring_choices := ⟨_, _, FD__law_ring_choices, g__law_ring_choices⟩
  obtain ⟨fd__law_load_in, FD__law_load_in⟩ := c.def_ 7 (d := dd__law_load_in) rfl
  have D__law_load_in : Df K mg "_law_load_in" s__law_load_in := ⟨_, _, FD__law_load_in, g__law_load_in⟩
  obtain ⟨fd__law_ring_paper, FD__law_ring_paper⟩ := c.def_ 8 (d := dd__law_ring_paper) rfl
  have D__law_ring_paper : Df K mg "_law_ring_paper" s__law_ring_paper := ⟨_, _, FD__law_ring_paper, g__law_ring_paper⟩
  obtain ⟨fd__law_tree, FD__law_tree⟩ := c.def_ 9 (d := dd__law_tree) rfl
  have D__law_tree : Df K mg "_law_tree" s__law_tree := ⟨_, _, FD__law_tree, g__law_tree⟩
  obtain ⟨fd_RingWalk___init__, FD_RingWalk___init__⟩ := c.def_ 10 (d := dd_RingWalk___init__) rfl
  have D_RingWalk___init__ : DfM K "RingWalk" "__init__" "RingWalk.__init__" s_RingWalk___init__ := ⟨_, FD_RingWalk___init__⟩
  obtain ⟨fd_is_whole, FD_is_whole⟩ := c.def_ 11 (d := dd_is_whole) rfl
  have D_is_whole : Df K mg "is_whole" s_is_whole := ⟨_, _, FD_is_whole, g_is_whole⟩
  obtain ⟨fd_is_price, FD_is_price⟩ := c.def_ 12 (d := dd_is_price) rfl
  have D_is_price : Df K mg "is_price" s_is_price := ⟨_, _, FD_is_price, g_is_price⟩
  obtain ⟨fd_is_paper, FD_is_paper⟩ := c.def_ 13 (d := dd_is_paper) rfl
  have D_is_paper : Df K mg "is_paper" s_is_paper := ⟨_, _, FD_is_paper, g_is_paper⟩
  obtain ⟨fd_is_ring_paper, FD_is_ring_paper⟩ := c.def_ 14 (d := dd_is_ring_paper) rfl
  have D_is_ring_paper : Df K mg "is_ring_paper" s_is_ring_paper := ⟨_, _, FD_is_ring_paper, g_is_ring_paper⟩
  obtain ⟨fd_is_over_ring, FD_is_over_ring⟩ := c.def_ 15 (d := dd_is_over_ring) rfl
  have D_is_over_ring : Df K mg "is_over_ring" s_is_over_ring := ⟨_, _, FD_is_over_ring, g_is_over_ring⟩
  obtain ⟨fd_load_on, FD_load_on⟩ := c.def_ 16 (d := dd_load_on) rfl
  have D_load_on : Df K mg "load_on" s_load_on := ⟨_, _, FD_load_on, g_load_on⟩
  obtain ⟨fd_RingWalk_free, FD_RingWalk_free⟩ := c.def_ 17 (d := dd_RingWalk_free) rfl
  have D_RingWalk_free : DfM K "RingWalk" "free" "RingWalk.free" s_RingWalk_free := ⟨_, FD_RingWalk_free⟩
  obtain ⟨fd_ring_rest, FD_ring_rest⟩ := c.def_ 18 (d := dd_ring_rest) rfl
  have D_ring_rest : Df K mg "ring_rest" s_ring_rest := ⟨_, _, FD_ring_rest, g_ring_rest⟩
  obtain ⟨fd_RingWalk_priced, FD_RingWalk_priced⟩ := c.def_ 19 (d := dd_RingWalk_priced) rfl
  have D_RingWalk_priced : DfM K "RingWalk" "priced" "RingWalk.priced" s_RingWalk_priced := ⟨_, FD_RingWalk_priced⟩
  obtain ⟨fd_RingWalk_is_split, FD_RingWalk_is_split⟩ := c.def_ 20 (d := dd_RingWalk_is_split) rfl
  have D_RingWalk_is_split : DfM K "RingWalk" "is_split" "RingWalk.is_split" s_RingWalk_is_split := ⟨_, FD_RingWalk_is_split⟩
  obtain ⟨fd_RingWalk_is_crowd, FD_RingWalk_is_crowd⟩ := c.def_ 21 (d := dd_RingWalk_is_crowd) rfl
  have D_RingWalk_is_crowd : DfM K "RingWalk" "is_crowd" "RingWalk.is_crowd" s_RingWalk_is_crowd := ⟨_, FD_RingWalk_is_crowd⟩
  obtain ⟨fd_RingWalk_go, FD_RingWalk_go⟩ := c.def_ 22 (d := dd_RingWalk_go) rfl
  have D_RingWalk_go : DfM K "RingWalk" "go" "RingWalk.go" s_RingWalk_go := ⟨_, FD_RingWalk_go⟩
  obtain ⟨fd_tree_claim, FD_tree_claim⟩ := c.def_ 23 (d := dd_tree_claim) rfl
  have D_tree_claim : Df K mg "tree_claim" s_tree_claim := ⟨_, _, FD_tree_claim, g_tree_claim⟩
  obtain ⟨fd__law_told, FD__law_told⟩ := c.def_ 24 (d := dd__law_told) rfl
  have D__law_told : Df K mg "_law_told" s__law_told := ⟨_, _, FD__law_told, g__law_told⟩
  obtain ⟨fd__law_bent, FD__law_bent⟩ := c.def_ 25 (d := dd__law_bent) rfl
  have D__law_bent : Df K mg "_law_bent" s__law_bent := ⟨_, _, FD__law_bent, g__law_bent⟩
  obtain ⟨fd_law, FD_law⟩ := c.def_ 26 (d := dd_law) rfl
  have D_law : Df K mg "law" s_law := ⟨_, _, FD_law, g_law⟩
  have e := hfa.symm.trans g_law
  cases e
  have b := FunD.bindsA (ps := ["_law_script"]) FD_law fun _ _ _ _ _ _ us hl => match us, hl with | [_], _ => rfl
  refine ⟨fd_law, fun s v => b s [v] rfl, fun base _ _ hsy => ?_⟩
  have ox_NoTree : OxK P w K mg base "NoTree" "way" := oxB_ok q_xo_NoTree xg_NoTree (init_ok D_NoTree___init__ sc_NoTree___init__ (fun _ _ _ _ _ _ us hl => match us, hl with | [_, _], _ => rfl) (fun _ _ _ _ _ _ _ => pss_one (ps_ost (pv 0) (pv 1))))
  have c__law_begun : Cal P w K mg base 1 "_law_begun" ["_law_script", "_law_k"] F__law_begun := ok__law_begun D__law_begun b_len b_max
  have c__law_take : Cal P w K mg base 1 "_law_take" ["_law_state", "_law_many"] F__law_take := ok__law_take D__law_take b_range b_int
  have c__law_name : Cal P w K mg base 2 "_law_name" ["_law_state", "_law_k"] F__law_name := ok__law_name D__law_name b_range c__law_take
  have c__law_ring : Cal P w K mg base 3 "_law_ring" ["_law_state", "_law_most"] F__law_ring := ok__law_ring D__law_ring b_range b_min c__law_take c__law_name
  have c__law_moments : Cal P w K mg base 1 "_law_moments" ["_law_ring_here", "_law_i"] F__law_moments := ok__law_moments D__law_moments b_range
  have c__law_is_light : Cal P w K mg base 2 "_law_is_light" ["_law_ring_here", "_law_some", "_law_benches"] F__law_is_light := ok__law_is_light D__law_is_light b_max c__law_moments
  have c__law_ring_choices : Cal P w K mg base 3 "_law_ring_choices" ["_law_ring_here", "_law_benches"] F__law_ring_choices := ok__law_ring_choices D__law_ring_choices b_range b_len c__law_is_light
  have c__law_load_in : Cal P w K mg base 1 "_law_load_in" ["_law_ring_here", "_law_inside", "_law_moment"] F__law_load_in := ok__law_load_in D__law_load_in b_len
  have c__law_ring_paper : Cal P w K mg base 2 "_law_ring_paper" ["_law_state", "_law_ring_here"] F__law_ring_paper57 := ok__law_ring_paper D__law_ring_paper b_range b_sorted c__law_take
  have cc__law_tree : ∀ n : Nat, Cal P w K mg base (3 + n) "_law_tree" ["_law_state", "_law_ring_here", "_law_benches", "_law_put", "_law_deep"] (F__law_tree n) := fun n => by
    induction n with
    | zero => exact ok0__law_tree D__law_tree b_range b_len c__law_load_in c__law_take c__law_ring_paper
    | succ n ih => exact ok__law_tree D__law_tree b_range b_len c__law_load_in c__law_take c__law_ring_paper n ih
  have c__law_tree : Cal P w K mg base 8 "_law_tree" ["_law_state", "_law_ring_here", "_law_benches", "_law_put", "_law_deep"] (F__law_tree 5) := cc__law_tree 5
  have c_RingWalk___init__ : CalK P w K mg base 1 "RingWalk" ["self", "ring", "benches"] F_RingWalk___init__ := calK_ok km_RingWalk g_RingWalk (ok_RingWalk___init__ D_RingWalk___init__ kc_RingWalk kn_RingWalk_ring kn_RingWalk_benches kn_RingWalk_met kn_RingWalk_sums)
  have c_is_whole : Cal P w K mg base 1 "is_whole" ["thing"] F_is_whole := ok_is_whole D_is_whole b_isinstance b_int b_bool
  have c_is_price : Cal P w K mg base 2 "is_price" ["thing"] F_is_priceX := ok_is_price D_is_price b_isinstance b_tuple b_len z_FARTHEST z_GREATEST_PRICE c_is_whole
  have c_is_paper : Cal P w K mg base 3 "is_paper" ["thing"] F_is_paperX := ok_is_paper D_is_paper b_isinstance b_list b_len b_zip z_MOST_PRICES c_is_price
  have c_is_ring_paper : Cal P w K mg base 4 "is_ring_paper" ["ring", "thing"] F_is_ring_paper := ok_is_ring_paper D_is_ring_paper b_all c_is_paper
  have c_is_over_ring : Cal P w K mg base 1 "is_over_ring" ["ring", "i", "moment"] F_is_over_ring := ok_is_over_ring D_is_over_ring
  have c_load_on : Cal P w K mg base 2 "load_on" ["ring", "some", "moment"] F_load_on := ok_load_on D_load_on b_len c_is_over_ring
  have c_RingWalk_free : CalM P w K mg base 1 "RingWalk" "free" ["self", "inside", "outside"] F_RingWalk_free := calM_ok kc_RingWalk kt_RingWalk_free (ok_RingWalk_free D_RingWalk_free b_range b_len kc_RingWalk kn_RingWalk_ring)
  have c_ring_rest : Cal P w K mg base 2 "ring_rest" ["ring", "i", "paper"] F_ring_rest := ok_ring_rest D_ring_rest b_sum b_max c_is_over_ring
  have c_RingWalk_priced : CalM P w K mg base 3 "RingWalk" "priced" ["self", "paper", "inside", "outside"] F_RingWalk_priced := calM_ok kc_RingWalk kt_RingWalk_priced (ok_RingWalk_priced D_RingWalk_priced b_sum kc_RingWalk kn_RingWalk_ring kn_RingWalk_benches c_load_on c_RingWalk_free c_ring_rest)
  have c_RingWalk_is_split : CalM P w K mg base 2 "RingWalk" "is_split" ["self", "thing", "inside", "outside"] F_RingWalk_is_split := calM_ok kc_RingWalk kt_RingWalk_is_split (ok_RingWalk_is_split D_RingWalk_is_split b_len b_isinstance b_list c_is_whole c_RingWalk_free)
  have c_RingWalk_is_crowd : CalM P w K mg base 3 "RingWalk" "is_crowd" ["self", "moment", "inside"] F_RingWalk_is_crowd := calM_ok kc_RingWalk kt_RingWalk_is_crowd (ok_RingWalk_is_crowd D_RingWalk_is_crowd kc_RingWalk kn_RingWalk_ring kn_RingWalk_benches c_is_whole c_load_on)
  have cc_RingWalk_go : ∀ n : Nat, CalMX P w K mg base (5 + n) "RingWalk" "go" ["self", "thing", "inside", "outside", "way"] (F_RingWalk_go n) := fun n => by
    induction n with
    | zero => exact calMX_ok kc_RingWalk kt_RingWalk_go (ok0_RingWalk_go D_RingWalk_go b_isinstance b_tuple b_str b_len z_MOST_WALKED kc_RingWalk kn_RingWalk_met kn_RingWalk_ring kn_RingWalk_sums c_is_ring_paper c_RingWalk_priced c_RingWalk_is_split c_RingWalk_is_crowd ox_NoTree)
    | succ n ih => exact calMX_ok kc_RingWalk kt_RingWalk_go (ok_RingWalk_go D_RingWalk_go b_isinstance b_tuple b_str b_len z_MOST_WALKED kc_RingWalk kn_RingWalk_met kn_RingWalk_ring kn_RingWalk_sums c_is_ring_paper c_RingWalk_priced c_RingWalk_is_split c_RingWalk_is_crowd ox_NoTree n ih)
  have c_RingWalk_go : CalMX P w K mg base 31 "RingWalk" "go" ["self", "thing", "inside", "outside", "way"] (F_RingWalk_go 26) := cc_RingWalk_go 26
  have c_tree_claim : CalX P w K mg base 32 "tree_claim" ["ring", "benches", "thing"] F_tree_claim := ok_tree_claim D_tree_claim b_max kc_RingWalk kn_RingWalk_sums c_RingWalk___init__ c_RingWalk_go
  have c__law_told : CalG P w K mg base 33 "_law_told" ["_law_ring_here", "_law_benches", "_law_tree_here"] F__law_told := ok__law_told D__law_told b_str c_tree_claim xg_NoTree xm_NoTree hsy
  have cc__law_bent : ∀ n : Nat, Cal P w K mg base (2 + n) "_law_bent" ["_law_state", "_law_ring_here", "_law_tree_here"] (F__law_bent n) := fun n => by
    induction n with
    | zero => exact ok0__law_bent D__law_bent b_list b_len b_max c__law_take
    | succ n ih => exact ok__law_bent D__law_bent b_list b_len b_max c__law_take n ih
  have c__law_bent : Cal P w K mg base 14 "_law_bent" ["_law_state", "_law_ring_here", "_law_tree_here"] (F__law_bent 12) := cc__law_bent 12
  exact ok_law FD_law b_range b_max b_min b_len b_sum c__law_begun c__law_ring c__law_take c__law_ring_choices c__law_tree c__law_told c__law_bent hsy
end Row
open PySem PySem.W PySem.Calls PyProof.Rows
theorem PySem.Challenge.cw_benchworth_k59_whole_no_choice_beats_a_t_holds : PySem.Challenge.rw_benchworth_k59_whole_no_choice_beats_a_t.Holds := by
  w_on; o_law
  refine HandSHeadRun.head_any (r := OpenLaw.row PySem.Challenge.rw_benchworth_k59_whole_no_choice_beats_a_t) (q := view (OpenLaw.row PySem.Challenge.rw_benchworth_k59_whole_no_choice_beats_a_t).prog [33]) (H := Row.hk) (ob := Row.ob) (M := 20000) (loose := Row.loose) (d := HandSHeadRun.topDef (OpenLaw.row PySem.Challenge.rw_benchworth_k59_whole_no_choice_beats_a_t).prog 33) (kwd := []) Row.ob_eq
    (by kernel_rfl) (fun s => by kernel_rfl) Row.run (by kernel_rfl) (by kernel_rfl) (by kernel_rfl) (by rfl) (by first | assumption | decide +kernel) (by decide +kernel) ⟨rfl, rfl, rfl, rfl, rfl, by decide +kernel⟩ ?hw ?hc
  case hw => w_witness2
  case hc =>
    refine DL.walkG (l := PySem.Challenge.rw_benchworth_k59_whole_no_choice_beats_a_t) (n := 63) (k := 34) (x := "_law_script") rfl (by decide) (by kernel_rfl) ⟨rfl, by decide, by decide⟩ ?F (by kernel_rfl)
    intro w mg fa h Y G hmg0
    obtain ⟨K, KX, c, hx⟩ := Y
    have hmg : mg ("law" : PySem.Str) = some (.ref fa) := by
      have e : (HandSHeadRun.topDef (OpenLaw.row PySem.Challenge.rw_benchworth_k59_whole_no_choice_beats_a_t).prog 33).name = ("law" : PySem.Str) := by kernel_rfl
      rw [← e]
      exact hmg0
    obtain ⟨fd, hb, hF⟩ := Row.facts (P := (PySem.Challenge.rw_benchworth_k59_whole_no_choice_beats_a_t).prog) (w := w) KX G hmg c hx
    exact ⟨K, fd, KX, hb, hF⟩
