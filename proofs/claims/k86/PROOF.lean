import PyProof.Rows.All
import Wide.All
import OpenK.AllK
import Wide.FinOn
import HandS.ForMost
import HandS.Exc
import HandS.IsInst
import HandS.Wide
import HandS.Defaults
import HandS.HeadHook1
import HandS.Lambda
import HandS.HeadHook4
import HandS.Flow
import HandS.Conv
import HandS.SetFor
import HandS.Strs
import HandS.SortInts
import HandS.Style
import HandS.More
import HandS.Rev
import HandS.Codes
import HandS.TupAny
import PyProof.StrOps2
import HandS.SortKw
import PyProof.MinMaxWalk
import KE.DataMinMax
import KE.SortData
import HandS.HeadHook2
import HandS.Deep
import HandS.NoneIn
import PyProof.ListStr
import PyProof.TupleOfStr
import HandS.ExcValue
import HandS.HeadEnd
import HandS.RaiseMore
import PyProof.ReprRoads
import PyProof.StrLawsRepr
import PyProof.FitsInt
import PyProof.CallFns
import PyProof.RowDictHeap
import HandS.ExcOwn
import HandS.ExcInit
import HandS.ExcField
import HandS.ExcIs
import HandS.TryOnly
import HandS.WordsExc
import KE.KExcIs
import HandS.Sort
import KE.SortKeyHeap
import HandS.Nested
import HandS.HeadWalk
import HandS.FStr
import HandS.Text
import HandS.StrMore
import HandS.Flt
import PyProof.StrLawsTight
import PyProof.StrLawsReplace
import KE.IntTextLaws
import HandS.RaiseFrom
import HandS.SuiteRaise
import HandS.ExcInitHot
import PyProof.SeqRoads2
import PyProof.EqKinds
import HandS.ReplaceLit
import HandS.ReplaceDef
import HandS.Zip
import HandS.ReplaceList
import KE.KStateDown
import Lean
import HandS.Head0
import HandS.Head1
import HandS.Head2
import PySem.Challenge.RW_benchworth_k86_books_kept
set_option Elab.async false
set_option linter.all false
set_option maxRecDepth 100000
set_option maxHeartbeats 4000000
namespace DL
open PySem L2
/-- data by value; .ref: an owned object of the ghost heap -/
inductive D where
  | non | bl (b : Bool) | int (i : Int) | str (x : Str) | ty (n : String) | ref (a : Addr) | cl (a : Addr)
  | lst (ds : List D) | tup (ds : List D) | dct (ks : List Key) (ds : List D) | scr (ns : List Int) | exc (a dd : Addr) (f : Str) (e : D)
inductive GO where
  | lst (ds : List D) | dct (ks : List Key) (ds : List D) | ins (C : Str) (dx : Addr) (ks : List Str) (ds : List D) | own (x : Addr) | set (S : Int → Bool) (n : Nat) | tbl (f q : Str) (a : Addr) | gen (r : List V → HO → Prop) (ds : List D)
abbrev Gp := Addr → Option GO
def gput (G : Gp) (a : Addr) (o : GO) : Gp := fun b => if b = a then some o else G b
theorem gput_same {G : Gp} {a : Addr} {o : GO} : gput G a o a = some o := by unfold gput; rw [if_pos rfl]
theorem gput_ne {G : Gp} {a b : Addr} {o : GO} (h : b ≠ a) : gput G a o b = G b := by unfold gput; rw [if_neg h]
theorem gput_gput {G : Gp} {a : Addr} {o u : GO} : gput (gput G a o) a u = gput G a u := by
  funext b; unfold gput; split <;> rfl
/-- the script: locked, or written -/
def SqS (K : PySem.W.Frag) (H : Hp) (G : Gp) (P : Addr → Prop) (a : Addr) (xs : List V) : Prop :=
  ((∃ o, H a = some (.frz o (.lst xs))) ∧ G a = none) ∨ (H a = some (.lst xs) ∧ G a = none ∧ ¬ P a) ∨
    ∃ (o : Obj) (its : Array Value) (n : Nat), K.lookup a = some o ∧ o.cls = .type "list" ∧ o.dict = none ∧ o.data = .seq its n ∧ its.size ≤ sizeLine ∧ Vals xs its.toList
theorem SqS.sq {K : PySem.W.Frag} {H : Hp} {G : Gp} {P : Addr → Prop} {a : Addr} {xs : List V} (h : SqS K H G P a xs) : SqL K H a xs := by
  rcases h with ⟨⟨o, h⟩, _⟩ | ⟨h, _, _⟩ | h
  · exact .inl (.inr ⟨o, h⟩)
  · exact .inl (.inl h)
  · exact .inr h
mutual
def Rep (K : PySem.W.Frag) (H : Hp) (G : Gp) (P : Addr → Prop) : D → V → Prop
  | .non, v => v = .non
  | .bl b, v => v = .bl b
  | .int i, v => v = .int i
  | .str x, v => v = .str x
  | .ty n, v => v = .ty n
  | .cl a, v => v = .ref a
  | .ref a, v => v = .ref a ∧ ∃ o, G a = some o
  | .exc a dd f e, v => v = .ref a ∧ G dd = none ∧ ¬ P dd ∧ ∃ u, H dd = some (.xd [(f, u)]) ∧ Rep K H G P e u
  | .scr ns, v => ∃ a, v = .ref a ∧ ns.length ≤ sizeLine ∧ SqS K H G P a (ns.map V.int)
  | .lst ds, v => ∃ a xs, v = .ref a ∧ G a = none ∧ ¬ P a ∧ H a = some (.lst xs) ∧ ds.length ≤ sizeLine ∧ Reps K H G P ds xs
  | .tup ds, v => ∃ a xs, v = .ref a ∧ G a = none ∧ ¬ P a ∧ H a = some (.tup xs) ∧ ds.length ≤ sizeLine ∧ Reps K H G P ds xs
  | .dct ks ds, v => ∃ a xs, v = .ref a ∧ G a = none ∧ ¬ P a ∧ H a = some (.dK (ks.zip xs)) ∧ ks.length = ds.length ∧ Reps K H G P ds xs
def Reps (K : PySem.W.Frag) (H : Hp) (G : Gp) (P : Addr → Prop) : List D → List V → Prop
  | [], xs => xs = []
  | d :: ds, xs => ∃ x r, xs = x :: r ∧ Rep K H G P d x ∧ Reps K H G P ds r
end
def RelO (K : PySem.W.Frag) (H : Hp) (G : Gp) (P : Addr → Prop) : GO → HO → Prop
  | .lst ds, ho => ∃ xs, ho = .lst xs ∧ ds.length ≤ sizeLine ∧ Reps K H G P ds xs
  | .dct ks ds, ho => ∃ xs, ho = .dK (ks.zip xs) ∧ ks.length = ds.length ∧ Reps K H G P ds xs
  | .ins C dx ks ds, ho => ∃ xs, ho = .ins (He.ga K C) dx (ks.zip xs) ∧ ks.length = ds.length ∧ Reps K H G P ds xs
  | .own x, ho => ho = .own x
  | .set S n, ho => ho = .set S n
  | .gen r ds, ho => ∃ xs, r xs ho ∧ (∀ ys, ho ≠ .tup ys) ∧ Reps K H G P ds xs
  | .tbl f q a, ho => a = (He.cT K (f, none)).2 ∧ ∃ ps, ho = .tbl ps ∧ TriplesOk ps.toList ∧ ∀ (pos : Pos) (cv : Value), codeAmong pos ps.toList = some cv → ∃ c, cv = .ref c ∧ H c = some (LamX.CodeO c q) ∧ G c = none ∧ ¬ P c
/-- the world is held: owned objects as told, private ones apart -/
structure Wo (K : PySem.W.Frag) (P : Addr → Prop) (G : Gp) (H : Hp) : Prop where
  own : ∀ a o, G a = some o → ∃ ho, H a = some ho ∧ RelO K H G P o ho
  prv : ∀ a, P a → G a = none ∧ ∃ ho, H a = some ho ∧ ∀ ys, ho ≠ .tup ys
/-- what a step keeps: what is not owned stands; what is owned stays owned -/
structure Step (G : Gp) (H : Hp) (G' : Gp) (H' : Hp) : Prop where
  keep : ∀ a o, H a = some o → G a = none → H' a = some o ∧ G' a = none
  own : ∀ a o, G a = some o → ∃ o', G' a = some o'
theorem Step.refl (G : Gp) (H : Hp) : Step G H G H := ⟨fun _ _ h g => ⟨h, g⟩, fun _ o h => ⟨o, h⟩⟩
theorem Step.trans {G G1 G2 : Gp} {H H1 H2 : Hp} (a : Step G H G1 H1) (b : Step G1 H1 G2 H2) : Step G H G2 H2 :=
  ⟨fun c o h g => let ⟨h1, g1⟩ := a.keep c o h g; b.keep c o h1 g1, fun c o h => let ⟨o1, h1⟩ := a.own c o h; b.own c o1 h1⟩
mutual
theorem Rep.mono {K : PySem.W.Frag} {P P' : Addr → Prop} {G G' : Gp} {H H' : Hp} (s : Step G H G' H') (hP : ∀ a, (∃ ho, H a = some ho) → P' a → P a) : ∀ {d : D} {v : V}, Rep K H G P d v → Rep K H' G' P' d v
  | .non, _, h => by unfold Rep at h ⊢; exact h
  | .bl _, _, h => by unfold Rep at h ⊢; exact h
  | .int _, _, h => by unfold Rep at h ⊢; exact h
  | .str _, _, h => by unfold Rep at h ⊢; exact h
  | .ty _, _, h => by unfold Rep at h ⊢; exact h
  | .cl _, _, h => by unfold Rep at h ⊢; exact h
  | .ref a, _, h => by
    unfold Rep at h ⊢
    obtain ⟨rfl, o, ho⟩ := h
    exact ⟨rfl, s.own _ _ ho⟩
  | .exc a dd f e, _, h => by
    unfold Rep at h ⊢
    obtain ⟨rfl, g, p, u, r, q⟩ := h
    exact ⟨rfl, (s.keep _ _ r g).2, fun x => p (hP dd ⟨_, r⟩ x), u, (s.keep _ _ r g).1, Rep.mono s hP q⟩
  | .scr ns, _, h => by
    unfold Rep at h ⊢
    obtain ⟨a, rfl, z, ⟨⟨o, h⟩, g⟩ | ⟨h, g, pp⟩ | h⟩ := h
    · exact ⟨a, rfl, z, .inl ⟨⟨o, (s.keep _ _ h g).1⟩, (s.keep _ _ h g).2⟩⟩
    · exact ⟨a, rfl, z, .inr (.inl ⟨(s.keep _ _ h g).1, (s.keep _ _ h g).2, fun x => pp (hP a ⟨_, h⟩ x)⟩)⟩
    · exact ⟨a, rfl, z, .inr (.inr h)⟩
  | .lst ds, _, h => by
    unfold Rep at h ⊢
    obtain ⟨a, xs, rfl, g, p, r, z, q⟩ := h
    exact ⟨a, xs, rfl, (s.keep _ _ r g).2, fun x => p (hP a ⟨_, r⟩ x), (s.keep _ _ r g).1, z, Reps.mono s hP q⟩
  | .tup ds, _, h => by
    unfold Rep at h ⊢
    obtain ⟨a, xs, rfl, g, p, r, z, q⟩ := h
    exact ⟨a, xs, rfl, (s.keep _ _ r g).2, fun x => p (hP a ⟨_, r⟩ x), (s.keep _ _ r g).1, z, Reps.mono s hP q⟩
  | .dct ks ds, _, h => by
    unfold Rep at h ⊢
    obtain ⟨a, xs, rfl, g, p, r, z, q⟩ := h
    exact ⟨a, xs, rfl, (s.keep _ _ r g).2, fun x => p (hP a ⟨_, r⟩ x), (s.keep _ _ r g).1, z, Reps.mono s hP q⟩
theorem Reps.mono {K : PySem.W.Frag} {P P' : Addr → Prop} {G G' : Gp} {H H' : Hp} (s : Step G H G' H') (hP : ∀ a, (∃ ho, H a = some ho) → P' a → P a) : ∀ {ds : List D} {vs : List V}, Reps K H G P ds vs → Reps K H' G' P' ds vs
  | [], _, h => by unfold Reps at h ⊢; exact h
  | d :: ds, _, h => by
    unfold Reps at h ⊢
    obtain ⟨x, r, rfl, h1, h2⟩ := h
    exact ⟨x, r, rfl, Rep.mono s hP h1, Reps.mono s hP h2⟩
end
section
variable {K : PySem.W.Frag} {P : Addr → Prop} {G G' : Gp} {H H' : Hp}
theorem Rep.step {d : D} {v : V} (s : Step G H G' H') (h : Rep K H G P d v) : Rep K H' G' P d v := Rep.mono s (fun _ _ x => x) h
theorem Reps.step {ds : List D} {vs : List V} (s : Step G H G' H') (h : Reps K H G P ds vs) : Reps K H' G' P ds vs := Reps.mono s (fun _ _ x => x) h
theorem reps_nil : Reps K H G P [] [] := by unfold Reps; rfl
theorem reps_cons {d : D} {ds : List D} {v : V} {vs : List V} (h : Rep K H G P d v) (t : Reps K H G P ds vs) : Reps K H G P (d :: ds) (v :: vs) := by
  rw [Reps]; exact ⟨v, vs, rfl, h, t⟩
theorem Reps.length : ∀ {ds : List D} {vs : List V}, Reps K H G P ds vs → ds.length = vs.length
  | [], _, h => by unfold Reps at h; subst h; rfl
  | d :: ds, _, h => by
    unfold Reps at h
    obtain ⟨x, r, rfl, _, h2⟩ := h
    simp [Reps.length h2]
theorem Reps.get : ∀ {ds : List D} {vs : List V} {i : Nat} {d : D}, Reps K H G P ds vs → ds[i]? = some d → ∃ v, vs[i]? = some v ∧ Rep K H G P d v
  | [], _, _, _, _, e => by simp at e
  | d :: ds, _, i, d', h, e => by
    unfold Reps at h
    obtain ⟨x, r, rfl, h1, h2⟩ := h
    cases i with
    | zero => simp at e; subst e; exact ⟨x, by simp, h1⟩
    | succ i =>
      obtain ⟨v, e1, e2⟩ := Reps.get (i := i) (d := d') h2 (by simpa using e)
      exact ⟨v, by simpa using e1, e2⟩
theorem Reps.append : ∀ {ds es : List D} {vs ws : List V}, Reps K H G P ds vs → Reps K H G P es ws → Reps K H G P (ds ++ es) (vs ++ ws)
  | [], es, _, ws, h, k => by unfold Reps at h; subst h; exact k
  | d :: ds, es, _, ws, h, k => by
    unfold Reps at h
    obtain ⟨x, r, rfl, h1, h2⟩ := h
    exact reps_cons h1 (Reps.append h2 k)
theorem Reps.set {d : D} {v : V} (hd : Rep K H G P d v) : ∀ {ds : List D} {vs : List V} (i : Nat), Reps K H G P ds vs → Reps K H G P (ds.set i d) (vs.set i v)
  | [], _, _, h => by unfold Reps at h; subst h; exact reps_nil
  | e :: ds, _, i, h => by
    unfold Reps at h
    obtain ⟨x, r, rfl, h1, h2⟩ := h
    cases i with
    | zero => exact reps_cons hd h2
    | succ i => exact reps_cons h1 (Reps.set hd i h2)
theorem Reps.drop : ∀ {ds : List D} {vs : List V} (n : Nat), Reps K H G P ds vs → Reps K H G P (ds.drop n) (vs.drop n)
  | _, _, 0, h => h
  | [], _, n + 1, h => by unfold Reps at h; subst h; exact reps_nil
  | e :: ds, _, n + 1, h => by
    unfold Reps at h
    obtain ⟨x, r, rfl, h1, h2⟩ := h
    exact Reps.drop n h2
theorem Reps.take : ∀ {ds : List D} {vs : List V} (n : Nat), Reps K H G P ds vs → Reps K H G P (ds.take n) (vs.take n)
  | _, _, 0, h => reps_nil
  | [], _, n + 1, h => by unfold Reps at h; subst h; exact reps_nil
  | e :: ds, _, n + 1, h => by
    unfold Reps at h
    obtain ⟨x, r, rfl, h1, h2⟩ := h
    exact reps_cons h1 (Reps.take n h2)
theorem reps_of_ints : ∀ {ns : List Int}, Reps K H G P (ns.map D.int) (ns.map V.int)
  | [] => reps_nil
  | n :: ns => reps_cons (by unfold Rep; rfl) reps_of_ints
theorem rep_int {i : Int} : Rep K H G P (.int i) (.int i) := by unfold Rep; rfl
theorem rep_bl {i : Bool} : Rep K H G P (.bl i) (.bl i) := by unfold Rep; rfl
theorem rep_str {i : Str} : Rep K H G P (.str i) (.str i) := by unfold Rep; rfl
theorem rep_non : Rep K H G P .non .non := by unfold Rep; rfl
theorem rep_lst {a : Addr} {xs : List V} {ds : List D} (g : G a = none) (p : ¬ P a) (r : H a = some (.lst xs)) (z : ds.length ≤ sizeLine) (q : Reps K H G P ds xs) : Rep K H G P (.lst ds) (.ref a) := by
  unfold Rep; exact ⟨a, xs, rfl, g, p, r, z, q⟩
theorem rep_tup {a : Addr} {xs : List V} {ds : List D} (g : G a = none) (p : ¬ P a) (r : H a = some (.tup xs)) (z : ds.length ≤ sizeLine) (q : Reps K H G P ds xs) : Rep K H G P (.tup ds) (.ref a) := by
  unfold Rep; exact ⟨a, xs, rfl, g, p, r, z, q⟩
theorem RelO.step {P' : Addr → Prop} {o : GO} {ho : HO} (s : Step G H G' H') (hP : ∀ a, (∃ ho, H a = some ho) → P' a → P a) (h : RelO K H G P o ho) : RelO K H' G' P' o ho := by
  cases o with
  | lst ds => obtain ⟨xs, e, z, q⟩ := h; exact ⟨xs, e, z, q.mono s hP⟩
  | dct ks ds => obtain ⟨xs, e, z, q⟩ := h; exact ⟨xs, e, z, q.mono s hP⟩
  | ins C dx ks ds => obtain ⟨xs, e, z, q⟩ := h; exact ⟨xs, e, z, q.mono s hP⟩
  | own x => exact h
  | set S n => exact h
  | gen r ds => obtain ⟨xs, e, z, q⟩ := h; exact ⟨xs, e, z, q.mono s hP⟩
  | tbl f q a =>
    obtain ⟨ea, ps, e, z, q⟩ := h
    refine ⟨ea, ps, e, z, fun pos cv hc => ?_⟩
    obtain ⟨c, e1, e2, e3, e4⟩ := q pos cv hc
    exact ⟨c, e1, (s.keep c _ e2 e3).1, (s.keep c _ e2 e3).2, fun x => e4 (hP c ⟨_, e2⟩ x)⟩
theorem Wo.fresh (w : Wo K P G H) {p : Addr} (h : H p = none) : G p = none ∧ ¬ P p := by
  refine ⟨?_, fun q => ?_⟩
  · cases e : G p with
    | none => rfl
    | some o => obtain ⟨ho, q, _⟩ := w.own p o e; rw [h] at q; cases q
  · obtain ⟨_, ho, e, _⟩ := w.prv p q; rw [h] at e; cases e
/-- a new object, not owned -/
theorem Step.new {p : Addr} {o : HO} (h : H p = none) : Step G H G (upd H p o) :=
  ⟨fun a u e g => ⟨by rw [upd_ne (ne_of_none e h)]; exact e, g⟩, fun _ u e => ⟨u, e⟩⟩
theorem Wo.new (w : Wo K P G H) {p : Addr} {o : HO} (h : H p = none) : Wo K P G (upd H p o) := by
  refine ⟨fun a u e => ?_, fun a q => ?_⟩
  · obtain ⟨ho, e1, r⟩ := w.own a u e
    exact ⟨ho, by rw [upd_ne (ne_of_none e1 h)]; exact e1, r.step (Step.new h) fun _ _ x => x⟩
  · obtain ⟨g, ho, e, nt⟩ := w.prv a q
    exact ⟨g, ho, by rw [upd_ne (ne_of_none e h)]; exact e, nt⟩
/-- a new object, owned -/
theorem Step.newOwn {p : Addr} {o : HO} {g : GO} (w : Wo K P G H) (h : H p = none) : Step G H (gput G p g) (upd H p o) := by
  refine ⟨fun a u e q => ?_, fun a u e => ?_⟩
  · have ne : a ≠ p := ne_of_none e h
    exact ⟨by rw [upd_ne ne]; exact e, by rw [gput_ne ne]; exact q⟩
  · by_cases ne : a = p
    · subst ne; exact ⟨g, gput_same⟩
    · exact ⟨u, by rw [gput_ne ne]; exact e⟩
theorem Wo.newOwn (w : Wo K P G H) {p : Addr} {o : HO} {g : GO} (h : H p = none) (r : RelO K (upd H p o) (gput G p g) P g o) : Wo K P (gput G p g) (upd H p o) := by
  refine ⟨fun a u e => ?_, fun a q => ?_⟩
  · by_cases ne : a = p
    · subst ne; rw [gput_same] at e; cases e; exact ⟨o, upd_same, r⟩
    · rw [gput_ne ne] at e
      obtain ⟨ho, e1, r1⟩ := w.own a u e
      exact ⟨ho, by rw [upd_ne ne]; exact e1, r1.step (Step.newOwn w h) fun _ _ x => x⟩
  · obtain ⟨g1, ho, e, nt⟩ := w.prv a q
    have ne : a ≠ p := ne_of_none e h
    exact ⟨by rw [gput_ne ne]; exact g1, ho, by rw [upd_ne ne]; exact e, nt⟩
/-- an owned object changed -/
theorem Step.chg {p : Addr} {o : HO} {g g0 : GO} (h : G p = some g0) : Step G H (gput G p g) (upd H p o) := by
  refine ⟨fun a u e q => ?_, fun a u e => ?_⟩
  · have ne : a ≠ p := fun z => by subst z; rw [h] at q; cases q
    exact ⟨by rw [upd_ne ne]; exact e, by rw [gput_ne ne]; exact q⟩
  · by_cases ne : a = p
    · subst ne; exact ⟨g, gput_same⟩
    · exact ⟨u, by rw [gput_ne ne]; exact e⟩
theorem Wo.chg (w : Wo K P G H) {p : Addr} {o : HO} {g g0 : GO} (h : G p = some g0) (r : RelO K (upd H p o) (gput G p g) P g o) : Wo K P (gput G p g) (upd H p o) := by
  refine ⟨fun a u e => ?_, fun a q => ?_⟩
  · by_cases ne : a = p
    · subst ne; rw [gput_same] at e; cases e; exact ⟨o, upd_same, r⟩
    · rw [gput_ne ne] at e
      obtain ⟨ho, e1, r1⟩ := w.own a u e
      exact ⟨ho, by rw [upd_ne ne]; exact e1, r1.step (Step.chg h) fun _ _ x => x⟩
  · obtain ⟨g1, ho, e, nt⟩ := w.prv a q
    have ne : a ≠ p := fun z => by subst z; rw [h] at g1; cases g1
    exact ⟨by rw [gput_ne ne]; exact g1, ho, by rw [upd_ne ne]; exact e, nt⟩
end
end DL
set_option Elab.async false
set_option linter.all false
set_option maxRecDepth 100000
set_option maxHeartbeats 4000000
namespace DL
open PySem L2
abbrev DK := D → Gp → Prop
abbrev Sd := List (Option D)
abbrev EE := Sd → Gp → DK → Prop
abbrev ET := Sd → Gp → (Bool → Gp → Prop) → Prop
abbrev EA := Sd → Gp → (List D → Gp → Prop) → Prop
/-- an exception: its class by name, its field -/
structure Xd where
  c : Str
  f : Option (Str × D)
structure En where
  nx : Sd → Gp → Prop
  rt : DK
  bk : Sd → Gp → Prop := fun _ _ => False
  ct : Sd → Gp → Prop := fun _ _ => False
  xr : Xd → Sd → Gp → Prop := fun _ _ _ => False
abbrev ES := En → Sd → Gp → Prop
/-- the slots and the world told -/
structure Rl (K : PySem.W.Frag) (P : Addr → Prop) (s : Sd) (G : Gp) (σ : St) (H : Hp) : Prop where
  wo : Wo K P G H
  len : s.length = σ.length
  at_ : ∀ (i : Nat) (d : D), s[i]? = some (some d) → ∃ v, σ[i]? = some (some v) ∧ Rep K H G P d v
section
variable {K : PySem.W.Frag} {P : Addr → Prop} {s : Sd} {G G' : Gp} {σ : St} {H H' : Hp}
theorem Rl.step (r : Rl K P s G σ H) (st : Step G H G' H') (w : Wo K P G' H') : Rl K P s G' σ H' :=
  ⟨w, r.len, fun i d e => let ⟨v, e1, e2⟩ := r.at_ i d e; ⟨v, e1, e2.step st⟩⟩
theorem Rl.set (r : Rl K P s G σ H) {i : Nat} {d : D} {v : V} (h : Rep K H G P d v) : Rl K P (s.set i (some d)) G (σ.set i (some v)) H := by
  refine ⟨r.wo, by rw [List.length_set, List.length_set]; exact r.len, fun j e q => ?_⟩
  by_cases hj : i = j
  · subst hj
    by_cases hi : i < s.length
    · rw [List.getElem?_set_self hi] at q
      cases q
      exact ⟨v, List.getElem?_set_self (by rw [← r.len]; exact hi), h⟩
    · rw [List.getElem?_eq_none (by rw [List.length_set]; omega)] at q; cases q
  · rw [List.getElem?_set_ne hj] at q
    obtain ⟨w, e1, e2⟩ := r.at_ j e q
    exact ⟨w, by rw [List.getElem?_set_ne hj]; exact e1, e2⟩
end
/-- a reading over the heap keeps one over data -/
def LE (K : PySem.W.Frag) (te : TE) (t : EE) : Prop := ∀ (P : Addr → Prop) (s : Sd) (G : Gp) (Q : DK) (σ : St) (H : Hp) (R : VK), t s G Q → Rl K P s G σ H →
  (∀ d G' v H', Step G H G' H' → Wo K P G' H' → Rep K H' G' P d v → Q d G' → R v H') → te σ H R
def LT (K : PySem.W.Frag) (te : TT) (t : ET) : Prop := ∀ (P : Addr → Prop) (s : Sd) (G : Gp) (Q : Bool → Gp → Prop) (σ : St) (H : Hp) (R : Bool → Hp → Prop), t s G Q → Rl K P s G σ H →
  (∀ b G' H', Step G H G' H' → Wo K P G' H' → Q b G' → R b H') → te σ H R
def LA (K : PySem.W.Frag) (n : Nat) (te : TA) (t : EA) : Prop := ∀ (P : Addr → Prop) (s : Sd) (G : Gp) (Q : List D → Gp → Prop) (σ : St) (H : Hp) (R : List V → Hp → Prop), t s G Q → Rl K P s G σ H →
  (∀ ds G' vs H', Step G H G' H' → Wo K P G' H' → Reps K H' G' P ds vs → ds.length = n → Q ds G' → R vs H') → te σ H R
/-- what is raised, over the heap; the classes' addresses -/
structure Wx where
  w : WX
def RepX (K : PySem.W.Frag) (H : Hp) (G : Gp) (P : Addr → Prop) (x : Xd) (cls : Value) (d : Option Addr) : Prop := cls = .ref (He.ga K x.c) ∧ match x.f with
  | none => d = none
  | some (n, e) => ∃ a v, d = some a ∧ G a = none ∧ ¬ P a ∧ H a = some (.xd [(n, v)]) ∧ Rep K H G P e v
theorem RepX.step {K : PySem.W.Frag} {P : Addr → Prop} {G G' : Gp} {H H' : Hp} {x : Xd} {cls : Value} {d : Option Addr} (s : Step G H G' H') (h : RepX K H G P x cls d) : RepX K H' G' P x cls d := by
  obtain ⟨e, h⟩ := h
  refine ⟨e, ?_⟩
  split
  · rename_i q; rw [q] at h; exact h
  · rename_i n e q
    rw [q] at h
    obtain ⟨a, v, e1, g, p, e2, r⟩ := h
    exact ⟨a, v, e1, (s.keep a _ e2 g).2, p, (s.keep a _ e2 g).1, r.step s⟩
/-- what follows a statement, over the heap and over data -/
structure Co (K : PySem.W.Frag) (Y : Wx) (P : Addr → Prop) (G : Gp) (H : Hp) (N : En) (M : Ends) : Prop where
  nx : ∀ s' G' σ' H', Step G H G' H' → Rl K P s' G' σ' H' → N.nx s' G' → M.nx σ' H'
  rt : ∀ d G' v H', Step G H G' H' → Wo K P G' H' → Rep K H' G' P d v → N.rt d G' → M.rt v H'
  bk : ∀ s' G' σ' H', Step G H G' H' → Rl K P s' G' σ' H' → N.bk s' G' → M.bk σ' H'
  ct : ∀ s' G' σ' H', Step G H G' H' → Rl K P s' G' σ' H' → N.ct s' G' → M.ct σ' H'
  xr : ∀ x s' G' cls d σ' H', Step G H G' H' → Rl K P s' G' σ' H' → RepX K H' G' P x cls d → N.xr x s' G' → Y.w cls d σ' H'
theorem Co.step {K : PySem.W.Frag} {Y : Wx} {P : Addr → Prop} {G G' : Gp} {H H' : Hp} {N : En} {M : Ends} (c : Co K Y P G H N M) (st : Step G H G' H') : Co K Y P G' H' N M :=
  ⟨fun a b e d x y z => c.nx a b e d (st.trans x) y z, fun a b e d x y z w => c.rt a b e d (st.trans x) y z w, fun a b e d x y z => c.bk a b e d (st.trans x) y z, fun a b e d x y z => c.ct a b e d (st.trans x) y z, fun a b e d f g h x y z w => c.xr a b e d f g h (st.trans x) y z w⟩
def LS (K : PySem.W.Frag) (Y : Wx) (ts : TS) (t : ES) : Prop := ∀ (P : Addr → Prop) (s : Sd) (G : Gp) (N : En) (σ : St) (H : Hp) (M : Ends), t N s G → Rl K P s G σ H → Co K Y P G H N M → ts M σ H
def upE (K : PySem.W.Frag) (t : EE) : TE := fun σ H R => ∃ (P : Addr → Prop) (s : Sd) (G : Gp) (Q : DK), t s G Q ∧ Rl K P s G σ H ∧ ∀ d G' v H', Step G H G' H' → Wo K P G' H' → Rep K H' G' P d v → Q d G' → R v H'
def upT (K : PySem.W.Frag) (t : ET) : TT := fun σ H R => ∃ (P : Addr → Prop) (s : Sd) (G : Gp) (Q : Bool → Gp → Prop), t s G Q ∧ Rl K P s G σ H ∧ ∀ b G' H', Step G H G' H' → Wo K P G' H' → Q b G' → R b H'
def upA (K : PySem.W.Frag) (n : Nat) (t : EA) : TA := fun σ H R => ∃ (P : Addr → Prop) (s : Sd) (G : Gp) (Q : List D → Gp → Prop), t s G Q ∧ Rl K P s G σ H ∧ ∀ ds G' vs H', Step G H G' H' → Wo K P G' H' → Reps K H' G' P ds vs → ds.length = n → Q ds G' → R vs H'
def upS (K : PySem.W.Frag) (Y : Wx) (t : ES) : TS := fun M σ H => ∃ (P : Addr → Prop) (s : Sd) (G : Gp) (N : En), t N s G ∧ Rl K P s G σ H ∧ Co K Y P G H N M
inductive JE (X : Cx) (e : Expr) (t : EE) : Prop where
  | mk {te : TE} (a : PE X e te) (b : LE X.K te t) : JE X e t
inductive JT (X : Cx) (e : Expr) (t : ET) : Prop where
  | mk {te : TT} (a : PT X e te) (b : LT X.K te t) : JT X e t
inductive JW (X : Cx) (e : Expr) (t : ET) : Prop where
  | mk {te : TT} (a : PW X e te) (b : LT X.K te t) : JW X e t
inductive JA (X : Cx) (es : List Expr) (t : EA) : Prop where
  | mk {te : TA} (a : PA X es te) (b : LA X.K es.length te t) : JA X es t
inductive JS (X : Cx) (Y : Wx) (st : Stmt) (t : ES) : Prop where
  | mk {ts : TS} (a : PS X st ts) (b : LS X.K Y ts t) : JS X Y st t
inductive JSs (X : Cx) (Y : Wx) (st : List Stmt) (t : ES) : Prop where
  | mk {ts : TS} (a : PSs X st ts) (b : LS X.K Y ts t) : JSs X Y st t
section
variable {X : Cx} {e : Expr} {es : List Expr} {st : Stmt} {sts : List Stmt} {t : EE} {tt : ET} {ta : EA} {ts : ES}
theorem JE.pe (h : JE X e t) : PE X e (upE X.K t) := by
  obtain ⟨a, b⟩ := h
  exact ⟨fun pins s σ H Q I ⟨P, s', G, Q', h1, h2, h3⟩ => a.run pins s σ H Q I (b P s' G Q' σ H Q h1 h2 h3)⟩
theorem JE.le (h : JE X e t) : LE X.K (upE X.K t) t := fun P s G Q σ H R h1 h2 h3 => ⟨P, s, G, Q, h1, h2, h3⟩
theorem JT.pt (h : JT X e tt) : PT X e (upT X.K tt) := by
  obtain ⟨a, b⟩ := h
  exact ⟨fun pins s σ H Q I ⟨P, s', G, Q', h1, h2, h3⟩ => a.run pins s σ H Q I (b P s' G Q' σ H Q h1 h2 h3)⟩
theorem JT.lt (h : JT X e tt) : LT X.K (upT X.K tt) tt := fun P s G Q σ H R h1 h2 h3 => ⟨P, s, G, Q, h1, h2, h3⟩
theorem JW.pw (h : JW X e tt) : PW X e (upT X.K tt) := by
  obtain ⟨a, b⟩ := h
  exact ⟨fun wh pins s σ H Q I ⟨P, s', G, Q', h1, h2, h3⟩ => a.run wh pins s σ H Q I (b P s' G Q' σ H Q h1 h2 h3)⟩
theorem JW.lt (h : JW X e tt) : LT X.K (upT X.K tt) tt := fun P s G Q σ H R h1 h2 h3 => ⟨P, s, G, Q, h1, h2, h3⟩
theorem JA.pa (h : JA X es ta) : PA X es (upA X.K es.length ta) := by
  obtain ⟨a, b⟩ := h
  exact ⟨fun pos pins s σ H Q I ⟨P, s', G, Q', h1, h2, h3⟩ => a.run pos pins s σ H Q I (b P s' G Q' σ H Q h1 h2 h3)⟩
theorem JA.la (h : JA X es ta) : LA X.K es.length (upA X.K es.length ta) ta := fun P s G Q σ H R h1 h2 h3 => ⟨P, s, G, Q, h1, h2, h3⟩
theorem JS.ps {Y : Wx} (h : JS X Y st ts) : PS X st (upS X.K Y ts) := by
  obtain ⟨a, b⟩ := h
  exact ⟨fun pins s σ H M I ⟨P, s', G, N, h1, h2, h3⟩ => a.run pins s σ H M I (b P s' G N σ H M h1 h2 h3)⟩
theorem JS.ls {Y : Wx} (h : JS X Y st ts) : LS X.K Y (upS X.K Y ts) ts := fun P s G N σ H M h1 h2 h3 => ⟨P, s, G, N, h1, h2, h3⟩
theorem JSs.ps {Y : Wx} (h : JSs X Y sts ts) : PSs X sts (upS X.K Y ts) := by
  obtain ⟨a, b⟩ := h
  exact ⟨fun pins s σ H M I ⟨P, s', G, N, h1, h2, h3⟩ => a.run pins s σ H M I (b P s' G N σ H M h1 h2 h3)⟩
theorem JSs.ls {Y : Wx} (h : JSs X Y sts ts) : LS X.K Y (upS X.K Y ts) ts := fun P s G N σ H M h1 h2 h3 => ⟨P, s, G, N, h1, h2, h3⟩
end
@[simp] def eVar (i : Nat) : EE := fun s G Q => match s[i]? with
  | some (some d) => Q d G
  | _ => False
@[simp] def eC (d : D) : EE := fun _ G Q => Q d G
section
variable {X : Cx} {K : PySem.W.Frag}
theorem le_var {i : Nat} : LE K (tVar i) (eVar i) := fun P s G Q σ H R h r k => by
  unfold eVar at h
  split at h
  · rename_i d e
    obtain ⟨v, e1, e2⟩ := r.at_ i d e
    exact ⟨v, e1, k d G v H (Step.refl _ _) r.wo e2 h⟩
  · exact h.elim
theorem jv (i : Nat) {x : Str} {pos : Pos} (hN : X.N[i]? = some x := by rfl) (hv : Vis X.env.scope x := by first | exact Or.inl rfl | exact Or.inr (Or.inl rfl) | exact Or.inr (Or.inr rfl)) (hd : (x == ("__debug__" : Str)) = false := by decide)
    (hcd : (x == ("__classdict__" : Str)) = false := by decide) : JE X (.Name x pos) (eVar i) := ⟨pv i hN hv hd hcd, le_var⟩
theorem le_c {v : V} {d : D} (h : ∀ H G P, Rep K H G P d v) : LE K (tC v) (eC d) := fun P s G Q σ H R q r k => k d G v H (Step.refl _ _) r.wo (h _ _ _) q
theorem j_int {i j pos} : JE X (.Constant (.int i) j pos) (eC (.int i)) := ⟨pe_int, le_c fun _ _ _ => rep_int⟩
theorem j_bl {i j pos} : JE X (.Constant (.bool i) j pos) (eC (.bl i)) := ⟨pe_bl, le_c fun _ _ _ => rep_bl⟩
theorem j_non {j pos} : JE X (.Constant .none j pos) (eC .non) := ⟨pe_non, le_c fun _ _ _ => rep_non⟩
theorem j_str {i j pos} : JE X (.Constant (.str i) j pos) (eC (.str i)) := ⟨pe_str, le_c fun _ _ _ => rep_str⟩
/-- a module's int, text -/
theorem j_gint {x : Str} {i : Int} {pos : Pos} (hg : Gl X x) (hm : ∃ t, X.mg x = some (.int i t)) (hd : (x == ("__debug__" : Str)) = false := by decide) : JE X (.Name x pos) (eC (.int i)) :=
  let ⟨t, e⟩ := hm; ⟨pe_glob (v := .int i) hg e ⟨t, rfl⟩ hd, le_c fun _ _ _ => rep_int⟩
theorem j_gstr {x z : Str} {pos : Pos} (hg : Gl X x) (hm : ∃ t, X.mg x = some (.str z t)) (hd : (x == ("__debug__" : Str)) = false := by decide) : JE X (.Name x pos) (eC (.str z)) :=
  let ⟨t, e⟩ := hm; ⟨pe_glob (v := .str z) hg e ⟨t, rfl⟩ hd, le_c fun _ _ _ => rep_str⟩
theorem j_ty {x : Str} {n : String} {pos : Pos} (hg : Gl X x) (hm : X.mg x = none) (hv : bootBuiltins x = some (.type n)) (hn : x ≠ "__name__" := by decide) (hd : (x == ("__debug__" : Str)) = false := by decide) : JE X (.Name x pos) (eC (.ty n)) :=
  ⟨pe_bltn (v := .ty n) hg hm hv rfl hn hd, le_c fun _ _ _ => by unfold Rep; rfl⟩
end
abbrev OD := D → D → Gp → DK → Prop
abbrev UD := D → Gp → DK → Prop
/-- an operator over the heap keeps one over data -/
def LO (K : PySem.W.Frag) (r : R2) (o : OD) : Prop := ∀ (P : Addr → Prop) (G : Gp) (H : Hp) (x y : D) (u v : V) (Q : DK) (R : VK), o x y G Q → Wo K P G H → Rep K H G P x u → Rep K H G P y v →
  (∀ d G' w H', Step G H G' H' → Wo K P G' H' → Rep K H' G' P d w → Q d G' → R w H') → r u v H R
def LU (K : PySem.W.Frag) (r : V → Hp → VK → Prop) (o : UD) : Prop := ∀ (P : Addr → Prop) (G : Gp) (H : Hp) (x : D) (u : V) (Q : DK) (R : VK), o x G Q → Wo K P G H → Rep K H G P x u →
  (∀ d G' w H', Step G H G' H' → Wo K P G' H' → Rep K H' G' P d w → Q d G' → R w H') → r u H R
@[simp] def eOp (r : OD) (ta tb : EE) : EE := fun s G Q => ta s G fun x G1 => tb s G1 fun y G2 => r x y G2 Q
@[simp] def eUn (r : UD) (ta : EE) : EE := fun s G Q => ta s G fun x G1 => r x G1 Q
section
variable {X : Cx} {K : PySem.W.Frag} {ta tb : TE} {a b : EE} {r : R2} {o : OD}
theorem le_op (lo : LO K r o) (la : LE K ta a) (lb : LE K tb b) : LE K (tOp r ta tb) (eOp o a b) := fun P s G Q σ H R h rl k => by
  refine la P s G _ σ H _ h rl fun x G1 u H1 s1 w1 r1 h1 => ?_
  refine lb P s G1 _ σ H1 _ h1 (rl.step s1 w1) fun y G2 v H2 s2 w2 r2 h2 => ?_
  exact lo P G2 H2 x y u v Q R h2 w2 (r1.step s2) r2 fun d G3 w H3 s3 w3 r3 q3 => k d G3 w H3 ((s1.trans s2).trans s3) w3 r3 q3
theorem le_un {r : V → Hp → VK → Prop} {o : UD} (lo : LU K r o) (la : LE K ta a) : LE K (tUn r ta) (eUn o a) := fun P s G Q σ H R h rl k => by
  refine la P s G _ σ H _ h rl fun x G1 u H1 s1 w1 r1 h1 => ?_
  exact lo P G1 H1 x u Q R h1 w1 r1 fun d G3 w H3 s3 w3 r3 q3 => k d G3 w H3 (s1.trans s3) w3 r3 q3
theorem LO.or {r r' : R2} {o : OD} (h : ∀ P G H x y u v Q R, o x y G Q → Wo K P G H → Rep K H G P x u → Rep K H G P y v → (∀ d G' w H', Step G H G' H' → Wo K P G' H' → Rep K H' G' P d w → Q d G' → R w H') → r u v H R ∨ r' u v H R) : LO K (fun x y H Q => r x y H Q ∨ r' x y H Q) o :=
  fun P G H x y u v Q R a b c d e => h P G H x y u v Q R a b c d e
end
/-- an index's ways: lists, tuples, the script -/
def lkL (G : Gp) : D → Option (List D)
  | .lst ds => some ds
  | .ref a => match G a with
    | some (.lst ds) => some ds
    | _ => none
  | .scr ns => some (ns.map D.int)
  | _ => none
@[simp] theorem lkL_lst {G : Gp} {ds : List D} : lkL G (.lst ds) = some ds := rfl
@[simp] theorem lkL_ref {G : Gp} {a : Addr} : lkL G (.ref a) = match G a with
    | some (.lst ds) => some ds
    | _ => none := rfl
@[simp] theorem lkL_scr {G : Gp} {ns : List Int} : lkL G (.scr ns) = some (ns.map D.int) := rfl
@[simp] theorem lkL_tup {G : Gp} {ds : List D} : lkL G (.tup ds) = none := rfl
@[simp] theorem lkL_int {G : Gp} {i : Int} : lkL G (.int i) = none := rfl
@[simp] theorem lkL_str {G : Gp} {i : Str} : lkL G (.str i) = none := rfl
@[simp] theorem lkL_non {G : Gp} : lkL G .non = none := rfl
@[simp] theorem lkL_bl {G : Gp} {b : Bool} : lkL G (.bl b) = none := rfl
@[simp] theorem lkL_dct {G : Gp} {k : List Key} {ds : List D} : lkL G (.dct k ds) = none := rfl
section
variable {K : PySem.W.Frag} {P : Addr → Prop} {G : Gp} {H : Hp}
theorem rep_i {i : Int} {v : V} (h : Rep K H G P (.int i) v) : v = .int i := by unfold Rep at h; exact h
theorem rep_b {i : Bool} {v : V} (h : Rep K H G P (.bl i) v) : v = .bl i := by unfold Rep at h; exact h
theorem rep_s {i : Str} {v : V} (h : Rep K H G P (.str i) v) : v = .str i := by unfold Rep at h; exact h
theorem rep_n {v : V} (h : Rep K H G P .non v) : v = .non := by unfold Rep at h; exact h
theorem rep_t {ds : List D} {v : V} (h : Rep K H G P (.tup ds) v) : ∃ a xs, v = .ref a ∧ G a = none ∧ ¬ P a ∧ H a = some (.tup xs) ∧ ds.length ≤ sizeLine ∧ Reps K H G P ds xs := by unfold Rep at h; exact h
theorem rep_l {ds : List D} {v : V} (h : Rep K H G P (.lst ds) v) : ∃ a xs, v = .ref a ∧ G a = none ∧ ¬ P a ∧ H a = some (.lst xs) ∧ ds.length ≤ sizeLine ∧ Reps K H G P ds xs := by unfold Rep at h; exact h
/-- what may be read as a list -/
theorem lk_sq (w : Wo K P G H) {d : D} {v : V} {ds : List D} (h : Rep K H G P d v) (e : lkL G d = some ds) : ∃ a xs, v = .ref a ∧ SqL K H a xs ∧ Reps K H G P ds xs ∧ ds.length ≤ sizeLine := by
  cases d with
  | lst es =>
    cases e
    obtain ⟨a, xs, rfl, g, p, r, z, q⟩ := rep_l h
    exact ⟨a, xs, rfl, SqL.of r, q, z⟩
  | ref a =>
    unfold Rep at h
    obtain ⟨rfl, o, ho⟩ := h
    simp only [lkL, ho] at e
    cases o with
    | lst es =>
      cases e
      obtain ⟨ho', e1, xs, rfl, z, q⟩ := w.own a _ ho
      exact ⟨a, xs, rfl, SqL.of e1, q, z⟩
    | _ => cases e
  | scr ns =>
    cases e
    unfold Rep at h
    obtain ⟨a, rfl, z, q⟩ := h
    exact ⟨a, _, rfl, q.sq, reps_of_ints, by simpa using z⟩
  | _ => cases e
/-- .. that is tracked plainly -/
theorem lk_hp (w : Wo K P G H) {d : D} {v : V} {ds : List D} (h : Rep K H G P d v) (e : lkL G d = some ds) (hs : ∀ ns, d ≠ .scr ns) : ∃ a xs, v = .ref a ∧ H a = some (.lst xs) ∧ Reps K H G P ds xs ∧ ds.length ≤ sizeLine := by
  cases d with
  | lst es =>
    cases e
    obtain ⟨a, xs, rfl, g, p, r, z, q⟩ := rep_l h
    exact ⟨a, xs, rfl, r, q, z⟩
  | ref a =>
    unfold Rep at h
    obtain ⟨rfl, o, ho⟩ := h
    simp only [lkL, ho] at e
    cases o with
    | lst es =>
      cases e
      obtain ⟨ho', e1, xs, rfl, z, q⟩ := w.own a _ ho
      exact ⟨a, xs, rfl, e1, q, z⟩
    | _ => cases e
  | scr ns => exact absurd rfl (hs ns)
  | _ => cases e
end
@[simp] def oI (C : Int → Int → Prop) (g : Int → Int → D) : OD := fun x y G Q => match x, y with
  | .int i, .int j => C i j ∧ Q (g i j) G
  | _, _ => False
@[simp] def oI0 (g : Int → Int → D) : OD := fun x y G Q => match x, y with
  | .int i, .int j => Q (g i j) G
  | _, _ => False
section
variable {K : PySem.W.Frag}
theorem lo_I {C : Int → Int → Prop} {g : Int → Int → V} {g' : Int → Int → D} (hg : ∀ i j H G P, Rep K H G P (g' i j) (g i j)) : LO K (rI C g) (oI C g') := fun P G H x y u v Q R h w rx ry k => by
  unfold oI at h
  split at h
  · rename_i i j
    rw [rep_i rx, rep_i ry]
    exact ⟨i, j, rfl, rfl, h.1, k _ G _ H (Step.refl _ _) w (hg i j H G P) h.2⟩
  · exact h.elim
theorem lo_I0 {g : Int → Int → V} {g' : Int → Int → D} (hg : ∀ i j H G P, Rep K H G P (g' i j) (g i j)) : LO K (rI0 g) (oI0 g') := fun P G H x y u v Q R h w rx ry k => by
  unfold oI0 at h
  split at h
  · rename_i i j
    rw [rep_i rx, rep_i ry]
    exact ⟨i, j, rfl, rfl, k _ G _ H (Step.refl _ _) w (hg i j H G P) h⟩
  · exact h.elim
end
/-- + : ints, texts, lists (a new one, frozen) -/
@[simp] def oAdd : OD := fun x y G Q => match x, y with
  | .int i, .int j => Q (.int (i + j)) G
  | .str i, .str j => i.length + j.length ≤ sizeLine ∧ Q (.str (i ++ j)) G
  | .scr _, _ => False
  | _, .scr _ => False
  | x, y => match lkL G x, lkL G y with
    | some ds, some es => ds.length + es.length ≤ sizeLine ∧ Q (.lst (ds ++ es)) G
    | _, _ => False
def rAddS' : R2 := fun x y H Q => ∃ i j, x = .str i ∧ y = .str j ∧ i.length + j.length ≤ sizeLine ∧ Q (.str (i ++ j)) H
def rAdd3 : R2 := fun x y H Q => (rI0 fun i j => .int (i + j)) x y H Q ∨ rAddS' x y H Q ∨ rCat x y H Q
theorem op_add3 {X : Cx} : OpR X (binaryOp .Add) rAdd3 := op_add.or (op_add_str.or op_cat)
theorem lo_add {K : PySem.W.Frag} : LO K rAdd3 oAdd := fun P G H x y u v Q R h w rx ry k => by
  have lists : ∀ ds es, lkL G x = some ds → lkL G y = some es → (∀ ns, x ≠ .scr ns) → (∀ ns, y ≠ .scr ns) → ds.length + es.length ≤ sizeLine ∧ Q (.lst (ds ++ es)) G → rAdd3 u v H R := fun ds es e1 e2 n1 n2 q => by
    obtain ⟨a, xs, rfl, r1, q1, z1⟩ := lk_hp w rx e1 n1
    obtain ⟨b, ys, rfl, r2, q2, z2⟩ := lk_hp w ry e2 n2
    refine .inr (.inr ⟨a, b, xs, ys, rfl, rfl, r1, r2, by rw [← q1.length, ← q2.length]; exact q.1, fun p hp => ?_⟩)
    have st : Step G H G (upd H p (.lst (xs ++ ys))) := Step.new hp
    obtain ⟨f1, f2⟩ := w.fresh hp
    exact k _ G _ _ st (w.new hp) (rep_lst f1 f2 upd_same (by rw [List.length_append]; exact q.1) ((q1.append q2).step st)) q.2
  unfold oAdd at h
  split at h
  · rw [rep_i rx, rep_i ry]
    exact .inl ⟨_, _, rfl, rfl, k _ G _ H (Step.refl _ _) w rep_int h⟩
  · rw [rep_s rx, rep_s ry]
    exact .inr (.inl ⟨_, _, rfl, rfl, h.1, k _ G _ H (Step.refl _ _) w rep_str h.2⟩)
  · exact h.elim
  · exact h.elim
  · have n3 : ∀ ns, x ≠ .scr ns := by assumption
    have n4 : ∀ ns, y ≠ .scr ns := by assumption
    split at h
    · rename_i ds es e1 e2
      exact lists ds es e1 e2 n3 n4 h
    · exact h.elim
@[simp] def oSub : OD := oI0 fun i j => .int (i - j)
@[simp] def oMul : OD := oI (fun i j => CMul i j) fun i j => .int (i * j)
@[simp] def oMod : OD := oI (fun _ j => 0 < j) fun i j => .int (i % j)
@[simp] def oDivW : OD := oI CDivW fun i j => .int (i / j)
@[simp] def oPow : OD := oI CPow fun i j => .int (i ^ j.toNat)
@[simp] def oLt : OD := oI0 fun i j => .bl (decide (i < j))
@[simp] def oLe : OD := oI0 fun i j => .bl (decide (i ≤ j))
@[simp] def oGt : OD := oI0 fun i j => .bl (decide (j < i))
@[simp] def oGe : OD := oI0 fun i j => .bl (decide (j ≤ i))
@[simp] def oNeg : UD := fun x G Q => match x with
  | .int i => Q (.int (-i)) G
  | _ => False
section
variable {X : Cx} {a b : Expr} {ta tb : TE} {ea eb : EE} {pos : Pos}
theorem j_bin {op : Operator} {r : R2} {o : OD} (ho : OpR X (binaryOp op) r) (lo : LO X.K r o) (ha : JE X a ea) (hb : JE X b eb) : JE X (.BinOp a op b pos) (eOp o ea eb) := ⟨pe_op ho ha.pe hb.pe, le_op lo ha.le hb.le⟩
theorem j_add (ha : JE X a ea) (hb : JE X b eb) : JE X (.BinOp a .Add b pos) (eOp oAdd ea eb) := j_bin op_add3 lo_add ha hb
theorem j_sub (ha : JE X a ea) (hb : JE X b eb) : JE X (.BinOp a .Sub b pos) (eOp oSub ea eb) := j_bin op_sub (lo_I0 fun _ _ _ _ _ => rep_int) ha hb
theorem j_mul (ha : JE X a ea) (hb : JE X b eb) : JE X (.BinOp a .Mult b pos) (eOp oMul ea eb) := j_bin op_mul (lo_I fun _ _ _ _ _ => rep_int) ha hb
theorem j_mod (ha : JE X a ea) (hb : JE X b eb) : JE X (.BinOp a .Mod b pos) (eOp oMod ea eb) := j_bin op_mod (lo_I fun _ _ _ _ _ => rep_int) ha hb
theorem j_div (ha : JE X a ea) (hb : JE X b eb) : JE X (.BinOp a .FloorDiv b pos) (eOp oDivW ea eb) := j_bin op_fdivW (lo_I fun _ _ _ _ _ => rep_int) ha hb
theorem j_pow (ha : JE X a ea) (hb : JE X b eb) : JE X (.BinOp a .Pow b pos) (eOp oPow ea eb) := j_bin op_pow (lo_I fun _ _ _ _ _ => rep_int) ha hb
theorem j_neg (ha : JE X a ea) : JE X (.UnaryOp .USub a pos) (eUn oNeg ea) := ⟨pe_un un_neg ha.pe, le_un (fun P G H x u Q R h w rx k => by
  unfold oNeg at h
  split at h
  · rw [rep_i rx]; exact ⟨_, rfl, k _ G _ H (Step.refl _ _) w rep_int h⟩
  · exact h.elim) ha.le⟩
end
end DL
set_option Elab.async false
set_option linter.all false
set_option maxRecDepth 100000
set_option maxHeartbeats 4000000
namespace DL
open PySem L2
mutual
@[simp] def toPy0 : D → Option PyData
  | .non => some .none
  | .bl b => some (.bool b)
  | .int i => some (.int i)
  | .str x => some (.str x)
  | .lst ds => (toPys0 ds).map .list
  | .tup ds => (toPys0 ds).map .tuple
  | .scr ns => some (.list (ns.map .int))
  | _ => none
@[simp] def toPys0 : List D → Option (List PyData)
  | [] => some []
  | d :: ds => match toPy0 d, toPys0 ds with
    | some a, some r => some (a :: r)
    | _, _ => none
end
mutual
@[simp] def toPy (G : Gp) : D → Option PyData
  | .non => some .none
  | .bl b => some (.bool b)
  | .int i => some (.int i)
  | .str x => some (.str x)
  | .lst ds => (toPys G ds).map .list
  | .tup ds => (toPys G ds).map .tuple
  | .scr ns => some (.list (ns.map .int))
  | .ref a => match G a with
    | some (.lst ds) => (toPys0 ds).map .list
    | _ => none
  | _ => none
@[simp] def toPys (G : Gp) : List D → Option (List PyData)
  | [] => some []
  | d :: ds => match toPy G d, toPys G ds with
    | some a, some r => some (a :: r)
    | _, _ => none
end
section
variable {K : PySem.W.Frag} {P : Addr → Prop} {G : Gp} {H : Hp}
theorem dpAll_ints : ∀ ns : List Int, DpAll K H (ns.map V.int) (ns.map PyData.int)
  | [] => .nil
  | n :: ns => .cons (.int n) (dpAll_ints ns)
theorem opt_map {α β : Type} {f : α → β} {o : Option α} {b : β} (h : o.map f = some b) : ∃ a, o = some a ∧ f a = b := by
  cases o with
  | none => cases h
  | some a => exact ⟨a, rfl, Option.some.inj h⟩
mutual
theorem dp_of0 : ∀ (d : D) {v : V} {p : PyData}, Rep K H G P d v → toPy0 d = some p → Dp K H v p
  | .non, v, p, h, e => by rw [toPy0] at e; cases e; rw [rep_n h]; exact .non
  | .bl b, v, p, h, e => by rw [toPy0] at e; cases e; rw [rep_b h]; exact .bl b
  | .int b, v, p, h, e => by rw [toPy0] at e; cases e; rw [rep_i h]; exact .int b
  | .str b, v, p, h, e => by rw [toPy0] at e; cases e; rw [rep_s h]; exact .str b
  | .lst ds, v, p, h, e => by
    rw [toPy0] at e
    obtain ⟨r, e1, rfl⟩ := opt_map e
    obtain ⟨a, xs, rfl, g, q, r1, z, q1⟩ := rep_l h
    exact .lst (SqL.of r1) (dps_of0 ds q1 e1)
  | .tup ds, v, p, h, e => by
    rw [toPy0] at e
    obtain ⟨r, e1, rfl⟩ := opt_map e
    obtain ⟨a, xs, rfl, g, q, r1, z, q1⟩ := rep_t h
    exact .tup (SqT.of r1) (dps_of0 ds q1 e1)
  | .exc a dd f x, v, p, h, e => by simp [toPy0] at e
  | .scr ns, v, p, h, e => by
    rw [toPy0] at e; cases e
    unfold Rep at h
    obtain ⟨a, rfl, z, q⟩ := h
    exact .lst q.sq (dpAll_ints ns)
  | .ty _, _, _, _, e => by rw [toPy0] at e <;> first | cases e | simp
  | .ref _, _, _, _, e => by rw [toPy0] at e <;> first | cases e | simp
  | .cl _, _, _, _, e => by rw [toPy0] at e <;> first | cases e | simp
  | .dct _ _, _, _, _, e => by rw [toPy0] at e <;> first | cases e | simp
theorem dps_of0 : ∀ (ds : List D) {vs : List V} {ps : List PyData}, Reps K H G P ds vs → toPys0 ds = some ps → DpAll K H vs ps
  | [], vs, ps, h, e => by rw [toPys0] at e; cases e; unfold Reps at h; subst h; exact .nil
  | d :: ds, vs, ps, h, e => by
    rw [toPys0] at e
    unfold Reps at h
    obtain ⟨x, r, rfl, h1, h2⟩ := h
    cases e1 : toPy0 d with
    | none => rw [e1] at e; simp at e
    | some a =>
      cases e2 : toPys0 ds with
      | none => rw [e1, e2] at e; simp at e
      | some q =>
        rw [e1, e2] at e
        cases e
        exact .cons (dp_of0 d h1 e1) (dps_of0 ds h2 e2)
end
mutual
theorem dp_of (w : Wo K P G H) : ∀ (d : D) {v : V} {p : PyData}, Rep K H G P d v → toPy G d = some p → Dp K H v p
  | .non, v, p, h, e => by rw [toPy] at e; cases e; rw [rep_n h]; exact .non
  | .bl b, v, p, h, e => by rw [toPy] at e; cases e; rw [rep_b h]; exact .bl b
  | .int b, v, p, h, e => by rw [toPy] at e; cases e; rw [rep_i h]; exact .int b
  | .str b, v, p, h, e => by rw [toPy] at e; cases e; rw [rep_s h]; exact .str b
  | .lst ds, v, p, h, e => by
    rw [toPy] at e
    obtain ⟨r, e1, rfl⟩ := opt_map e
    obtain ⟨a, xs, rfl, g, q, r1, z, q1⟩ := rep_l h
    exact .lst (SqL.of r1) (dps_of w ds q1 e1)
  | .tup ds, v, p, h, e => by
    rw [toPy] at e
    obtain ⟨r, e1, rfl⟩ := opt_map e
    obtain ⟨a, xs, rfl, g, q, r1, z, q1⟩ := rep_t h
    exact .tup (SqT.of r1) (dps_of w ds q1 e1)
  | .exc a dd f x, v, p, h, e => by simp [toPy] at e
  | .scr ns, v, p, h, e => by
    rw [toPy] at e; cases e
    unfold Rep at h
    obtain ⟨a, rfl, z, q⟩ := h
    exact .lst q.sq (dpAll_ints ns)
  | .ref a, v, p, h, e => by
    rw [toPy] at e
    unfold Rep at h
    obtain ⟨rfl, o, ho⟩ := h
    rw [ho] at e
    cases o with
    | lst ds =>
      obtain ⟨r, e1, rfl⟩ := opt_map e
      obtain ⟨ho', e2, xs, rfl, z, q⟩ := w.own a _ ho
      exact .lst (SqL.of e2) (dps_of0 ds q e1)
    | _ => cases e
  | .ty _, _, _, _, e => by rw [toPy] at e <;> first | cases e | simp
  | .cl _, _, _, _, e => by rw [toPy] at e <;> first | cases e | simp
  | .dct _ _, _, _, _, e => by rw [toPy] at e <;> first | cases e | simp
theorem dps_of (w : Wo K P G H) : ∀ (ds : List D) {vs : List V} {ps : List PyData}, Reps K H G P ds vs → toPys G ds = some ps → DpAll K H vs ps
  | [], vs, ps, h, e => by rw [toPys] at e; cases e; unfold Reps at h; subst h; exact .nil
  | d :: ds, vs, ps, h, e => by
    rw [toPys] at e
    unfold Reps at h
    obtain ⟨x, r, rfl, h1, h2⟩ := h
    cases e1 : toPy G d with
    | none => rw [e1] at e; simp at e
    | some a =>
      cases e2 : toPys G ds with
      | none => rw [e1, e2] at e; simp at e
      | some q =>
        rw [e1, e2] at e
        cases e
        exact .cons (dp_of w d h1 e1) (dps_of w ds h2 e2)
end
end
@[simp] def oEq : OD := fun x y G Q => match toPy G x, toPy G y with
  | some a, some b => SeqAt.shaped a = true ∧ SeqAt.shaped b = true ∧ Q (.bl (PyData.eqv a b)) G
  | _, _ => False
@[simp] def oNe : OD := fun x y G Q => match toPy G x, toPy G y with
  | some a, some b => SeqAt.shaped a = true ∧ SeqAt.shaped b = true ∧ Q (.bl (!PyData.eqv a b)) G
  | _, _ => False
@[simp] def oIsN : OD := fun x y G Q => match y with
  | .non => match x with
    | .non => Q (.bl true) G
    | _ => Q (.bl false) G
  | _ => False
@[simp] def oNotN : OD := fun x y G Q => match y with
  | .non => match x with
    | .non => Q (.bl false) G
    | _ => Q (.bl true) G
  | _ => False
/-- flat data -/
@[simp] def flD : D → Option V
  | .non => some .non
  | .bl b => some (.bl b)
  | .int i => some (.int i)
  | .str x => some (.str x)
  | _ => none
@[simp] def flDs : List D → Option (List V)
  | [] => some []
  | d :: ds => match flD d, flDs ds with
    | some a, some r => some (a :: r)
    | _, _ => none
/-- a list's or a tuple's items -/
def lkQ (G : Gp) : D → Option (List D)
  | .tup ds => some ds
  | d => lkL G d
@[simp] theorem lkQ_lst {G : Gp} {ds : List D} : lkQ G (.lst ds) = some ds := rfl
@[simp] theorem lkQ_tup {G : Gp} {ds : List D} : lkQ G (.tup ds) = some ds := rfl
@[simp] theorem lkQ_ref {G : Gp} {a : Addr} : lkQ G (.ref a) = lkL G (.ref a) := rfl
@[simp] theorem lkQ_scr {G : Gp} {ns : List Int} : lkQ G (.scr ns) = some (ns.map D.int) := rfl
@[simp] theorem lkQ_int {G : Gp} {i : Int} : lkQ G (.int i) = none := rfl
@[simp] theorem lkQ_str {G : Gp} {i : Str} : lkQ G (.str i) = none := rfl
@[simp] theorem lkQ_non {G : Gp} : lkQ G .non = none := rfl
@[simp] theorem lkQ_bl {G : Gp} {b : Bool} : lkQ G (.bl b) = none := rfl
@[simp] theorem lkQ_dct {G : Gp} {k : List Key} {ds : List D} : lkQ G (.dct k ds) = none := rfl
@[simp] def oIn (neg : Bool) : OD := fun x y G Q => match flD x, (lkQ G y).bind flDs with
  | some a, some r => Q (.bl (if neg then !inV a r else inV a r)) G
  | _, _ => False
/-- one sign in a text -/
@[simp] def oInS : OD := fun x y G Q => match x, y with
  | .str a, .str z => (match a.cps.toList with
    | [c] => Q (.bl (decide (c ∈ z.cps.toList))) G
    | _ => False)
  | _, _ => False
@[simp] def oNotInS : OD := fun x y G Q => match x, y with
  | .str a, .str z => (match a.cps.toList with
    | [c] => Q (.bl (!decide (c ∈ z.cps.toList))) G
    | _ => False)
  | _, _ => False
section
variable {K : PySem.W.Frag}
theorem lo_eq : LO K (rEqD K) oEq := fun P G H x y u v Q R h w rx ry k => by
  unfold oEq at h
  split at h
  · rename_i a b e1 e2
    exact ⟨a, b, dp_of w x rx e1, dp_of w y ry e2, h.1, h.2.1, k _ G _ H (Step.refl _ _) w rep_bl h.2.2⟩
  · exact h.elim
theorem lo_ne : LO K (rNeD K) oNe := fun P G H x y u v Q R h w rx ry k => by
  unfold oNe at h
  split at h
  · rename_i a b e1 e2
    exact ⟨a, b, dp_of w x rx e1, dp_of w y ry e2, h.1, h.2.1, k _ G _ H (Step.refl _ _) w rep_bl h.2.2⟩
  · exact h.elim
def rIsN' : R2 := fun x y H Q => y = .non ∧ Q (.bl (decide (x = .non))) H
def rNotN' : R2 := fun x y H Q => y = .non ∧ Q (.bl (!decide (x = .non))) H
theorem rep_nn {P : Addr → Prop} {G : Gp} {H : Hp} {d : D} {v : V} (h : Rep K H G P d v) (n : d ≠ .non) : v ≠ .non := by
  intro e; subst e
  cases d with
  | non => exact n rfl
  | bl b => cases rep_b h
  | int b => cases rep_i h
  | str b => cases rep_s h
  | ty _ => unfold Rep at h; cases h
  | cl _ => unfold Rep at h; cases h
  | exc _ _ _ _ => unfold Rep at h; cases h.1
  | ref _ => unfold Rep at h; cases h.1
  | lst _ => obtain ⟨_, _, e, _⟩ := rep_l h; cases e
  | tup _ => obtain ⟨_, _, e, _⟩ := rep_t h; cases e
  | dct _ _ => unfold Rep at h; obtain ⟨_, _, e, _⟩ := h; cases e
  | scr _ => unfold Rep at h; obtain ⟨_, e, _⟩ := h; cases e
theorem lo_isN : LO K rIsN' oIsN := fun P G H x y u v Q R h w rx ry k => by
  unfold oIsN at h
  split at h
  · refine ⟨rep_n ry, ?_⟩
    split at h
    · rw [rep_n rx]; exact k _ G _ H (Step.refl _ _) w rep_bl h
    · rename_i n
      have e : decide (u = .non) = false := decide_eq_false (rep_nn rx n)
      rw [e]; exact k _ G _ H (Step.refl _ _) w rep_bl h
  · exact h.elim
theorem lo_notN : LO K rNotN' oNotN := fun P G H x y u v Q R h w rx ry k => by
  unfold oNotN at h
  split at h
  · refine ⟨rep_n ry, ?_⟩
    split at h
    · rw [rep_n rx]; exact k _ G _ H (Step.refl _ _) w rep_bl h
    · rename_i n
      have e : decide (u = .non) = false := decide_eq_false (rep_nn rx n)
      rw [e]; exact k _ G _ H (Step.refl _ _) w rep_bl h
  · exact h.elim
theorem rep_fl {P : Addr → Prop} {G : Gp} {H : Hp} {d : D} {v a : V} (h : Rep K H G P d v) (e : flD d = some a) : v = a ∧ flatV a = true := by
  cases d with
  | non => cases e; exact ⟨rep_n h, rfl⟩
  | bl b => cases e; exact ⟨rep_b h, rfl⟩
  | int b => cases e; exact ⟨rep_i h, rfl⟩
  | str b => cases e; exact ⟨rep_s h, rfl⟩
  | _ => cases e
theorem reps_fl {P : Addr → Prop} {G : Gp} {H : Hp} : ∀ {ds : List D} {vs r : List V}, Reps K H G P ds vs → flDs ds = some r → vs = r ∧ r.all flatV = true
  | [], vs, r, h, e => by cases e; unfold Reps at h; exact ⟨h, rfl⟩
  | d :: ds, vs, r, h, e => by
    unfold Reps at h
    obtain ⟨x, xs, rfl, h1, h2⟩ := h
    rw [flDs] at e
    cases e1 : flD d with
    | none => rw [e1] at e; simp at e
    | some a =>
      cases e2 : flDs ds with
      | none => rw [e1, e2] at e; simp at e
      | some q =>
        rw [e1, e2] at e
        cases e
        obtain ⟨rfl, f1⟩ := rep_fl h1 e1
        obtain ⟨rfl, f2⟩ := reps_fl h2 e2
        exact ⟨rfl, by rw [List.all_cons, f1, f2]; rfl⟩
/-- what may be read as a list or a tuple -/
theorem lkQ_sq {P : Addr → Prop} {G : Gp} {H : Hp} (w : Wo K P G H) {d : D} {v : V} {ds : List D} (h : Rep K H G P d v) (e : lkQ G d = some ds) : ∃ a xs, v = .ref a ∧ (SqL K H a xs ∨ SqT K H a xs) ∧ Reps K H G P ds xs ∧ ds.length ≤ sizeLine := by
  by_cases t : ∃ es, d = .tup es
  · obtain ⟨es, rfl⟩ := t
    cases e
    obtain ⟨a, xs, rfl, g, q, r1, z, q1⟩ := rep_t h
    exact ⟨a, xs, rfl, .inr (SqT.of r1), q1, z⟩
  · have e' : lkL G d = some ds := by
      cases d with
      | tup es => exact absurd ⟨es, rfl⟩ t
      | _ => exact e
    obtain ⟨a, xs, rfl, r, q, z⟩ := lk_sq w h e'
    exact ⟨a, xs, rfl, .inl r, q, z⟩
theorem lo_in {neg : Bool} : LO K (rIn K neg) (oIn neg) := fun P G H x y u v Q R h w rx ry k => by
  unfold oIn at h
  split at h
  · rename_i a r e1 e2
    obtain ⟨rfl, f1⟩ := rep_fl rx e1
    cases e3 : lkQ G y with
    | none => rw [e3] at e2; cases e2
    | some ds =>
      rw [e3] at e2
      obtain ⟨b, xs, rfl, s, q, z⟩ := lkQ_sq w ry e3
      obtain ⟨rfl, f2⟩ := reps_fl q e2
      exact ⟨b, _, rfl, s, f1, f2, k _ G _ H (Step.refl _ _) w rep_bl h⟩
  · exact h.elim
def rInSg : R2 := fun x y H Q => ∃ (c : Nat) (z : Str), x = .str ⟨#[c]⟩ ∧ y = .str z ∧ Q (.bl (decide (c ∈ z.cps.toList))) H
theorem one_sign {a : Str} {c : Nat} (e : a.cps.toList = [c]) : a = ⟨#[c]⟩ := by
  obtain ⟨l⟩ := a
  congr 1
  apply Array.ext'
  exact e
theorem lo_inS : LO K rInSg oInS := fun P G H x y u v Q R h w rx ry k => by
  unfold oInS at h
  split at h
  · rename_i a z
    split at h
    · rename_i c e
      rw [rep_s rx, rep_s ry]
      exact ⟨c, z, by rw [one_sign e], rfl, k _ G _ H (Step.refl _ _) w rep_bl h⟩
    · exact h.elim
  · exact h.elim
end
@[simp] def eT (t : EE) : ET := fun s G Q => t s G fun x G1 => match x with
  | .bl b => Q b G1
  | _ => False
theorem lt_test {K : PySem.W.Frag} {te : TE} {t : EE} (h : LE K te t) : LT K (tTest te) (eT t) := fun P s G Q σ H R q r k => by
  refine h P s G _ σ H _ q r fun d G' v H' st w rp q' => ?_
  cases d with
  | bl b => rw [rep_b rp]; exact ⟨b, rfl, k b G' H' st w q'⟩
  | _ => exact q'.elim
theorem lt_tB {K : PySem.W.Frag} {te : TE} {t : EE} (h : LE K te t) : LT K (tB te) (eT t) := lt_test h
/-- a op b op' c -/
@[simp] def eChain (r r' : OD) (ta tb tc : EE) : EE := fun s G Q => ta s G fun x G1 => tb s G1 fun y G2 => r x y G2 fun z G3 => match z with
  | .bl k => if k = true then tc s G3 fun w G4 => r' y w G4 Q else Q (.bl false) G3
  | _ => False
theorem le_chain {K : PySem.W.Frag} {r r' : R2} {o o' : OD} {ta tb tc : TE} {a b c : EE} (lo : LO K r o) (lo' : LO K r' o') (la : LE K ta a) (lb : LE K tb b) (lc : LE K tc c) : LE K (tChain r r' ta tb tc) (eChain o o' a b c) := fun P s G Q σ H R h rl k => by
  refine la P s G _ σ H _ h rl fun x G1 u H1 s1 w1 r1 h1 => ?_
  refine lb P s G1 _ σ H1 _ h1 (rl.step s1 w1) fun y G2 v H2 s2 w2 r2 h2 => ?_
  refine lo P G2 H2 x y u v _ _ h2 w2 (r1.step s2) r2 fun z G3 vz H3 s3 w3 r3 h3 => ?_
  cases z with
  | bl bz =>
    rw [rep_b r3]
    refine ⟨bz, rfl, ?_⟩
    cases bz with
    | true =>
      refine lc P s G3 _ σ H3 _ h3 (rl.step ((s1.trans s2).trans s3) w3) fun z G4 vz H4 s4 w4 r4 h4 => ?_
      exact lo' P G4 H4 y z v vz Q R h4 w4 ((r2.step s3).step s4) r4 fun d G5 w H5 s5 w5 r5 q5 => k d G5 w H5 ((((s1.trans s2).trans s3).trans s4).trans s5) w5 r5 q5
    | false =>
      exact k _ G3 _ H3 ((s1.trans s2).trans s3) w3 rep_bl h3
  | _ => exact h3.elim
section
variable {X : Cx} {a b c : Expr} {ta tb tc : TE} {ea eb ec : EE} {pos : Pos}
theorem j_cmp {op : CmpOp} {r : R2} {o : OD} (ho : OpR X (compareOp op) r) (lo : LO X.K r o) (ha : JE X a ea) (hb : JE X b eb) (hm : behindInMarks op b = false) : JE X (.Compare a [op] [b] pos) (eOp o ea eb) := ⟨pe_cmpR ho ha.pe hb.pe hm, le_op lo ha.le hb.le⟩
theorem jt_cmp {op : CmpOp} {r : R2} {o : OD} (ho : OpR X (compareOp op) r) (lo : LO X.K r o) (ha : JE X a ea) (hb : JE X b eb) (hm : behindInMarks op b = false) : JT X (.Compare a [op] [b] pos) (eT (eOp o ea eb)) := ⟨pt_cmpR ho ha.pe hb.pe hm, lt_test (le_op lo ha.le hb.le)⟩
theorem j_chain {op op' : CmpOp} {r r' : R2} {o o' : OD} (ho : OpR X (compareOp op) r) (lo : LO X.K r o) (ho' : OpR X (compareOp op') r') (lo' : LO X.K r' o') (ha : JE X a ea) (hb : JE X b eb) (hc : JE X c ec)
    (hm : lastMarks [op, op'] [b, c] = false := by with_unfolding_all rfl) : JE X (.Compare a [op, op'] [b, c] pos) (eChain o o' ea eb ec) := ⟨pe_chain ho ho' ha.pe hb.pe hc.pe hm, le_chain lo lo' ha.le hb.le hc.le⟩
theorem jt_chain {op op' : CmpOp} {r r' : R2} {o o' : OD} (ho : OpR X (compareOp op) r) (lo : LO X.K r o) (ho' : OpR X (compareOp op') r') (lo' : LO X.K r' o') (ha : JE X a ea) (hb : JE X b eb) (hc : JE X c ec)
    (hm : lastMarks [op, op'] [b, c] = false := by with_unfolding_all rfl) : JT X (.Compare a [op, op'] [b, c] pos) (eT (eChain o o' ea eb ec)) := ⟨pt_chain ho ho' ha.pe hb.pe hc.pe hm, lt_test (le_chain lo lo' ha.le hb.le hc.le)⟩
theorem lo_lt {K : PySem.W.Frag} : LO K (rI0 fun i j => .bl (decide (i < j))) oLt := lo_I0 fun _ _ _ _ _ => rep_bl
theorem lo_le {K : PySem.W.Frag} : LO K (rI0 fun i j => .bl (decide (i ≤ j))) oLe := lo_I0 fun _ _ _ _ _ => rep_bl
theorem lo_gt {K : PySem.W.Frag} : LO K (rI0 fun i j => .bl (decide (j < i))) oGt := lo_I0 fun _ _ _ _ _ => rep_bl
end
def truD (G : Gp) : D → Option Bool
  | .non => some false
  | .bl b => some b
  | .int i => some (i != 0)
  | .str y => if y.length ≤ sizeLine then some ((y.length : Int) != 0) else none
  | .tup ds => some (!ds.isEmpty)
  | .lst ds => some (!ds.isEmpty)
  | .ref a => match G a with
    | some (.lst ds) => some (!ds.isEmpty)
    | some (.dct ks _) => some (!ks.isEmpty)
    | _ => none
  | .dct ks _ => some (!ks.isEmpty)
  | _ => none
@[simp] theorem truD_non {G : Gp} : truD G .non = some false := rfl
@[simp] theorem truD_bl {G : Gp} {b : Bool} : truD G (.bl b) = some b := rfl
@[simp] theorem truD_int {G : Gp} {i : Int} : truD G (.int i) = some (i != 0) := rfl
@[simp] theorem truD_str {G : Gp} {y : Str} : truD G (.str y) = if y.length ≤ sizeLine then some ((y.length : Int) != 0) else none := rfl
@[simp] theorem truD_tup {G : Gp} {ds : List D} : truD G (.tup ds) = some (!ds.isEmpty) := rfl
@[simp] theorem truD_lst {G : Gp} {ds : List D} : truD G (.lst ds) = some (!ds.isEmpty) := rfl
@[simp] theorem truD_dct {G : Gp} {ks : List Key} {ds : List D} : truD G (.dct ks ds) = some (!ks.isEmpty) := rfl
@[simp] theorem truD_ref {G : Gp} {a : Addr} : truD G (.ref a) = match G a with
    | some (.lst ds) => some (!ds.isEmpty)
    | some (.dct ks _) => some (!ks.isEmpty)
    | _ => none := rfl
theorem reps_empty {K : PySem.W.Frag} {P : Addr → Prop} {G : Gp} {H : Hp} {ds : List D} {xs : List V} (h : Reps K H G P ds xs) : (!ds.isEmpty) = !xs.isEmpty := by
  have l := h.length
  cases ds <;> cases xs <;> first | rfl | simp at l
theorem zip_empty {ks : List Key} {xs : List V} {n : Nat} (h : ks.length = n) (h2 : n = xs.length) : (!ks.isEmpty) = !(ks.zip xs).isEmpty := by
  cases ks <;> cases xs <;> first | rfl | (simp at h h2; omega)
theorem tru_of {K : PySem.W.Frag} {P : Addr → Prop} {G : Gp} {H : Hp} (w : Wo K P G H) {d : D} {v : V} {b : Bool} (h : Rep K H G P d v) (e : truD G d = some b) : TruV K v H b := by
  cases d with
  | non => cases e; rw [rep_n h]; rfl
  | bl c => cases e; rw [rep_b h]; rfl
  | int c => cases e; rw [rep_i h]; rfl
  | str c =>
    rw [rep_s h]
    simp only [truD] at e
    split at e
    · cases e; rename_i z; exact ⟨z, rfl⟩
    · cases e
  | tup ds =>
    cases e
    obtain ⟨a, xs, rfl, g, q, r1, z, q1⟩ := rep_t h
    exact .inr (.inl ⟨xs, SqT.of r1, reps_empty q1⟩)
  | lst ds =>
    cases e
    obtain ⟨a, xs, rfl, g, q, r1, z, q1⟩ := rep_l h
    exact .inl ⟨xs, SqL.of r1, reps_empty q1⟩
  | ref a =>
    unfold Rep at h
    obtain ⟨rfl, o, ho⟩ := h
    simp only [truD, ho] at e
    obtain ⟨u, e1, r⟩ := w.own a o ho
    cases o with
    | lst ds => cases e; obtain ⟨xs, rfl, z, q⟩ := r; exact .inl ⟨xs, SqL.of e1, reps_empty q⟩
    | dct ks ds => cases e; obtain ⟨xs, rfl, z, q⟩ := r; exact .inr (.inr ⟨_, e1, zip_empty z q.length⟩)
    | _ => cases e
  | dct ks ds =>
    cases e
    unfold Rep at h
    obtain ⟨a, xs, rfl, g, p, r, z, q⟩ := h
    exact .inr (.inr ⟨_, r, zip_empty z q.length⟩)
  | _ => cases e
@[simp] def eTru (t : EE) : ET := fun s G Q => t s G fun x G1 => match truD G1 x with
  | some b => Q b G1
  | none => False
@[simp] def eAndT (ta tb : EE) : EE := fun s G Q => ta s G fun x G1 => match truD G1 x with
  | some k => if k = true then tb s G1 Q else Q x G1
  | none => False
@[simp] def eOrT (ta tb : EE) : EE := fun s G Q => ta s G fun x G1 => match truD G1 x with
  | some k => if k = true then Q x G1 else tb s G1 Q
  | none => False
@[simp] def eNotT (ta : EE) : EE := fun s G Q => ta s G fun x G1 => match truD G1 x with
  | some k => Q (.bl (!k)) G1
  | none => False
@[simp] def eAnd (t u : ET) : ET := fun s G Q => t s G fun c G1 => if c = true then u s G1 Q else Q false G1
@[simp] def eOr (t u : ET) : ET := fun s G Q => t s G fun c G1 => if c = true then Q true G1 else u s G1 Q
@[simp] def eNot (t : ET) : ET := fun s G Q => t s G fun c G1 => Q (!c) G1
@[simp] def eIf (t : ET) (ta tb : EE) : EE := fun s G Q => t s G fun c G1 => if c = true then ta s G1 Q else tb s G1 Q
section
variable {K : PySem.W.Frag} {te tu : TE} {a b : EE} {tt tv : TT} {t u : ET}
theorem lt_tru (h : LE K te a) : LT K (fun σ H Q => te σ H fun x H' => ∃ k, TruV K x H' k ∧ Q k H') (eTru a) := fun P s G Q σ H R q r k => by
  refine h P s G _ σ H _ q r fun d G' v H' st w rp q' => ?_
  cases e : truD G' d with
  | none => rw [e] at q'; exact q'.elim
  | some b => rw [e] at q'; exact ⟨b, tru_of w rp e, k b G' H' st w q'⟩
theorem le_andT (ha : LE K te a) (hb : LE K tu b) : LE K (tAndT K te tu) (eAndT a b) := fun P s G Q σ H R q r k => by
  refine ha P s G _ σ H _ q r fun d G' v H' st w rp q' => ?_
  cases e : truD G' d with
  | none => rw [e] at q'; exact q'.elim
  | some c =>
    rw [e] at q'
    refine ⟨c, tru_of w rp e, ?_⟩
    cases c with
    | true => exact hb P s G' Q σ H' R q' (r.step st w) fun d G2 v H2 s2 w2 r2 q2 => k d G2 v H2 (st.trans s2) w2 r2 q2
    | false => exact k d G' v H' st w rp q'
theorem le_orT (ha : LE K te a) (hb : LE K tu b) : LE K (tOrT K te tu) (eOrT a b) := fun P s G Q σ H R q r k => by
  refine ha P s G _ σ H _ q r fun d G' v H' st w rp q' => ?_
  cases e : truD G' d with
  | none => rw [e] at q'; exact q'.elim
  | some c =>
    rw [e] at q'
    refine ⟨c, tru_of w rp e, ?_⟩
    cases c with
    | false => exact hb P s G' Q σ H' R q' (r.step st w) fun d G2 v H2 s2 w2 r2 q2 => k d G2 v H2 (st.trans s2) w2 r2 q2
    | true => exact k d G' v H' st w rp q'
theorem le_notT (ha : LE K te a) : LE K (tNotT K te) (eNotT a) := fun P s G Q σ H R q r k => by
  refine ha P s G _ σ H _ q r fun d G' v H' st w rp q' => ?_
  cases e : truD G' d with
  | none => rw [e] at q'; exact q'.elim
  | some c => rw [e] at q'; exact ⟨c, tru_of w rp e, k _ G' _ H' st w rep_bl q'⟩
theorem lt_and (ha : LT K tt t) (hb : LT K tv u) : LT K (tAnd tt tv) (eAnd t u) := fun P s G Q σ H R q r k => by
  refine ha P s G _ σ H _ q r fun c G' H' st w q' => ?_
  cases c with
  | true => exact hb P s G' Q σ H' R q' (r.step st w) fun b G2 H2 s2 w2 q2 => k b G2 H2 (st.trans s2) w2 q2
  | false => exact k false G' H' st w q'
theorem lt_or (ha : LT K tt t) (hb : LT K tv u) : LT K (tOr tt tv) (eOr t u) := fun P s G Q σ H R q r k => by
  refine ha P s G _ σ H _ q r fun c G' H' st w q' => ?_
  cases c with
  | false => exact hb P s G' Q σ H' R q' (r.step st w) fun b G2 H2 s2 w2 q2 => k b G2 H2 (st.trans s2) w2 q2
  | true => exact k true G' H' st w q'
theorem lt_not (ha : LT K tt t) : LT K (tNot tt) (eNot t) := fun P s G Q σ H R q r k => ha P s G _ σ H _ q r fun c G' H' st w q' => k _ G' H' st w q'
end
section
variable {X : Cx} {a b c : Expr} {rest : List Expr} {ta tb : TE} {ea eb : EE} {tt tv : TT} {et eu : ET} {pos : Pos}
theorem jt_tru (ha : JE X a ea) (he : ∀ whole, isTrue a X.env whole = (do let v ← whole; standAt a.pos; holding [v] (truthy v)) := by intro _; rfl) : JT X a (eTru ea) := ⟨pt_truth ha.pe he, lt_tru ha.le⟩
theorem JW.jt (h : JW X a et) : JT X a et := ⟨h.pw.pt, h.lt⟩
theorem jw_and1 (ha : JT X a et) : JW X (.BoolOp .And [a] pos) et := ⟨pw_and1 ha.pt, ha.lt⟩
theorem jw_or1 (ha : JT X a et) : JW X (.BoolOp .Or [a] pos) et := ⟨pw_or1 ha.pt, ha.lt⟩
theorem jw_and (ha : JT X a et) (hb : JW X (.BoolOp .And (b :: rest) pos) eu) : JW X (.BoolOp .And (a :: b :: rest) pos) (eAnd et eu) := ⟨pw_and ha.pt hb.pw, lt_and ha.lt hb.lt⟩
theorem jw_or (ha : JT X a et) (hb : JW X (.BoolOp .Or (b :: rest) pos) eu) : JW X (.BoolOp .Or (a :: b :: rest) pos) (eOr et eu) := ⟨pw_or ha.pt hb.pw, lt_or ha.lt hb.lt⟩
theorem jt_not (ha : JT X a et) : JT X (.UnaryOp .Not a pos) (eNot et) := ⟨pt_not ha.pt, lt_not ha.lt⟩
theorem j_one {op} (h : JE X a ea) : JE X (.BoolOp op [a] pos) ea := ⟨pe_one h.pe, h.le⟩
theorem j_and (ha : JE X a ea) (hb : JE X (.BoolOp .And (b :: rest) pos) eb) : JE X (.BoolOp .And (a :: b :: rest) pos) (eAndT ea eb) := ⟨pe_andT ha.pe hb.pe, le_andT ha.le hb.le⟩
theorem j_or (ha : JE X a ea) (hb : JE X (.BoolOp .Or (b :: rest) pos) eb) : JE X (.BoolOp .Or (a :: b :: rest) pos) (eOrT ea eb) := ⟨pe_orT ha.pe hb.pe, le_orT ha.le hb.le⟩
theorem j_not (ha : JE X a ea) : JE X (.UnaryOp .Not a pos) (eNotT ea) := ⟨pe_notT ha.pe, le_notT ha.le⟩
end
end DL
set_option Elab.async false
set_option linter.all false
set_option maxRecDepth 100000
set_option maxHeartbeats 4000000
namespace DL
open PySem L2
@[simp] def oIx : OD := fun x y G Q => match y with
  | .int i => (match x with
    | .str z => z.length ≤ sizeLine ∧ (match atI z.cps.toList i with
      | some c => Q (.str ⟨#[c]⟩) G
      | none => False)
    | x => (match lkQ G x with
      | some ds => (match atI ds i with
        | some d => Q d G
        | none => False)
      | none => False))
  | _ => False
section
variable {K : PySem.W.Frag} {P : Addr → Prop} {G : Gp} {H : Hp}
theorem reps_at {ds : List D} {xs : List V} {i : Int} {d : D} (q : Reps K H G P ds xs) (h : atI ds i = some d) : ∃ v, atI xs i = some v ∧ Rep K H G P d v := by
  unfold atI at h ⊢
  rw [← q.length]
  cases e : ixN ds.length i with
  | none => rw [e] at h; cases h
  | some j =>
    rw [e] at h
    obtain ⟨v, e1, e2⟩ := q.get (show ds[j]? = some d from h)
    exact ⟨v, e1, e2⟩
theorem lo_ix : LO K (rIx K) oIx := fun P G H x y u v Q R h w rx ry k => by
  unfold oIx at h
  split at h
  · rename_i i
    rw [rep_i ry]
    split at h
    · rename_i z
      rw [rep_s rx]
      obtain ⟨hz, h⟩ := h
      split at h
      · rename_i c e
        exact .inr (.inr ⟨z, i, c, rfl, rfl, hz, e, k _ G _ H (Step.refl _ _) w rep_str h⟩)
      · exact h.elim
    · split at h
      · rename_i ds e
        split at h
        · rename_i d e2
          obtain ⟨a, xs, rfl, s, q, z⟩ := lkQ_sq w rx e
          obtain ⟨v', e3, r3⟩ := reps_at q e2
          have q' := k _ G _ H (Step.refl _ _) w r3 h
          rcases s with s | s
          · exact .inl ⟨a, xs, i, v', rfl, rfl, s, e3, q'⟩
          · exact .inr (.inl ⟨a, xs, i, v', rfl, rfl, s, e3, q'⟩)
        · exact h.elim
      · exact h.elim
  · exact h.elim
end
abbrev EO := Sd → Gp → (Option Int → Gp → Prop) → Prop
def LPo (K : PySem.W.Frag) (te : TO) (t : EO) : Prop := ∀ (P : Addr → Prop) (s : Sd) (G : Gp) (Q : Option Int → Gp → Prop) (σ : St) (H : Hp) (R : Option Int → Hp → Prop), t s G Q → Rl K P s G σ H →
  (∀ b G' H', Step G H G' H' → Wo K P G' H' → Q b G' → R b H') → te σ H R
def upO (K : PySem.W.Frag) (t : EO) : TO := fun σ H R => ∃ (P : Addr → Prop) (s : Sd) (G : Gp) (Q : Option Int → Gp → Prop), t s G Q ∧ Rl K P s G σ H ∧ ∀ b G' H', Step G H G' H' → Wo K P G' H' → Q b G' → R b H'
inductive JO (X : Cx) (e : Option Expr) (t : EO) : Prop where
  | mk {te : TO} (a : PO X e te) (b : LPo X.K te t) : JO X e t
theorem JO.po {X : Cx} {e : Option Expr} {t : EO} (h : JO X e t) : PO X e (upO X.K t) := by
  obtain ⟨a, b⟩ := h
  exact ⟨fun pins s σ H Q I ⟨P, s', G, Q', h1, h2, h3⟩ => a.run pins s σ H Q I (b P s' G Q' σ H Q h1 h2 h3)⟩
theorem JO.lp {X : Cx} {e : Option Expr} {t : EO} (h : JO X e t) : LPo X.K (upO X.K t) t := fun P s G Q σ H R h1 h2 h3 => ⟨P, s, G, Q, h1, h2, h3⟩
@[simp] def eNoPart : EO := fun _ G Q => Q none G
@[simp] def ePart (t : EE) : EO := fun s G Q => t s G fun x G1 => match x with
  | .int i => Q (some i) G1
  | _ => False
def cutD (xs : List D) (lo hi : Option Int) : List D := (xs.drop (HT.sIx xs.length 0 lo)).take (HT.sIx xs.length xs.length hi - HT.sIx xs.length 0 lo)
theorem cut_reps {K : PySem.W.Frag} {P : Addr → Prop} {G : Gp} {H : Hp} {ds : List D} {xs : List V} {lo hi : Option Int} (q : Reps K H G P ds xs) : Reps K H G P (cutD ds lo hi) (cutV xs lo hi) := by
  unfold cutD cutV
  rw [q.length]
  exact (q.drop _).take _
theorem cutD_length (xs : List D) (lo hi : Option Int) : (cutD xs lo hi).length ≤ xs.length := by
  unfold cutD; rw [List.length_take, List.length_drop]; omega
section
variable {X : Cx} {K : PySem.W.Frag}
theorem jo_none : JO X none eNoPart := ⟨po_none, fun P s G Q σ H R h r k => k _ G H (Step.refl _ _) r.wo h⟩
theorem jo_some {e : Expr} {t : EE} (h : JE X e t) : JO X (some e) (ePart t) := ⟨po_some h.pe, fun P s G Q σ H R q r k => by
  refine h.le P s G _ σ H _ q r fun d G' v H' st w rp q' => ?_
  cases d with
  | int i => rw [rep_i rp]; exact ⟨i, rfl, k _ G' H' st w q'⟩
  | _ => exact q'.elim⟩
/-- a list's slice -/
@[simp] def eSlL (te : EE) (tl th : EO) : EE := fun s G Q => te s G fun x G1 => tl s G1 fun l G2 => th s G2 fun u G3 => match lkL G3 x with
  | some ds => Q (.lst (cutD ds l u)) G3
  | none => False
/-- a tuple's slice that is not the whole -/
@[simp] def eSlT (te : EE) (tl th : EO) : EE := fun s G Q => te s G fun x G1 => tl s G1 fun l G2 => th s G2 fun u G3 => match x with
  | .tup ds => ¬ (HT.sIx ds.length 0 l = 0 ∧ HT.sIx ds.length ds.length u = ds.length) ∧ Q (.tup (cutD ds l u)) G3
  | _ => False
theorem j_slL {e : Expr} {lo hi : Option Expr} {t : EE} {el eh : EO} {pos p2 : Pos} (he : JE X e t) (hl : JO X lo el) (hu : JO X hi eh) : JE X (.Subscript e (.Slice lo hi none p2) pos) (eSlL t el eh) :=
  ⟨pe_slice sl_list he.pe hl.po hu.po, fun P s G Q σ H R h r k => by
    refine he.le P s G _ σ H _ h r fun x G1 u H1 s1 w1 r1 h1 => ?_
    refine hl.lp P s G1 _ σ H1 _ h1 (r.step s1 w1) fun l G2 H2 s2 w2 h2 => ?_
    refine hu.lp P s G2 _ σ H2 _ h2 (r.step (s1.trans s2) w2) fun m G3 H3 s3 w3 h3 => ?_
    have r3 := (r1.step s2).step s3
    cases e : lkL G3 x with
    | none => rw [e] at h3; exact h3.elim
    | some ds =>
      rw [e] at h3
      obtain ⟨a, xs, rfl, s, q, z⟩ := lk_sq w3 r3 e
      refine ⟨a, xs, rfl, s, fun p hp => ?_⟩
      obtain ⟨f1, f2⟩ := w3.fresh hp
      have st : Step G3 H3 G3 (upd H3 p (.lst (cutV xs l m))) := Step.new hp
      exact k _ G3 _ _ (((s1.trans s2).trans s3).trans st) (w3.new hp) (rep_lst f1 f2 upd_same (Nat.le_trans (cutD_length _ _ _) z) ((cut_reps q).step st)) h3⟩
theorem j_slT {e : Expr} {lo hi : Option Expr} {t : EE} {el eh : EO} {pos p2 : Pos} (he : JE X e t) (hl : JO X lo el) (hu : JO X hi eh) : JE X (.Subscript e (.Slice lo hi none p2) pos) (eSlT t el eh) :=
  ⟨pe_slice sl_tup he.pe hl.po hu.po, fun P s G Q σ H R h r k => by
    refine he.le P s G _ σ H _ h r fun x G1 u H1 s1 w1 r1 h1 => ?_
    refine hl.lp P s G1 _ σ H1 _ h1 (r.step s1 w1) fun l G2 H2 s2 w2 h2 => ?_
    refine hu.lp P s G2 _ σ H2 _ h2 (r.step (s1.trans s2) w2) fun m G3 H3 s3 w3 h3 => ?_
    have r3 := (r1.step s2).step s3
    cases x with
    | tup ds =>
      obtain ⟨a, xs, rfl, g, p, rr, z, q⟩ := rep_t r3
      refine ⟨a, xs, rfl, SqT.of rr, by rw [← q.length]; exact h3.1, fun p hp => ?_⟩
      obtain ⟨f1, f2⟩ := w3.fresh hp
      have st : Step G3 H3 G3 (upd H3 p (.tup (cutV xs l m))) := Step.new hp
      exact k _ G3 _ _ (((s1.trans s2).trans s3).trans st) (w3.new hp) (rep_tup f1 f2 upd_same (Nat.le_trans (cutD_length _ _ _) z) ((cut_reps q).step st)) h3.2
    | _ => exact h3.elim⟩
theorem j_ix {a b : Expr} {ea eb : EE} {pos : Pos} (ha : JE X a ea) (hb : JE X b eb) (hs : PlainIx b := by intro _ _; rfl) : JE X (.Subscript a b pos) (eOp oIx ea eb) := ⟨pe_ix ix_seq ha.pe hb.pe hs, le_op lo_ix ha.le hb.le⟩
@[simp] def eNil : EA := fun _ G Q => Q [] G
@[simp] def eCons (ta : EE) (tr : EA) : EA := fun s G Q => ta s G fun x G1 => tr s G1 fun xs G2 => Q (x :: xs) G2
theorem la_nil : LA K 0 tNil eNil := fun P s G Q σ H R h r k => k [] G [] H (Step.refl _ _) r.wo reps_nil rfl h
theorem la_cons {n : Nat} {ta : TE} {tr : TA} {ea : EE} {er : EA} (ha : LE K ta ea) (hr : LA K n tr er) : LA K (n + 1) (tCons ta tr) (eCons ea er) := fun P s G Q σ H R h r k => by
  refine ha P s G _ σ H _ h r fun x G1 u H1 s1 w1 r1 h1 => ?_
  exact hr P s G1 _ σ H1 _ h1 (r.step s1 w1) fun xs G2 us H2 s2 w2 r2 l2 h2 => k _ G2 _ H2 (s1.trans s2) w2 (reps_cons (r1.step s2) r2) (by rw [List.length_cons, l2]) h2
theorem ja_nil : JA X [] eNil := ⟨pa_nil, la_nil⟩
theorem ja_cons {e : Expr} {es : List Expr} {ee : EE} {ea : EA} (ha : JE X e ee) (hr : JA X es ea) (hs : starEach (e :: es) X.env = (false, eval e X.env) :: starEach es X.env := by rfl) : JA X (e :: es) (eCons ee ea) := ⟨pa_cons ha.pe hr.pa hs, la_cons ha.le hr.la⟩
/-- a tuple; a list, frozen; a list, owned -/
@[simp] def eTup (t : EA) : EE := fun s G Q => t s G fun xs G1 => xs.length ≤ sizeLine ∧ Q (.tup xs) G1
@[simp] def eLst (t : EA) : EE := fun s G Q => t s G fun xs G1 => xs.length ≤ sizeLine ∧ Q (.lst xs) G1
@[simp] def eLstO (t : EA) : EE := fun s G Q => t s G fun xs G1 => xs.length ≤ sizeLine ∧ ∀ p, G1 p = none → Q (.ref p) (gput G1 p (.lst xs))
theorem j_tup {es : List Expr} {ea : EA} {x1 : Nat} {pos : Pos} (h : JA X es ea) : JE X (.Tuple es x1 pos) (eTup ea) := ⟨pe_tup h.pa, fun P s G Q σ H R q r k => by
  refine h.la P s G _ σ H _ q r fun xs G1 us H1 s1 w1 r1 _ h1 => ?_
  refine ⟨by rw [← r1.length]; exact h1.1, fun p hp => ?_⟩
  obtain ⟨f1, f2⟩ := w1.fresh hp
  have st : Step G1 H1 G1 (upd H1 p (.tup us)) := Step.new hp
  exact k _ G1 _ _ (s1.trans st) (w1.new hp) (rep_tup f1 f2 upd_same h1.1 (r1.step st)) h1.2⟩
theorem j_lst {es : List Expr} {ea : EA} {pos : Pos} (h : JA X es ea) : JE X (.List es pos) (eLst ea) := ⟨pe_lst h.pa, fun P s G Q σ H R q r k => by
  refine h.la P s G _ σ H _ q r fun xs G1 us H1 s1 w1 r1 _ h1 => ?_
  refine ⟨by rw [← r1.length]; exact h1.1, fun p hp => ?_⟩
  obtain ⟨f1, f2⟩ := w1.fresh hp
  have st : Step G1 H1 G1 (upd H1 p (.lst us)) := Step.new hp
  exact k _ G1 _ _ (s1.trans st) (w1.new hp) (rep_lst f1 f2 upd_same h1.1 (r1.step st)) h1.2⟩
/-- a new owned list -/
theorem own_lst {P : Addr → Prop} {G : Gp} {H : Hp} {ds : List D} {xs : List V} {p : Addr} (w : Wo K P G H) (hp : H p = none) (q : Reps K H G P ds xs) (z : ds.length ≤ sizeLine) : Step G H (gput G p (.lst ds)) (upd H p (.lst xs)) ∧ Wo K P (gput G p (.lst ds)) (upd H p (.lst xs)) ∧ Rep K (upd H p (.lst xs)) (gput G p (.lst ds)) P (.ref p) (.ref p) := by
  have st : Step G H (gput G p (.lst ds)) (upd H p (.lst xs)) := Step.newOwn w hp
  refine ⟨st, w.newOwn hp ⟨xs, rfl, z, q.step st⟩, ?_⟩
  unfold Rep
  exact ⟨rfl, _, gput_same⟩
theorem j_lstO {es : List Expr} {ea : EA} {pos : Pos} (h : JA X es ea) : JE X (.List es pos) (eLstO ea) := ⟨pe_lst h.pa, fun P s G Q σ H R q r k => by
  refine h.la P s G _ σ H _ q r fun xs G1 us H1 s1 w1 r1 _ h1 => ?_
  refine ⟨by rw [← r1.length]; exact h1.1, fun p hp => ?_⟩
  obtain ⟨a, b, c⟩ := own_lst w1 hp r1 h1.1
  exact k _ _ _ _ (s1.trans a) b c (h1.2 p (w1.fresh hp).1)⟩
abbrev CD := List D → Gp → DK → Prop
def LC (K : PySem.W.Frag) (r : List V → Hp → VK → Prop) (c : CD) : Prop := ∀ (P : Addr → Prop) (G : Gp) (H : Hp) (xs : List D) (us : List V) (Q : DK) (R : VK), c xs G Q → Wo K P G H → Reps K H G P xs us →
  (∀ d G' w H', Step G H G' H' → Wo K P G' H' → Rep K H' G' P d w → Q d G' → R w H') → r us H R
@[simp] def eCB (c : CD) (t : EA) : EE := fun s G Q => t s G fun xs G1 => c xs G1 Q
theorem le_cb {n : Nat} {r : List V → Hp → VK → Prop} {c : CD} {t : TA} {ea : EA} (hc : LC K r c) (ha : LA K n t ea) : LE K (tCB r t) (eCB c ea) := fun P s G Q σ H R h rl k => by
  refine ha P s G _ σ H _ h rl fun xs G1 us H1 s1 w1 r1 _ h1 => ?_
  exact hc P G1 H1 xs us Q R h1 w1 r1 fun d G' w H' st w' r' q' => k d G' w H' (s1.trans st) w' r' q'
theorem j_cb {x : Str} {p pos : Pos} {e : Expr} {es : List Expr} {ea : EA} {id : String} {r : List V → Hp → VK → Prop} {c : CD} (hc : CallR X (.builtin id) r) (lc : LC X.K r c) (hg : Gl X x) (hm : X.mg x = none) (hv : bootBuiltins x = some (.builtin id)) (ha : JA X (e :: es) ea)
    (hn : x ≠ "__name__" := by decide) (hdb : (x == ("__debug__" : Str)) = false := by decide) (he : starEach (e :: es) X.env = (false, eval e X.env) :: starEach es X.env := by rfl) (hpl : (backTo pos (starEach es X.env)).any (·.1) = false := by rfl) : JE X (.Call (.Name x p) (e :: es) [] pos) (eCB c ea) :=
  ⟨pe_callB hc hg hm hv ha.pa hn hdb he hpl, le_cb lc ha.la⟩
theorem j_ct {x : Str} {p pos : Pos} {e : Expr} {es : List Expr} {ea : EA} {T : String} {r : List V → Hp → VK → Prop} {c : CD} (hc : CallR X (.type T) r) (lc : LC X.K r c) (hg : Gl X x) (hm : X.mg x = none) (hv : bootBuiltins x = some (.type T)) (ha : JA X (e :: es) ea)
    (hn : x ≠ "__name__" := by decide) (hdb : (x == ("__debug__" : Str)) = false := by decide) (he : starEach (e :: es) X.env = (false, eval e X.env) :: starEach es X.env := by rfl) (hpl : (backTo pos (starEach es X.env)).any (·.1) = false := by rfl) : JE X (.Call (.Name x p) (e :: es) [] pos) (eCB c ea) :=
  ⟨pe_callTy hc hg hm hv ha.pa hn hdb he hpl, le_cb lc ha.la⟩
theorem reps1 {P : Addr → Prop} {G : Gp} {H : Hp} {d : D} {us : List V} (h : Reps K H G P [d] us) : ∃ u, us = [u] ∧ Rep K H G P d u := by
  unfold Reps at h
  obtain ⟨x, r, rfl, h1, h2⟩ := h
  unfold Reps at h2
  subst h2
  exact ⟨x, rfl, h1⟩
theorem reps2 {P : Addr → Prop} {G : Gp} {H : Hp} {d e : D} {us : List V} (h : Reps K H G P [d, e] us) : ∃ u v, us = [u, v] ∧ Rep K H G P d u ∧ Rep K H G P e v := by
  unfold Reps at h
  obtain ⟨x, r, rfl, h1, h2⟩ := h
  obtain ⟨v, rfl, h3⟩ := reps1 h2
  exact ⟨x, v, rfl, h1, h3⟩
/-- len -/
@[simp] def cLen : CD := fun xs G Q => match xs with
  | [.str z] => z.length ≤ sizeLine ∧ Q (.int z.length) G
  | [x] => (match lkQ G x with
    | some ds => Q (.int ds.length) G
    | none => False)
  | _ => False
theorem lc_len : LC K (fun xs H Q => ∃ x n, xs = [x] ∧ LenV K x H n ∧ Q (.int n) H) cLen := fun P G H xs us Q R h w r k => by
  unfold cLen at h
  split at h
  · rename_i z
    obtain ⟨u, rfl, r1⟩ := reps1 r
    rw [rep_s r1]
    exact ⟨_, _, rfl, ⟨h.1, rfl⟩, k _ G _ H (Step.refl _ _) w rep_int h.2⟩
  · rename_i x _
    obtain ⟨u, rfl, r1⟩ := reps1 r
    split at h
    · rename_i ds e
      obtain ⟨a, ys, rfl, s, q, z⟩ := lkQ_sq w r1 e
      refine ⟨_, ys.length, rfl, ?_, k _ G _ H (Step.refl _ _) w rep_int (by rw [← q.length]; exact h)⟩
      rcases s with s | s
      · exact .inl ⟨ys, s, rfl⟩
      · exact .inr ⟨ys, s, rfl⟩
    · exact h.elim
  · exact h.elim
@[simp] def cMax2 : CD := fun xs G Q => match xs with
  | [.int i, .int j] => Q (.int (if j > i then j else i)) G
  | _ => False
@[simp] def cMin2 : CD := fun xs G Q => match xs with
  | [.int i, .int j] => Q (.int (if j < i then j else i)) G
  | _ => False
theorem lc_max2 : LC K (fun xs H Q => ∃ i j, xs = [.int i, .int j] ∧ Q (.int (if j > i then j else i)) H) cMax2 := fun P G H xs us Q R h w r k => by
  unfold cMax2 at h
  split at h
  · obtain ⟨u, v, rfl, r1, r2⟩ := reps2 r
    rw [rep_i r1, rep_i r2]
    exact ⟨_, _, rfl, k _ G _ H (Step.refl _ _) w rep_int h⟩
  · exact h.elim
theorem lc_min2 : LC K (fun xs H Q => ∃ i j, xs = [.int i, .int j] ∧ Q (.int (if j < i then j else i)) H) cMin2 := fun P G H xs us Q R h w r k => by
  unfold cMin2 at h
  split at h
  · obtain ⟨u, v, rfl, r1, r2⟩ := reps2 r
    rw [rep_i r1, rep_i r2]
    exact ⟨_, _, rfl, k _ G _ H (Step.refl _ _) w rep_int h⟩
  · exact h.elim
@[simp] def cInt1 : CD := fun xs G Q => match xs with
  | [.int i] => Q (.int i) G
  | [.bl b] => Q (.int (if b then 1 else 0)) G
  | _ => False
theorem lc_int1 : LC K (fun xs H Q => (∃ i, xs = [.int i] ∧ Q (.int i) H) ∨ ∃ k, xs = [.bl k] ∧ Q (.int (if k then 1 else 0)) H) cInt1 := fun P G H xs us Q R h w r k => by
  unfold cInt1 at h
  split at h
  · obtain ⟨u, rfl, r1⟩ := reps1 r
    rw [rep_i r1]
    exact .inl ⟨_, rfl, k _ G _ H (Step.refl _ _) w rep_int h⟩
  · obtain ⟨u, rfl, r1⟩ := reps1 r
    rw [rep_b r1]
    exact .inr ⟨_, rfl, k _ G _ H (Step.refl _ _) w rep_int h⟩
  · exact h.elim
/-- list(x) of a list or tuple: new, frozen; owned -/
@[simp] def cList : CD := fun xs G Q => match xs with
  | [x] => (match lkQ G x with
    | some ds => Q (.lst ds) G
    | none => False)
  | _ => False
@[simp] def cListO : CD := fun xs G Q => match xs with
  | [x] => (match lkQ G x with
    | some ds => ∀ p, G p = none → Q (.ref p) (gput G p (.lst ds))
    | none => False)
  | _ => False
/-- ints of a list of data -/
def intsD : List D → Option (List Int)
  | [] => some []
  | .int i :: ds => (intsD ds).map (i :: ·)
  | _ :: _ => none
@[simp] def cSum : CD := fun xs G Q => match xs with
  | [x] => (match (lkL G x).bind intsD with
    | some ns => Q (.int ns.sum) G
    | none => False)
  | _ => False
/-- max, min of a list of ints -/
@[simp] def cMax : CD := fun xs G Q => match xs with
  | [x] => (match (lkL G x).bind intsD with
    | some ns => 0 < ns.length ∧ ∀ m, m ∈ ns → (∀ y, y ∈ ns → y ≤ m) → Q (.int m) G
    | none => False)
  | _ => False
@[simp] def cMin : CD := fun xs G Q => match xs with
  | [x] => (match (lkL G x).bind intsD with
    | some ns => 0 < ns.length ∧ ∀ m, m ∈ ns → (∀ y, y ∈ ns → m ≤ y) → Q (.int m) G
    | none => False)
  | _ => False
/-- all, any of a list of truths -/
def blsD : List D → Option (List Bool)
  | [] => some []
  | .bl i :: ds => (blsD ds).map (i :: ·)
  | _ :: _ => none
theorem reps_bls {P : Addr → Prop} {G : Gp} {H : Hp} : ∀ {ds : List D} {bs : List Bool} {us : List V}, Reps K H G P ds us → blsD ds = some bs → us = bs.map V.bl
  | [], bs, us, h, e => by cases e; unfold Reps at h; exact h
  | .bl i :: ds, bs, us, h, e => by
    rw [blsD] at e
    obtain ⟨r, e1, rfl⟩ := opt_map e
    unfold Reps at h
    obtain ⟨x, xs, rfl, h1, h2⟩ := h
    rw [rep_b h1, reps_bls h2 e1]; rfl
  | .non :: _, _, _, _, e => by cases e
  | .int _ :: _, _, _, _, e => by cases e
  | .str _ :: _, _, _, _, e => by cases e
  | .ty _ :: _, _, _, _, e => by cases e
  | .ref _ :: _, _, _, _, e => by cases e
  | .cl _ :: _, _, _, _, e => by cases e
  | .lst _ :: _, _, _, _, e => by cases e
  | .tup _ :: _, _, _, _, e => by cases e
  | .dct _ _ :: _, _, _, _, e => by cases e
  | .exc _ _ _ _ :: _, _, _, _, e => by cases e
  | .scr _ :: _, _, _, _, e => by cases e
@[simp] def cAll : CD := fun xs G Q => match xs with
  | [x] => (match (lkL G x).bind blsD with
    | some ns => Q (.bl (ns.all id)) G
    | none => False)
  | _ => False
@[simp] def cAny : CD := fun xs G Q => match xs with
  | [x] => (match (lkL G x).bind blsD with
    | some ns => Q (.bl (ns.any id)) G
    | none => False)
  | _ => False
theorem lk_bls {P : Addr → Prop} {G : Gp} {H : Hp} (w : Wo K P G H) {x : D} {u : V} {ns : List Bool} (r : Rep K H G P x u) (e : (lkL G x).bind blsD = some ns) : ∃ a, u = .ref a ∧ SqL K H a (ns.map V.bl) := by
  cases e1 : lkL G x with
  | none => rw [e1] at e; cases e
  | some ds =>
    rw [e1] at e
    obtain ⟨a, ys, rfl, s, q, z⟩ := lk_sq w r e1
    rw [reps_bls q e] at s
    exact ⟨a, rfl, s⟩
theorem lc_all : LC K (rAll K) cAll := fun P G H xs us Q R h w r k => by
  unfold cAll at h
  split at h
  · obtain ⟨u, rfl, r1⟩ := reps1 r
    split at h
    · rename_i ns e
      obtain ⟨a, rfl, s⟩ := lk_bls w r1 e
      exact ⟨a, ns, rfl, s, k _ G _ H (Step.refl _ _) w rep_bl h⟩
    · exact h.elim
  · exact h.elim
/-- isinstance(x, T), T a built-in type -/
def tyD (G : Gp) : D → Option String
  | .non => some "NoneType"
  | .bl _ => some "bool"
  | .int _ => some "int"
  | .str _ => some "str"
  | .lst _ => some "list"
  | .tup _ => some "tuple"
  | .dct _ _ => some "dict"
  | .ref a => match G a with
    | some (.lst _) => some "list"
    | some (.dct _ _) => some "dict"
    | _ => none
  | _ => none
@[simp] theorem tyD_non {G : Gp} : tyD G .non = some "NoneType" := rfl
@[simp] theorem tyD_bl {G : Gp} {b : Bool} : tyD G (.bl b) = some "bool" := rfl
@[simp] theorem tyD_int {G : Gp} {i : Int} : tyD G (.int i) = some "int" := rfl
@[simp] theorem tyD_str {G : Gp} {y : Str} : tyD G (.str y) = some "str" := rfl
@[simp] theorem tyD_lst {G : Gp} {ds : List D} : tyD G (.lst ds) = some "list" := rfl
@[simp] theorem tyD_tup {G : Gp} {ds : List D} : tyD G (.tup ds) = some "tuple" := rfl
@[simp] theorem tyD_dct {G : Gp} {ks : List Key} {ds : List D} : tyD G (.dct ks ds) = some "dict" := rfl
@[simp] theorem tyD_ref {G : Gp} {a : Addr} : tyD G (.ref a) = match G a with
    | some (.lst _) => some "list"
    | some (.dct _ _) => some "dict"
    | _ => none := rfl
theorem ty_of {P : Addr → Prop} {G : Gp} {H : Hp} (w : Wo K P G H) {d : D} {v : V} {n : String} (h : Rep K H G P d v) (e : tyD G d = some n) : TyX K H v (.type n) := by
  refine .base ?_
  cases d with
  | non => cases e; rw [rep_n h]; exact .non
  | bl b => cases e; rw [rep_b h]; exact .bl b
  | int b => cases e; rw [rep_i h]; exact .int b
  | str b => cases e; rw [rep_s h]; exact .str b
  | lst ds => cases e; obtain ⟨a, xs, rfl, g, p, r, z, q⟩ := rep_l h; exact .lst r
  | tup ds => cases e; obtain ⟨a, xs, rfl, g, p, r, z, q⟩ := rep_t h; exact .tup r
  | dct ks ds => cases e; unfold Rep at h; obtain ⟨a, xs, rfl, g, p, r, z, q⟩ := h; exact .dK r
  | ref a =>
    unfold Rep at h
    obtain ⟨rfl, o, ho⟩ := h
    simp only [tyD, ho] at e
    obtain ⟨u, e1, r⟩ := w.own a o ho
    cases o with
    | lst ds => cases e; obtain ⟨xs, rfl, z, q⟩ := r; exact .lst e1
    | dct ks ds => cases e; obtain ⟨xs, rfl, z, q⟩ := r; exact .dK e1
    | _ => cases e
  | _ => cases e
@[simp] def cIsi : CD := fun xs G Q => match xs with
  | [x, .ty n] => (match (tyD G x).bind fun m => kitB m n with
    | some b => Q (.bl b) G
    | none => False)
  | _ => False
theorem lc_isi : LC K (rIsi K) cIsi := fun P G H xs us Q R h w r k => by
  unfold cIsi at h
  split at h
  · rename_i x n
    obtain ⟨u, v, rfl, r1, r2⟩ := reps2 r
    have e2 : v = .ty n := by unfold Rep at r2; exact r2
    split at h
    · rename_i b e
      cases e1 : tyD G x with
      | none => rw [e1] at e; cases e
      | some m =>
        rw [e1] at e
        exact ⟨u, v, .type m, .type n, b, rfl, by rw [e2]; exact .ty n, ty_of w r1 e1, kit_ty e, k _ G _ H (Step.refl _ _) w rep_bl h⟩
    · exact h.elim
  · exact h.elim
end
end DL
set_option Elab.async false
set_option linter.all false
set_option maxRecDepth 100000
set_option maxHeartbeats 4000000
namespace DL
open PySem L2
mutual
theorem Rep.prv {K : PySem.W.Frag} {P : Addr → Prop} {G : Gp} {H : Hp} {p : Addr} {o : HO} (hp : P p) (hf : ∀ o' xs, H p ≠ some (.frz o' xs)) : ∀ {d : D} {v : V}, Rep K H G P d v → Rep K (upd H p o) G P d v
  | .non, _, h => by unfold Rep at h ⊢; exact h
  | .bl _, _, h => by unfold Rep at h ⊢; exact h
  | .int _, _, h => by unfold Rep at h ⊢; exact h
  | .str _, _, h => by unfold Rep at h ⊢; exact h
  | .ty _, _, h => by unfold Rep at h ⊢; exact h
  | .cl _, _, h => by unfold Rep at h ⊢; exact h
  | .ref a, _, h => by unfold Rep at h ⊢; exact h
  | .exc a dd f e, _, h => by
    unfold Rep at h ⊢
    obtain ⟨rfl, g, pp, u, r, t⟩ := h
    exact ⟨rfl, g, pp, u, by rw [upd_ne (fun e => by subst e; exact pp hp)]; exact r, Rep.prv hp hf t⟩
  | .scr ns, _, h => by
    unfold Rep at h ⊢
    obtain ⟨a, rfl, z, ⟨⟨o, h⟩, g⟩ | ⟨h, g, pp⟩ | h⟩ := h
    · exact ⟨a, rfl, z, .inl ⟨⟨o, by rw [upd_ne (fun e => by subst e; exact hf _ _ h)]; exact h⟩, g⟩⟩
    · exact ⟨a, rfl, z, .inr (.inl ⟨by rw [upd_ne (fun e => by subst e; exact pp hp)]; exact h, g, pp⟩)⟩
    · exact ⟨a, rfl, z, .inr (.inr h)⟩
  | .lst ds, _, h => by
    unfold Rep at h ⊢
    obtain ⟨a, xs, rfl, g, q, r, z, t⟩ := h
    exact ⟨a, xs, rfl, g, q, by rw [upd_ne (fun e => by subst e; exact q hp)]; exact r, z, Reps.prv hp hf t⟩
  | .tup ds, _, h => by
    unfold Rep at h ⊢
    obtain ⟨a, xs, rfl, g, q, r, z, t⟩ := h
    exact ⟨a, xs, rfl, g, q, by rw [upd_ne (fun e => by subst e; exact q hp)]; exact r, z, Reps.prv hp hf t⟩
  | .dct ks ds, _, h => by
    unfold Rep at h ⊢
    obtain ⟨a, xs, rfl, g, q, r, z, t⟩ := h
    exact ⟨a, xs, rfl, g, q, by rw [upd_ne (fun e => by subst e; exact q hp)]; exact r, z, Reps.prv hp hf t⟩
theorem Reps.prv {K : PySem.W.Frag} {P : Addr → Prop} {G : Gp} {H : Hp} {p : Addr} {o : HO} (hp : P p) (hf : ∀ o' xs, H p ≠ some (.frz o' xs)) : ∀ {ds : List D} {vs : List V}, Reps K H G P ds vs → Reps K (upd H p o) G P ds vs
  | [], _, h => by unfold Reps at h ⊢; exact h
  | d :: ds, _, h => by
    unfold Reps at h ⊢
    obtain ⟨x, r, rfl, h1, h2⟩ := h
    exact ⟨x, r, rfl, Rep.prv hp hf h1, Reps.prv hp hf h2⟩
end
section
variable {K : PySem.W.Frag} {P : Addr → Prop} {G G' : Gp} {H H' : Hp} {p : Addr}
theorem RelO.prv {o : GO} {ho u : HO} (hp : P p) (hf : ∀ o' xs, H p ≠ some (.frz o' xs)) (h : RelO K H G P o ho) : RelO K (upd H p u) G P o ho := by
  cases o with
  | lst ds => obtain ⟨xs, e, z, q⟩ := h; exact ⟨xs, e, z, q.prv hp hf⟩
  | dct ks ds => obtain ⟨xs, e, z, q⟩ := h; exact ⟨xs, e, z, q.prv hp hf⟩
  | ins C dx ks ds => obtain ⟨xs, e, z, q⟩ := h; exact ⟨xs, e, z, q.prv hp hf⟩
  | own x => exact h
  | set S n => exact h
  | gen r ds => obtain ⟨xs, e, z, q⟩ := h; exact ⟨xs, e, z, q.prv hp hf⟩
  | tbl f q a =>
    obtain ⟨ea, ps, e, z, q⟩ := h
    refine ⟨ea, ps, e, z, fun pos cv hc => ?_⟩
    obtain ⟨c, e1, e2, e3, e4⟩ := q pos cv hc
    exact ⟨c, e1, by rw [upd_ne (fun z => e4 (by rw [z]; exact hp))]; exact e2, e3, e4⟩
theorem Wo.prvUpd (w : Wo K P G H) {u : HO} (hp : P p) (hf : ∀ o' xs, H p ≠ some (.frz o' xs)) (nt : ∀ ys, u ≠ .tup ys := by intro _ h; cases h) : Wo K P G (upd H p u) := by
  refine ⟨fun a o e => ?_, fun a q => ?_⟩
  · obtain ⟨ho, e1, r⟩ := w.own a o e
    have ne : a ≠ p := fun z => by subst z; rw [(w.prv a hp).1] at e; cases e
    exact ⟨ho, by rw [upd_ne ne]; exact e1, r.prv hp hf⟩
  · obtain ⟨g, ho, e, n2⟩ := w.prv a q
    by_cases ne : a = p
    · subst ne; exact ⟨g, u, upd_same, nt⟩
    · exact ⟨g, ho, by rw [upd_ne ne]; exact e, n2⟩
/-- what was not there may change -/
theorem Step.out (s : Step G H G' H') {o : HO} (h : H p = none) : Step G H G' (upd H' p o) :=
  ⟨fun a u e g => ⟨by rw [upd_ne (ne_of_none e h)]; exact (s.keep a u e g).1, (s.keep a u e g).2⟩, s.own⟩
/-- one more private address -/
def prvAdd (P : Addr → Prop) (p : Addr) : Addr → Prop := fun a => P a ∨ a = p
theorem Wo.add (w : Wo K P G H) {o : HO} (h : H p = none) (nt : ∀ ys, o ≠ .tup ys := by intro _ h; cases h) : Wo K (prvAdd P p) G (upd H p o) := by
  have w1 := w.new (o := o) h
  obtain ⟨f1, f2⟩ := w.fresh h
  refine ⟨fun a u e => ?_, fun a q => ?_⟩
  · obtain ⟨ho, e1, r⟩ := w.own a u e
    refine ⟨ho, by rw [upd_ne (ne_of_none e1 h)]; exact e1, r.step (Step.new h) fun b hb q => ?_⟩
    rcases q with q | q
    · exact q
    · subst q; obtain ⟨x, e⟩ := hb; rw [h] at e; cases e
  · rcases q with q | q
    · exact w1.prv a q
    · subst q; exact ⟨f1, o, upd_same, nt⟩
theorem Wo.sub (w : Wo K (prvAdd P p) G H) : Wo K P G H :=
  ⟨fun a o e => let ⟨ho, e1, r⟩ := w.own a o e; ⟨ho, e1, r.step (Step.refl _ _) fun _ _ q => .inl q⟩, fun a q => w.prv a (.inl q)⟩
theorem Rep.sub {d : D} {v : V} (h : Rep K H G (prvAdd P p) d v) : Rep K H G P d v := h.mono (Step.refl _ _) fun _ _ q => .inl q
theorem Reps.sub {d : List D} {v : List V} (h : Reps K H G (prvAdd P p) d v) : Reps K H G P d v := h.mono (Step.refl _ _) fun _ _ q => .inl q
end
def Wk (K : PySem.W.Frag) (P : Addr → Prop) (G0 : Gp) (H0 : Hp) (Kp : Gp → Prop) (J : It) (ds : List D) : Prop := ds.length ≤ sizeLine ∧ ∀ (P' : Addr → Prop) (G : Gp) (H : Hp) (i : Nat), (∀ a, (∃ ho, H0 a = some ho) → P' a → P a) → Step G0 H0 G H → Wo K P' G H → Kp G →
  (∀ d, ds[i]? = some d → J.go i H ∧ ∀ x H', J.yld i H x H' → Step G H G H' ∧ Wo K P' G H' ∧ Rep K H' G P' d x) ∧ (ds.length ≤ i → J.stop i H)
abbrev EI := Sd → Gp → (List D → (Gp → Prop) → Gp → Prop) → Prop
def LI (K : PySem.W.Frag) (wi : TI) (t : EI) : Prop := ∀ (P : Addr → Prop) (s : Sd) (G : Gp) (Q : List D → (Gp → Prop) → Gp → Prop) (σ : St) (H : Hp) (R : It → Hp → Prop), t s G Q → Rl K P s G σ H →
  (∀ ds Kp G' J H', Step G H G' H' → Wo K P G' H' → Wk K P G' H' Kp J ds → Q ds Kp G' → R J H') → wi σ H R
def upI (K : PySem.W.Frag) (t : EI) : TI := fun σ H R => ∃ (P : Addr → Prop) (s : Sd) (G : Gp) (Q : List D → (Gp → Prop) → Gp → Prop), t s G Q ∧ Rl K P s G σ H ∧ ∀ ds Kp G' J H', Step G H G' H' → Wo K P G' H' → Wk K P G' H' Kp J ds → Q ds Kp G' → R J H'
inductive JI (X : Cx) (tg iter : Expr) (t : EI) : Prop where
  | mk {wi : TI} (a : PI X tg iter wi) (b : LI X.K wi t) : JI X tg iter t
theorem JI.pi {X : Cx} {tg iter : Expr} {t : EI} (h : JI X tg iter t) : PI X tg iter (upI X.K t) := by
  obtain ⟨a, b⟩ := h
  exact ⟨fun pins s σ H R I ⟨P, s', G, Q', h1, h2, h3⟩ => a.run pins s σ H R I (b P s' G Q' σ H R h1 h2 h3)⟩
theorem JI.li {X : Cx} {tg iter : Expr} {t : EI} (h : JI X tg iter t) : LI X.K (upI X.K t) t := fun P s G Q σ H R h1 h2 h3 => ⟨P, s, G, Q, h1, h2, h3⟩
/-- what must stay of what is walked -/
@[simp] def stays (x : D) (ds : List D) : Gp → Prop := match x with
  | .ref a => fun G => G a = some (.lst ds)
  | _ => fun _ => True
@[simp] def iL (t : EE) : EI := fun s G Q => t s G fun x G1 => match lkL G1 x with
  | some ds => Q ds (stays x ds) G1
  | none => False
/-- a list read now is read later -/
theorem lk_later {K : PySem.W.Frag} {P P' : Addr → Prop} {G0 G : Gp} {H0 H : Hp} {x : D} {a : Addr} {ds : List D} (r0 : Rep K H0 G0 P x (.ref a)) (e : lkL G0 x = some ds) (hP : ∀ a, (∃ ho, H0 a = some ho) → P' a → P a) (st : Step G0 H0 G H) (w : Wo K P' G H) (kp : stays x ds G) :
    ∃ xs, SqL K H a xs ∧ Reps K H G P' ds xs := by
  have r1 := r0.mono st hP
  have e1 : lkL G x = some ds := by
    cases x with
    | ref b => simp only [stays] at kp; simp only [lkL, kp]
    | _ => exact e
  obtain ⟨b, xs, eb, s, q, z⟩ := lk_sq w r1 e1
  cases eb
  exact ⟨xs, s, q⟩
section
variable {X : Cx} {K : PySem.W.Frag} {tg : Expr}
theorem wk_list {P : Addr → Prop} {G0 : Gp} {H0 : Hp} {x : D} {a : Addr} {ds : List D} (w0 : Wo K P G0 H0) (r0 : Rep K H0 G0 P x (.ref a)) (e : lkL G0 x = some ds) : Wk K P G0 H0 (stays x ds) (Itl K a) ds := by
  obtain ⟨b, xs0, eb, s0, q0, z0⟩ := lk_sq w0 r0 e
  refine ⟨z0, fun P' G H i hP st w kp => ?_⟩
  obtain ⟨xs, s, q⟩ := lk_later r0 e hP st w kp
  refine ⟨fun d hd => ?_, fun hi => ⟨xs, s, by rw [← q.length]; exact hi⟩⟩
  obtain ⟨v, e1, r1⟩ := q.get hd
  refine ⟨⟨xs, v, s, e1⟩, fun y H' hy => ?_⟩
  obtain ⟨rfl, f⟩ := hy
  have := f xs s
  rw [e1] at this
  cases this
  exact ⟨Step.refl _ _, w, r1⟩
theorem ji_list {l : Expr} {el : EE} (hl : JE X l el) : JI X tg l (iL el) := ⟨pi_list hl.pe, fun P s G Q σ H R h r k => by
  refine hl.le P s G _ σ H _ h r fun x G1 u H1 s1 w1 r1 h1 => ?_
  cases e : lkL G1 x with
  | none => rw [e] at h1; exact h1.elim
  | some ds =>
    rw [e] at h1
    obtain ⟨a, xs, rfl, s, q, z⟩ := lk_sq w1 r1 e
    exact ⟨a, rfl, ⟨xs, s⟩, k ds _ G1 _ H1 s1 w1 (wk_list w1 r1 e) h1⟩⟩
/-- range -/
def rngD (lo : Int) (n : Nat) : List D := (List.range n).map fun i => .int (lo + (i : Nat))
@[simp] def iR1 (ta : EA) : EI := fun s G Q => ta s G fun xs G1 => match xs with
  | [.int j] => j ≤ 16000000 ∧ -(2 ^ 62) ≤ j ∧ Q (rngD 0 j.toNat) (fun _ => True) G1
  | _ => False
@[simp] def iR2 (ta : EA) : EI := fun s G Q => ta s G fun xs G1 => match xs with
  | [.int i, .int j] => (-16000000 ≤ i ∧ i ≤ 16000000 ∧ -16000000 ≤ j ∧ j ≤ 16000000 ∧ j - i ≤ 16000000) ∧ Q (rngD i (j - i).toNat) (fun _ => True) G1
  | _ => False
theorem rngD_get {lo : Int} {n i : Nat} {d : D} (h : (rngD lo n)[i]? = some d) : i < n ∧ d = .int (lo + (i : Nat)) := by
  unfold rngD at h
  rw [List.getElem?_map] at h
  obtain ⟨j, e1, e2⟩ := opt_map h
  have hi : i < n := by
    rcases Nat.lt_or_ge i n with q | q
    · exact q
    · rw [List.getElem?_eq_none (by simpa using q)] at e1; cases e1
  rw [List.getElem?_range hi] at e1
  cases e1
  exact ⟨hi, e2.symm⟩
theorem rngD_length (lo : Int) (n : Nat) : (rngD lo n).length = n := by unfold rngD; simp
theorem line_ge : 16000000 ≤ sizeLine := by decide
theorem wk_range {P : Addr → Prop} {G0 : Gp} {H0 : Hp} {lo : Int} {n : Nat} (hn : n ≤ 16000000) : Wk K P G0 H0 (fun _ => True) (Itr lo n) (rngD lo n) := by
  refine ⟨by rw [rngD_length]; exact Nat.le_trans hn line_ge, fun P' G H i hP st w _ => ⟨fun d hd => ?_, fun hi => by rw [rngD_length] at hi; exact hi⟩⟩
  obtain ⟨hi, rfl⟩ := rngD_get hd
  refine ⟨hi, fun x H' hy => ?_⟩
  obtain ⟨rfl, rfl⟩ := hy
  exact ⟨Step.refl _ _, w, rep_int⟩
theorem ji_range1 {a : Expr} {ea : EA} {p pos : Pos} (hg : Gl X "range") (hm : X.mg "range" = none) (ha : JA X [a] ea) (hs : starEach [a] X.env = [(false, eval a X.env)] := by rfl) : JI X tg (.Call (.Name "range" p) [a] [] pos) (iR1 ea) :=
  ⟨pi_range1 hg hm ha.pa hs, fun P s G Q σ H R h r k => by
    refine ha.la P s G _ σ H _ h r fun xs G1 us H1 s1 w1 r1 ll h1 => ?_
    clear ll
    split at h1
    · rename_i j
      obtain ⟨u, rfl, r2⟩ := reps1 r1
      rw [rep_i r2]
      obtain ⟨h2, h3, h4⟩ := h1
      refine ⟨j, rfl, h3, by omega, k _ _ G1 _ H1 s1 w1 (wk_range (by omega)) h4⟩
    · exact h1.elim⟩
theorem ji_range2 {a b : Expr} {ea : EA} {p pos : Pos} (hg : Gl X "range") (hm : X.mg "range" = none) (ha : JA X [a, b] ea) (hs : starEach [a, b] X.env = [(false, eval a X.env), (false, eval b X.env)] := by rfl) (hs2 : starEach [b] X.env = [(false, eval b X.env)] := by rfl) :
    JI X tg (.Call (.Name "range" p) [a, b] [] pos) (iR2 ea) :=
  ⟨pi_range2 hg hm ha.pa hs hs2, fun P s G Q σ H R h r k => by
    refine ha.la P s G _ σ H _ h r fun xs G1 us H1 s1 w1 r1 ll h1 => ?_
    clear ll
    split at h1
    · rename_i i j
      obtain ⟨u, v, rfl, r2, r3⟩ := reps2 r1
      rw [rep_i r2, rep_i r3]
      obtain ⟨h2, h4⟩ := h1
      refine ⟨i, j, rfl, ⟨by omega, by omega, by omega, by omega⟩, k _ _ G1 _ H1 s1 w1 (wk_range (by omega)) h4⟩
    · exact h1.elim⟩
/-- enumerate(list) -/
def enumD (ds : List D) : List D := (List.range ds.length).zipWith (fun i d => .tup [.int ((i : Nat) : Int), d]) ds
@[simp] def iE (ta : EA) : EI := fun s G Q => ta s G fun xs G1 => match xs with
  | [x] => (match lkL G1 x with
    | some ds => Q (enumD ds) (stays x ds) G1
    | none => False)
  | _ => False
theorem enumD_length (ds : List D) : (enumD ds).length = ds.length := by unfold enumD; simp
theorem enumD_get {ds : List D} {i : Nat} {e : D} (h : (enumD ds)[i]? = some e) : ∃ d, ds[i]? = some d ∧ e = .tup [.int ((i : Nat) : Int), d] := by
  unfold enumD at h
  rw [List.getElem?_zipWith] at h
  cases e1 : ds[i]? with
  | none => rw [e1] at h; revert h; cases (List.range ds.length)[i]? <;> intro h <;> cases h
  | some d =>
    have hi : i < ds.length := by
      rcases Nat.lt_or_ge i ds.length with q | q
      · exact q
      · rw [List.getElem?_eq_none q] at e1; cases e1
    rw [e1, List.getElem?_range hi] at h
    exact ⟨d, rfl, (Option.some.inj h).symm⟩
theorem rep_pair {P : Addr → Prop} {G : Gp} {H : Hp} {T : Addr} {d e : D} {x y : V} (w : Wo K P G H) (hT : H T = none) (h1 : Rep K H G P d x) (h2 : Rep K H G P e y) : Step G H G (upd H T (.tup [x, y])) ∧ Wo K P G (upd H T (.tup [x, y])) ∧ Rep K (upd H T (.tup [x, y])) G P (.tup [d, e]) (.ref T) := by
  obtain ⟨f1, f2⟩ := w.fresh hT
  have st : Step G H G (upd H T (.tup [x, y])) := Step.new hT
  exact ⟨st, w.new hT, rep_tup f1 f2 upd_same (show 2 ≤ sizeLine by decide) (reps_cons (h1.step st) (reps_cons (h2.step st) reps_nil))⟩
/-- zip(list, list) -/
@[simp] def iZ (ta : EA) : EI := fun s G Q => ta s G fun xs G1 => match xs with
  | [x, y] => (match lkL G1 x, lkL G1 y with
    | some ds, some es => Q (ds.zipWith (fun d e => .tup [d, e]) es) (fun G => stays x ds G ∧ stays y es G) G1
    | _, _ => False)
  | _ => False
/-- a text's signs -/
def sgnD (z : Str) : List D := z.cps.toList.map fun c => .str ⟨#[c]⟩
@[simp] def iS (t : EE) : EI := fun s G Q => t s G fun x G1 => match x with
  | .str z => z.length ≤ sizeLine ∧ Q (sgnD z) (fun _ => True) G1
  | _ => False
theorem ji_str {e : Expr} {ee : EE} (he : JE X e ee) : JI X tg e (iS ee) := ⟨pi_str he.pe, fun P s G Q σ H R h r k => by
  refine he.le P s G _ σ H _ h r fun x G1 u H1 s1 w1 r1 h1 => ?_
  split at h1
  · rename_i z
    rw [rep_s r1]
    have hl : (sgnD z).length = z.cps.size := by unfold sgnD; simp
    refine ⟨z, rfl, k _ _ G1 _ H1 s1 w1 ⟨by rw [hl]; exact h1.1, fun P' G H i hP st w _ => ⟨fun d hd => ?_, fun hi => by rw [hl] at hi; exact hi⟩⟩ h1.2⟩
    unfold sgnD at hd
    rw [List.getElem?_map] at hd
    obtain ⟨c, e1, rfl⟩ := opt_map hd
    rw [Array.getElem?_toList] at e1
    have hi : i < z.cps.size := by
      rcases Nat.lt_or_ge i z.cps.size with q | q
      · exact q
      · rw [Array.getElem?_eq_none q] at e1; cases e1
    refine ⟨hi, fun x H' hy => ?_⟩
    obtain ⟨rfl, c', e2, rfl⟩ := hy
    rw [e1] at e2
    cases e2
    exact ⟨Step.refl _ _, w, rep_str⟩
  · exact h1.elim⟩
end
inductive Tg where
  | nm (i : Nat) | tp (is : List Nat)
def Tg.ix : Tg → List Nat
  | .nm i => [i]
  | .tp is => is
@[simp] def setAll : Sd → List Nat → List D → Option Sd
  | s, [], [] => some s
  | s, i :: is, d :: ds => setAll (s.set i (some d)) is ds
  | _, _, _ => none
@[simp] def asg (t : Tg) (d : D) (s : Sd) : Option Sd := match t with
  | .nm i => some (s.set i (some d))
  | .tp is => match d with
    | .tup ds => setAll s is ds
    | _ => none
def LG (K : PySem.W.Frag) (g : TG) (t : Tg) : Prop := ∀ (P : Addr → Prop) (s s' : Sd) (G : Gp) (σ : St) (H : Hp) (d : D) (v : V) (R : St → Hp → Prop), asg t d s = some s' → Rl K P s G σ H → Rep K H G P d v →
  (∀ σ', Rl K P s' G σ' H → (∀ vs, (∀ i ∈ t.ix, i ∈ vs) → wipe σ' vs = wipe σ vs) → R σ' H) → g v σ H R
def upG (K : PySem.W.Frag) (t : Tg) : TG := fun v σ H R => ∃ (P : Addr → Prop) (s s' : Sd) (G : Gp) (d : D), asg t d s = some s' ∧ Rl K P s G σ H ∧ Rep K H G P d v ∧ ∀ σ', Rl K P s' G σ' H → (∀ vs, (∀ i ∈ t.ix, i ∈ vs) → wipe σ' vs = wipe σ vs) → R σ' H
inductive JG (X : Cx) (tg : Expr) (t : Tg) : Prop where
  | mk {g : TG} (a : PG X tg g) (b : LG X.K g t) : JG X tg t
theorem JG.pg {X : Cx} {tg : Expr} {t : Tg} (h : JG X tg t) : PG X tg (upG X.K t) := by
  obtain ⟨a, b⟩ := h
  exact ⟨fun pins s σ H v u R I r ⟨P, s1, s2, G, d, h1, h2, h3, h4⟩ => a.run pins s σ H v u R I r (b P s1 s2 G σ H d v R h1 h2 h3 h4)⟩
theorem JG.lg {X : Cx} {tg : Expr} {t : Tg} (h : JG X tg t) : LG X.K (upG X.K t) t := fun P s s' G σ H d v R h1 h2 h3 h4 => ⟨P, s, s', G, d, h1, h2, h3, h4⟩
def LGs (K : PySem.W.Frag) (g : TGs) (is : List Nat) : Prop := ∀ (P : Addr → Prop) (s s' : Sd) (G : Gp) (σ : St) (H : Hp) (ds : List D) (vs : List V) (R : St → Hp → Prop), setAll s is ds = some s' → Rl K P s G σ H → Reps K H G P ds vs →
  (∀ σ', Rl K P s' G σ' H → (∀ vs, (∀ i ∈ is, i ∈ vs) → wipe σ' vs = wipe σ vs) → R σ' H) → g vs σ H R
def upGs (K : PySem.W.Frag) (is : List Nat) : TGs := fun vs σ H R => ∃ (P : Addr → Prop) (s s' : Sd) (G : Gp) (ds : List D), setAll s is ds = some s' ∧ Rl K P s G σ H ∧ Reps K H G P ds vs ∧ ∀ σ', Rl K P s' G σ' H → (∀ vs, (∀ i ∈ is, i ∈ vs) → wipe σ' vs = wipe σ vs) → R σ' H
inductive JGs (X : Cx) (tgs : List Expr) (is : List Nat) : Prop where
  | mk {g : TGs} (a : PGs X tgs g) (b : LGs X.K g is) : JGs X tgs is
theorem JGs.pg {X : Cx} {tgs : List Expr} {is : List Nat} (h : JGs X tgs is) : PGs X tgs (upGs X.K is) := by
  obtain ⟨a, b⟩ := h
  exact ⟨fun pins s σ H v u R I r ⟨P, s1, s2, G, d, h1, h2, h3, h4⟩ => a.run pins s σ H v u R I r (b P s1 s2 G σ H d v R h1 h2 h3 h4)⟩
theorem JGs.lg {X : Cx} {tgs : List Expr} {is : List Nat} (h : JGs X tgs is) : LGs X.K (upGs X.K is) is := fun P s s' G σ H d v R h1 h2 h3 h4 => ⟨P, s, s', G, d, h1, h2, h3, h4⟩
theorem wipe_get (σ : St) (j : Nat) : ∀ vs : List Nat, (wipe σ vs)[j]? = if j ∈ vs then (σ[j]?).map (fun _ => none) else σ[j]?
  | [] => by simp [wipe]
  | v :: vs => by
    rw [wipe]
    by_cases h : v = j
    · subst h
      rw [if_pos (List.mem_cons_self)]
      by_cases hl : v < σ.length
      · rw [List.getElem?_set_self (by rw [wipe_length]; exact hl), List.getElem?_eq_getElem hl]; rfl
      · rw [List.getElem?_eq_none (by rw [List.length_set, wipe_length]; omega), List.getElem?_eq_none (by omega)]; rfl
    · rw [List.getElem?_set_ne h, wipe_get σ j vs]
      have e : (j ∈ v :: vs) ↔ j ∈ vs := by simp [Ne.symm h]
      by_cases hj : j ∈ vs
      · rw [if_pos hj, if_pos (e.mpr hj)]
      · rw [if_neg hj, if_neg (fun q => hj (e.mp q))]
theorem wipe_set {σ : St} {vs : List Nat} {i : Nat} {x : Option V} (h : i ∈ vs) : wipe (σ.set i x) vs = wipe σ vs := by
  apply List.ext_getElem?
  intro j
  rw [wipe_get, wipe_get]
  by_cases e : i = j
  · subst e
    rw [if_pos h, if_pos h]
    by_cases hl : i < σ.length
    · rw [List.getElem?_set_self hl, List.getElem?_eq_getElem hl]; rfl
    · rw [List.getElem?_eq_none (by rw [List.length_set]; omega), List.getElem?_eq_none (by omega)]
  · rw [List.getElem?_set_ne e]
theorem wipe_wipe {σ : St} {vs : List Nat} : wipe (wipe σ vs) vs = wipe σ vs := by
  apply List.ext_getElem?
  intro j
  rw [wipe_get, wipe_get]
  by_cases h : j ∈ vs
  · rw [if_pos h, if_pos h]; cases σ[j]? <;> rfl
  · rw [if_neg h, if_neg h]
@[simp] def wipeD (s : Sd) : List Nat → Sd
  | [] => s
  | v :: vs => (wipeD s vs).set v none
theorem wipeD_length (s : Sd) : ∀ vs, (wipeD s vs).length = s.length
  | [] => rfl
  | v :: vs => by rw [wipeD, List.length_set, wipeD_length s vs]
theorem wipeD_some {s : Sd} {i : Nat} {d : D} : ∀ {vs : List Nat}, (wipeD s vs)[i]? = some (some d) → s[i]? = some (some d) ∧ i ∉ vs
  | [], h => ⟨h, by simp⟩
  | v :: vs, h => by
    rw [wipeD] at h
    by_cases e : v = i
    · subst e
      by_cases hl : v < (wipeD s vs).length
      · rw [List.getElem?_set_self hl] at h; cases h
      · rw [List.getElem?_eq_none (by rw [List.length_set]; omega)] at h; cases h
    · rw [List.getElem?_set_ne e] at h
      obtain ⟨h1, h2⟩ := wipeD_some h
      exact ⟨h1, by simp [Ne.symm e, h2]⟩
theorem Rl.wipe {K : PySem.W.Frag} {P : Addr → Prop} {s : Sd} {G : Gp} {σ : St} {H : Hp} (r : Rl K P s G σ H) (vs : List Nat) : Rl K P (wipeD s vs) G (wipe σ vs) H := by
  refine ⟨r.wo, by rw [wipeD_length, wipe_length]; exact r.len, fun i d e => ?_⟩
  obtain ⟨h1, h2⟩ := wipeD_some e
  obtain ⟨v, e1, e2⟩ := r.at_ i d h1
  exact ⟨v, by rw [wipe_get, if_neg h2]; exact e1, e2⟩
section
variable {X : Cx} {K : PySem.W.Frag} {pos : Pos}
theorem lg_nm {i : Nat} : LG K (gName i) (.nm i) := fun P s s' G σ H d v R e r rp k => by
  cases e
  exact k _ (r.set rp) fun vs hv => wipe_set (hv i (by simp [Tg.ix]))
theorem jg_name {i : Nat} {x : Str} (hN : X.N.Nodup) (hi : X.N[i]? = some x) (hx : Loc X.env.scope x) (hf : X.fn x = true ∨ X.env.scope.names.lookup x = some .local := by first | exact .inl rfl | exact .inr rfl | assumption) : JG X (.Name x pos) (.nm i) := ⟨pg_name hN hi hx hf, lg_nm⟩
theorem jgs_nil : JGs X [] [] := ⟨pgs_nil, fun P s s' G σ H ds vs R e r rp k => by
  cases ds with
  | nil =>
    unfold Reps at rp
    subst rp
    cases e
    exact ⟨rfl, k σ r fun _ _ => rfl⟩
  | cons d ds => cases e⟩
theorem jgs_cons {e : Expr} {es : List Expr} {i : Nat} {is : List Nat} (h1 : JG X e (.nm i)) (h2 : JGs X es is) (hs : (assignEach (e :: es) X.env).map (·.2) = assign e X.env :: (assignEach es X.env).map (·.2) := by rfl) : JGs X (e :: es) (i :: is) :=
  ⟨pgs_cons h1.pg h2.pg hs, fun P s s' G σ H ds vs R e r rp k => by
    cases ds with
    | nil => cases e
    | cons d ds =>
      unfold Reps at rp
      obtain ⟨x, xs, rfl, p1, p2⟩ := rp
      refine ⟨x, xs, rfl, ?_⟩
      exact h1.lg P s (s.set i (some d)) G σ H d x _ rfl r p1 fun σ1 r1 w1 => h2.lg P (s.set i (some d)) s' G σ1 H ds xs R e r1 p2 fun σ' r' w' => k σ' r' fun vs hv => (w' vs fun j hj => hv j (List.mem_cons_of_mem _ hj)).trans (w1 vs fun j hj => by
        have : j = i := by simpa [Tg.ix] using hj
        rw [this]; exact hv i List.mem_cons_self)⟩
theorem jg_tup {es : List Expr} {k : Nat} {is : List Nat} {n : Nat} (hc : X.calm = true) (h : JGs X es is) (hl : is.length = n := by rfl) (hn : (assignEach es X.env).length = n := by rfl) (hst : (assignEach es X.env).findIdx? (·.1) = none := by rfl) : JG X (.Tuple es k pos) (.tp is) :=
  ⟨pg_tup hc h.pg hn hst, fun P s s' G σ H d v R e r rp k => by
    cases d with
    | tup ds =>
      obtain ⟨a, xs, rfl, g, p, rr, z, q⟩ := rep_t rp
      have e' : setAll s is ds = some s' := e
      have hlen : ∀ (is : List Nat) (ds : List D) (s s' : Sd), setAll s is ds = some s' → ds.length = is.length := by
        intro is
        induction is with
        | nil => intro ds s s' e; cases ds with
          | nil => rfl
          | cons => cases e
        | cons i is ih => intro ds s s' e; cases ds with
          | nil => cases e
          | cons d ds => rw [List.length_cons, List.length_cons, ih ds _ _ e]
      refine ⟨a, xs, rfl, SqT.of rr, by rw [← q.length, hlen _ _ _ _ e', hl], ?_⟩
      exact h.lg P s s' G σ H ds xs R e' r q k
    | _ => cases e⟩
end
def compW (s0 : Sd) (t : Tg) (tt : ET) (te : EE) (Kp : Gp → Prop) : List D → List D → Gp → (List D → Gp → Prop) → Prop
  | [], acc, G, Q => Kp G ∧ Q acc G
  | d :: ds, acc, G, Q => Kp G ∧ match asg t d s0 with
    | none => False
    | some s => tt s G fun b G1 => if b = true then te s G1 fun y G2 => compW s0 t tt te Kp ds (acc ++ [y]) G2 Q else compW s0 t tt te Kp ds acc G1 Q
@[simp] def eLc (ti : EI) (t : Tg) (tt : ET) (te : EE) (vs : List Nat) : EE := fun s G Q => ti s G fun ds Kp G1 => compW (wipeD s vs) t tt te Kp ds [] G1 fun acc G2 => Q (.lst acc) G2
@[simp] def eLcO (ti : EI) (t : Tg) (tt : ET) (te : EE) (vs : List Nat) : EE := fun s G Q => ti s G fun ds Kp G1 => compW (wipeD s vs) t tt te Kp ds [] G1 fun acc G2 => ∀ p, G2 p = none → Q (.ref p) (gput G2 p (.lst acc))
@[simp] def eYes : ET := fun _ G Q => Q true G
inductive JTs (X : Cx) (ifs : List Expr) (t : ET) : Prop where
  | mk {te : TT} (a : PTs X ifs te) (b : LT X.K te t) : JTs X ifs t
theorem JTs.pt {X : Cx} {ifs : List Expr} {t : ET} (h : JTs X ifs t) : PTs X ifs (upT X.K t) := by
  obtain ⟨a, b⟩ := h
  exact ⟨fun pins s σ H Q I ⟨P, s', G, Q', h1, h2, h3⟩ => a.run pins s σ H Q I (b P s' G Q' σ H Q h1 h2 h3)⟩
theorem JTs.lt {X : Cx} {ifs : List Expr} {t : ET} (h : JTs X ifs t) : LT X.K (upT X.K t) t := fun P s G Q σ H R h1 h2 h3 => ⟨P, s, G, Q, h1, h2, h3⟩
theorem jts_nil {X : Cx} : JTs X [] eYes := ⟨pts_nil, fun P s G Q σ H R h r k => k true G H (Step.refl _ _) r.wo h⟩
theorem jts_one {X : Cx} {c : Expr} {t : ET} (h : JT X c t) : JTs X [c] t := ⟨pts_one h.pt, h.lt⟩
theorem Rl.addP {K : PySem.W.Frag} {P : Addr → Prop} {s : Sd} {G : Gp} {σ : St} {H : Hp} {p : Addr} {o : HO} (r : Rl K P s G σ H) (h : H p = none) (nt : ∀ ys, o ≠ .tup ys := by intro _ h; cases h) : Rl K (prvAdd P p) s G σ (upd H p o) := by
  refine ⟨r.wo.add h nt, r.len, fun i d e => ?_⟩
  obtain ⟨v, e1, e2⟩ := r.at_ i d e
  refine ⟨v, e1, e2.mono (Step.new h) fun b hb q => ?_⟩
  rcases q with q | q
  · exact q
  · subst q; obtain ⟨x, e⟩ := hb; rw [h] at e; cases e
/-- the loop of a comprehension -/
theorem lc_loop {K : PySem.W.Frag} {P : Addr → Prop} {s : Sd} {σ : St} {g : TG} {tt : TT} {te : TE} {t : Tg} {et : ET} {ee : EE} {vs : List Nat} {Kp : Gp → Prop} {J : It} {ds : List D} {G1 : Gp} {H1 : Hp} {Dl : Addr} {Q : List D → Gp → Prop} {R : Hp → Prop}
    (hg : LG K g t) (ht : LT K tt et) (he : LE K te ee) (hv : ∀ i ∈ t.ix, i ∈ vs) (wk : Wk K P G1 H1 Kp J ds) (r : Rl K P s G1 σ H1) (hD : H1 Dl = none) (h : compW (wipeD s vs) t et ee Kp ds [] G1 Q)
    (k : ∀ acc xs G H, Step G1 H1 G H → Wo K (prvAdd P Dl) G H → H Dl = some (.lst xs) → Reps K H G (prvAdd P Dl) acc xs → acc.length ≤ sizeLine → Q acc G → R H) :
    ∃ W : Nat → Nat → Hp → Prop, (∃ m, W 0 m (upd H1 Dl (.lst []))) ∧ ∀ i m H, W i m H → (J.stop i H ∧ R H) ∨ (J.go i H ∧ ∃ Nx : Hp → Prop, (∀ H', Nx H' → ∃ m', m' < m ∧ W (i + 1) m' H') ∧ ∀ x H', J.yld i H x H' → g x (wipe σ vs) H' fun σ2 H2 => wipe σ2 vs = wipe σ vs ∧ tt σ2 H2 fun b H3 =>
      if b = true then te σ2 H3 fun y H4 => ∃ acc, H4 Dl = some (.lst acc) ∧ acc.length < sizeLine ∧ Nx (upd H4 Dl (.lst (acc ++ [y]))) else Nx H3) := by
  obtain ⟨hz, wk⟩ := wk
  have hPP : ∀ a, (∃ ho, H1 a = some ho) → prvAdd P Dl a → P a := fun a ha q => by
    rcases q with q | q
    · exact q
    · subst q; obtain ⟨x, e⟩ := ha; rw [hD] at e; cases e
  let Pp := prvAdd P Dl
  let W : Nat → Nat → Hp → Prop := fun i m H => ∃ G acc xs, Step G1 H1 G H ∧ Wo K Pp G H ∧ H Dl = some (.lst xs) ∧ Reps K H G Pp acc xs ∧ acc.length ≤ i ∧ i ≤ ds.length ∧ m = ds.length - i ∧ compW (wipeD s vs) t et ee Kp (ds.drop i) acc G Q
  have r1 : Rl K Pp s G1 σ (upd H1 Dl (.lst [])) := r.addP hD
  refine ⟨W, ⟨ds.length, G1, [], [], Step.new hD, r1.wo, upd_same, reps_nil, Nat.le_refl _, Nat.zero_le _, rfl, h⟩, fun i m H hW => ?_⟩
  obtain ⟨G, acc, xs, st, w, eD, q, z, hi, rfl, hc⟩ := hW
  have rr : Rl K Pp s G σ H := by
    refine ⟨w, r.len, fun i d e => ?_⟩
    obtain ⟨v, e1, e2⟩ := r.at_ i d e
    exact ⟨v, e1, e2.mono st hPP⟩
  by_cases hlt : i < ds.length
  · have hd : ds[i]? = some ds[i] := List.getElem?_eq_getElem hlt
    have edrop : ds.drop i = ds[i] :: ds.drop (i + 1) := List.drop_eq_getElem_cons hlt
    rw [edrop, compW] at hc
    obtain ⟨kp, hc⟩ := hc
    obtain ⟨go, yl⟩ := (wk Pp G H i hPP st w kp).1 _ hd
    refine .inr ⟨go, fun H' => ∃ G acc xs, Step G1 H1 G H' ∧ Wo K Pp G H' ∧ H' Dl = some (.lst xs) ∧ Reps K H' G Pp acc xs ∧ acc.length ≤ i + 1 ∧ compW (wipeD s vs) t et ee Kp (ds.drop (i + 1)) acc G Q, fun H' hN => ?_, fun x H' hy => ?_⟩
    · obtain ⟨G, acc, xs, a1, a2, a3, a4, a5, a6⟩ := hN
      exact ⟨ds.length - (i + 1), by omega, G, acc, xs, a1, a2, a3, a4, a5, hlt, rfl, a6⟩
    · obtain ⟨s1, w1, rx⟩ := yl x H' hy
      cases ea : asg t ds[i] (wipeD s vs) with
      | none => rw [ea] at hc; exact hc.elim
      | some s' =>
        rw [ea] at hc
        refine hg Pp (wipeD s vs) s' G (wipe σ vs) H' _ x _ ea ((rr.step s1 w1).wipe vs) rx fun σ2 r2 hw => ⟨(hw vs hv).trans wipe_wipe, ?_⟩
        have gD : G Dl = none := (w.prv Dl (.inr rfl)).1
        have eD1 := s1.keep Dl _ eD gD
        refine ht Pp s' G _ σ2 H' _ hc r2 fun b G2 H3 s2 w2 h2 => ?_
        have eD2 := s2.keep Dl _ eD1.1 eD1.2
        cases b with
        | false =>
          exact ⟨G2, acc, xs, (st.trans s1).trans s2, w2, eD2.1, (q.step s1).step s2, Nat.le_succ_of_le z, h2⟩
        | true =>
          refine he Pp s' G2 _ σ2 H3 _ h2 (r2.step s2 w2) fun y G3 v H4 s3 w3 r3 h3 => ?_
          have eD3 := s3.keep Dl _ eD2.1 eD2.2
          have q3 := ((q.step s1).step s2).step s3
          have hf : ∀ o' ys, H4 Dl ≠ some (.frz o' ys) := fun o' ys e => by rw [eD3.1] at e; cases e
          refine ⟨xs, eD3.1, by rw [← q3.length]; omega, G3, acc ++ [y], xs ++ [v], (((st.trans s1).trans s2).trans s3).out hD, w3.prvUpd (.inr rfl) hf, upd_same, ?_, by rw [List.length_append]; simp; omega, h3⟩
          exact (q3.append (reps_cons r3 reps_nil)).prv (.inr rfl) hf
  · have hi2 : ds.length ≤ i := by omega
    have edrop : ds.drop i = [] := List.drop_eq_nil_of_le hi2
    rw [edrop, compW] at hc
    exact .inl ⟨(wk Pp G H i hPP st w hc.1).2 hi2, k acc xs G H st w eD q (by omega) hc.2⟩
section
variable {X : Cx} {elt tg iter : Expr} {ifs : List Expr} {scope : Scope} {own : List (Str × Nat)} {pos : Pos} {wi : TI} {ei : EI} {g : TG} {t : Tg} {tt : TT} {et : ET} {te : TE} {ee : EE}
theorem le_lc {K : PySem.W.Frag} {vs : List Nat} (hi : LI K wi ei) (hg : LG K g t) (ht : LT K tt et) (he : LE K te ee) (hv : ∀ i ∈ t.ix, i ∈ vs) : LE K (tLc wi g tt te vs) (eLc ei t et ee vs) := fun P s G Q σ H R h r k => by
  refine hi P s G _ σ H _ h r fun ds Kp G1 J H1 s1 w1 wk h1 => ?_
  intro Dl hD
  refine lc_loop hg ht he hv wk (r.step s1 w1) hD h1 fun acc xs G2 H2 st w2 eD q z hQ => ?_
  exact k _ G2 _ H2 (s1.trans st) w2.sub (rep_lst (w2.prv Dl (.inr rfl)).1 (fun p => (w1.fresh hD).2 p) eD z q.sub) hQ
theorem j_lc (hc : X.calm = true) (hN : X.N.Nodup) (hi : JI X tg iter ei) (ok : BlkOk X.N X.env.scope scope own) (hg : ∀ (s : Shared) (H : Hp) (C : Addr) (cl : List (Str × Addr)) (fp : List Addr), JG (X.blk s H scope (compEnvC scope cl C X.env) fp) tg t)
    (ht : ∀ (s : Shared) (H : Hp) (C : Addr) (cl : List (Str × Addr)) (fp : List Addr), JTs (X.blk s H scope (compEnvC scope cl C X.env) fp) ifs et) (he : ∀ (s : Shared) (H : Hp) (C : Addr) (cl : List (Str × Addr)) (fp : List Addr), JE (X.blk s H scope (compEnvC scope cl C X.env) fp) elt ee)
    (hv : ∀ i ∈ t.ix, i ∈ own.map (·.2) := by decide) (hs : ∀ x, foldedSetIterable iter X.env x = pure x := by intro _; rfl) : JE X (.ListComp elt [⟨tg, iter, ifs, 0⟩] scope pos) (eLc ei t et ee (own.map (·.2))) :=
  ⟨pe_lc hc hN hi.pi ok (fun s H C cl fp => (hg s H C cl fp).pg) (fun s H C cl fp => (ht s H C cl fp).pt) (fun s H C cl fp => (he s H C cl fp).pe) hs, le_lc hi.li (hg X.s_0 X.H_0 0 [] []).lg (ht X.s_0 X.H_0 0 [] []).lt (he X.s_0 X.H_0 0 [] []).le hv⟩
end
end DL
set_option Elab.async false
set_option linter.all false
set_option maxRecDepth 100000
set_option maxHeartbeats 4000000
namespace DL
open PySem L2
@[simp] def sNext : ES := fun N s G => N.nx s G
def sSeq (t u : ES) : ES := fun N s G => t { N with nx := u N } s G
@[simp] def sBreak : ES := fun N s G => N.bk s G
@[simp] def sCont : ES := fun N s G => N.ct s G
@[simp] def sDrop (te : EE) : ES := fun N s G => te s G fun _ G1 => N.nx s G1
@[simp] def sRet (te : EE) : ES := fun N s G => te s G N.rt
@[simp] def sRetN : ES := fun N _ G => N.rt .non G
@[simp] def sIf (c : ET) (t u : ES) : ES := fun N s G => c s G fun b G1 => if b = true then t N s G1 else u N s G1
@[simp] def sNever : ES := fun _ _ _ => False
@[simp] def sAsg (te : EE) (t : Tg) : ES := fun N s G => te s G fun d G1 => match asg t d s with
  | some s' => N.nx s' G1
  | none => False
/-- one statement, then the rest: what follows is a letter -/
theorem seq_gen {t u : ES} {N : En} {s : Sd} {G : Gp} (h : ∀ W : Sd → Gp → Prop, (∀ s' G', u N s' G' → W s' G') → t { N with nx := W } s G) : sSeq t u N s G := h (u N) fun _ _ x => x
section
variable {X : Cx} {Y : Wx} {K : PySem.W.Frag} {st : Stmt} {rest : List Stmt} {t u : TS} {et eu : ES} {e : Expr} {te : TE} {ee : EE} {pos : Pos}
theorem ls_next : LS K Y tNext sNext := fun P s G N σ H M h r k => k.nx s G σ H (Step.refl _ _) r h
theorem ls_seq (h1 : LS K Y t et) (h2 : LS K Y u eu) : LS K Y (tSeq t u) (sSeq et eu) := fun P s G N σ H M h r k =>
  h1 P s G _ σ H _ h r ⟨fun s' G' σ' H' st r' h' => h2 P s' G' N σ' H' M h' r' (k.step st), k.rt, k.bk, k.ct, k.xr⟩
theorem jss_nil : JSs X Y [] sNext := ⟨pss_nil, ls_next⟩
theorem jss_cons (h1 : JS X Y st et) (h2 : JSs X Y rest eu) : JSs X Y (st :: rest) (sSeq et eu) := ⟨pss_cons h1.ps h2.ps, ls_seq h1.ls h2.ls⟩
theorem jss_one (h1 : JS X Y st et) : JSs X Y [st] et := ⟨pss_one h1.ps, h1.ls⟩
theorem jss_never {sts : List Stmt} : JSs X Y sts sNever := ⟨pss_never, fun _ _ _ _ _ _ _ h => h.elim⟩
theorem js_expr (he : JE X e ee) (hs : swapsWith e none pos.line X.env = pure false := by rfl) : JS X Y (.Expr e pos) (sDrop ee) := ⟨ps_expr he.pe hs, fun P s G N σ H M h r k => he.le P s G _ σ H _ h r fun d G' v H' st w rp q => k.nx s G' σ H' st (r.step st w) q⟩
theorem js_ret (he : JE X e ee) : JS X Y (.Return (some e) pos) (sRet ee) := ⟨ps_ret he.pe, fun P s G N σ H M h r k => he.le P s G _ σ H _ h r fun d G' v H' st w rp q => k.rt d G' v H' st w rp q⟩
theorem js_if {c : Expr} {a b : List Stmt} {ec : ET} (hc : JT X c ec) (ha : JSs X Y a et) (hb : JSs X Y b eu) : JS X Y (.If c a b pos) (sIf ec et eu) := ⟨ps_if hc.pt ha.ps hb.ps, fun P s G N σ H M h r k => by
  refine hc.lt P s G _ σ H _ h r fun b G' H' st w q => ?_
  cases b with
  | true => exact ha.ls P s G' N σ H' M q (r.step st w) (k.step st)
  | false => exact hb.ls P s G' N σ H' M q (r.step st w) (k.step st)⟩
theorem ls_asg {g : TG} {tg : Tg} (he : LE K te ee) (hg : LG K g tg) : LS K Y (tAsg te g) (sAsg ee tg) := fun P s G N σ H M h r k => by
  refine he P s G _ σ H _ h r fun d G' v H' st w rp q => ?_
  cases ea : asg tg d s with
  | none => rw [ea] at q; exact q.elim
  | some s' =>
    rw [ea] at q
    exact hg P s s' G' σ H' d v _ ea (r.step st w) rp fun σ' r' _ => k.nx s' G' σ' H' st r' q
theorem js_set {i : Nat} {x : Str} {pos' : Pos} (hN : X.N.Nodup) (hi : X.N[i]? = some x) (hx : Loc X.env.scope x) (he : JE X e ee) (hs : swapsWith e (some (.Name x pos')) pos.line X.env = pure false := by rfl)
    (hf : X.fn x = true ∨ X.env.scope.names.lookup x = some .local := by first | exact .inl rfl | exact .inr rfl | assumption) : JS X Y (.Assign [.Name x pos'] e pos) (sAsg ee (.nm i)) := ⟨ps_set hN hi hx he.pe hs hf, ls_asg he.le lg_nm⟩
/-- name = [..] on one line -/
theorem js_setLc {i : Nat} {y : Str} {py : Pos} {elt tg iter : Expr} {ifs : List Expr} {scope : Scope} {own : List (Str × Nat)} {pos spos : Pos} {ei : EI} {t : Tg} {et : ET} {ee : EE} (hc : X.calm = true) (hN : X.N.Nodup) (hy : X.N[i]? = some y) (hyl : X.env.scope.names.lookup y = some .local)
    (hsw : swapsWith (.ListComp elt [⟨tg, iter, ifs, 0⟩] scope pos) (some (.Name y py)) spos.line X.env = pure true) (hi : JI X tg iter ei) (ok : BlkOk X.N X.env.scope scope own)
    (hg : ∀ (s : Shared) (H : Hp) (C : Addr) (cl : List (Str × Addr)) (fp : List Addr), JG (X.blk s H scope (compEnvC scope cl C X.env) fp) tg t) (ht : ∀ (s : Shared) (H : Hp) (C : Addr) (cl : List (Str × Addr)) (fp : List Addr), JTs (X.blk s H scope (compEnvC scope cl C X.env) fp) ifs et)
    (he : ∀ (s : Shared) (H : Hp) (C : Addr) (cl : List (Str × Addr)) (fp : List Addr), JE (X.blk s H scope (compEnvC scope cl C X.env) fp) elt ee) (hv : ∀ i ∈ t.ix, i ∈ own.map (·.2) := by decide) (hs : ∀ x, foldedSetIterable iter X.env x = pure x := by intro _; rfl) :
    JS X Y (.Assign [.Name y py] (.ListComp elt [⟨tg, iter, ifs, 0⟩] scope pos) spos) (sAsg (eLc ei t et ee (own.map (·.2))) (.nm i)) :=
  ⟨ps_setLc hc hN hy hyl hsw hi.pi ok (fun s H C cl fp => (hg s H C cl fp).pg) (fun s H C cl fp => (ht s H C cl fp).pt) (fun s H C cl fp => (he s H C cl fp).pe) hs, ls_asg (le_lc hi.li (hg X.s_0 X.H_0 0 [] []).lg (ht X.s_0 X.H_0 0 [] []).lt (he X.s_0 X.H_0 0 [] []).le hv) lg_nm⟩
/-- a, b = e -/
theorem js_asgT {tg : Expr} {t : Tg} (he : JE X e ee) (hg : JG X tg t) (hp : PS X (.Assign [tg] e pos) (tAsg (upE X.K ee) (upG X.K t))) : JS X Y (.Assign [tg] e pos) (sAsg ee t) := ⟨hp, ls_asg he.le hg.lg⟩
/-- name += e, name -= e -/
@[simp] def sAug (i : Nat) (te : EE) (f : Int → Int → Int) : ES := fun N s G => match s[i]? with
  | some (some (.int a)) => te s G fun y G1 => (match y with
    | .int b => N.nx (s.set i (some (.int (f a b)))) G1
    | _ => False)
  | _ => False
def forW (t : Tg) (tb : ES) (Kp : Gp → Prop) (N : En) : List D → Sd → Gp → Prop
  | [], s, G => Kp G ∧ N.nx s G
  | d :: ds, s, G => Kp G ∧ match asg t d s with
    | some s' => tb { N with nx := forW t tb Kp N ds, ct := forW t tb Kp N ds, bk := N.nx } s' G
    | none => False
@[simp] def sFor (ti : EI) (t : Tg) (tb : ES) : ES := fun N s G => ti s G fun ds Kp G1 => forW t tb Kp N ds s G1
theorem ls_for {wi : TI} {ei : EI} {g : TG} {tg : Tg} {tb : TS} {eb : ES} (hi : LI K wi ei) (hg : LG K g tg) (hb : LS K Y tb eb) : LS K Y (tFor wi g tb) (sFor ei tg eb) := fun P s G N σ H M h r k => by
  refine hi P s G _ σ H _ h r fun ds Kp G1 J H1 s1 w1 wk h1 => ?_
  obtain ⟨hz, wk⟩ := wk
  refine ⟨fun i m σ H => ∃ s G, Step G1 H1 G H ∧ Rl K P s G σ H ∧ i ≤ ds.length ∧ m = ds.length - i ∧ forW tg eb Kp N (ds.drop i) s G, ⟨_, s, G1, Step.refl _ _, r.step s1 w1, Nat.zero_le _, rfl, h1⟩, fun i m σ H hW => ?_⟩
  obtain ⟨s, G, st, rl, hi, rfl, hc⟩ := hW
  by_cases hlt : i < ds.length
  · have hd : ds[i]? = some ds[i] := List.getElem?_eq_getElem hlt
    rw [List.drop_eq_getElem_cons hlt, forW] at hc
    obtain ⟨kp, hc⟩ := hc
    obtain ⟨go, yl⟩ := (wk P G H i (fun _ _ q => q) st rl.wo kp).1 _ hd
    refine .inr ⟨go, fun σ' H' => ∃ s G, Step G1 H1 G H' ∧ Rl K P s G σ' H' ∧ forW tg eb Kp N (ds.drop (i + 1)) s G, fun σ' H' hN => ?_, fun x H' hy => ?_⟩
    · obtain ⟨s, G, a1, a2, a3⟩ := hN
      exact ⟨ds.length - (i + 1), by omega, s, G, a1, a2, hlt, rfl, a3⟩
    · obtain ⟨s2, w2, rx⟩ := yl x H' hy
      cases ea : asg tg ds[i] s with
      | none => rw [ea] at hc; exact hc.elim
      | some s' =>
        rw [ea] at hc
        refine hg P s s' G σ H' _ x _ ea (rl.step s2 w2) rx fun σ2 r2 _ => ?_
        have sA := st.trans s2
        exact hb P s' G _ σ2 H' _ hc r2 ⟨fun a b c d x y z => ⟨a, b, sA.trans x, y, z⟩, fun a b c d x y z w => k.rt a b c d ((s1.trans sA).trans x) y z w, fun a b c d x y z => k.nx a b c d ((s1.trans sA).trans x) y z, fun a b c d x y z => ⟨a, b, sA.trans x, y, z⟩, (k.step (s1.trans sA)).xr⟩
  · have hi2 : ds.length ≤ i := by omega
    rw [List.drop_eq_nil_of_le hi2, forW] at hc
    exact .inl ⟨(wk P G H i (fun _ _ q => q) st rl.wo hc.1).2 hi2, k.nx s G σ H (s1.trans st) rl hc.2⟩
theorem js_for {tg iter : Expr} {body : List Stmt} {ei : EI} {t : Tg} {eb : ES} (hp : PassesOwn (model X.prog X.w) X.A X.env X.xe) (hc : X.calm = true) (hi : JI X tg iter ei) (hg : JG X tg t) (hb : JSs X Y body eb) (hs : ∀ x, foldedSetIterable iter X.env x = pure x := by intro _; rfl) :
    JS X Y (.For tg iter body [] pos) (sFor ei t eb) := ⟨ps_for hp hc hi.pi hg.pg hb.ps hs, ls_for hi.li hg.lg hb.ls⟩
/-- o[i] = e, o an owned list -/
@[simp] def sSetIx (te to ti : EE) : ES := fun N s G => te s G fun v G1 => to s G1 fun o G2 => ti s G2 fun i G3 => match o, i with
  | .ref p, .int k => (match G3 p with
    | some (.lst ds) => (match ixN ds.length k with
      | some j => N.nx s (gput G3 p (.lst (ds.set j v)))
      | none => False)
    | _ => False)
  | _, _ => False
theorem js_setIx {o i : Expr} {eo ei : EE} {p' : Pos} (he : JE X e ee) (ho : JE X o eo) (hi : JE X i ei) (hp : PS X (.Assign [.Subscript o i p'] e pos) (tAsg (upE X.K ee) (gSub (upE X.K eo) (upE X.K ei) rSetL))) : JS X Y (.Assign [.Subscript o i p'] e pos) (sSetIx ee eo ei) :=
  ⟨hp, fun P s G N σ H M h r k => by
    refine he.le P s G _ σ H _ h r fun v G1 u H1 s1 w1 r1 h1 => ?_
    refine ho.le P s G1 _ σ H1 _ h1 (r.step s1 w1) fun od G2 ov H2 s2 w2 r2 h2 => ?_
    refine hi.le P s G2 _ σ H2 _ h2 (r.step (s1.trans s2) w2) fun id G3 iv H3 s3 w3 r3 h3 => ?_
    split at h3
    · rename_i p kk
      split at h3
      · rename_i ds e1
        split at h3
        · rename_i j e2
          have r2' := r2.step s3
          unfold Rep at r2'
          obtain ⟨rfl, _⟩ := r2'
          rw [rep_i r3]
          obtain ⟨ho', e3, xs, rfl, z, q⟩ := w3.own p _ e1
          refine ⟨p, xs, kk, j, rfl, rfl, e3, by rw [← q.length]; exact e2, ?_⟩
          have st : Step G3 H3 (gput G3 p (.lst (ds.set j v))) (upd H3 p (.lst (xs.set j u))) := Step.chg e1
          have sA := (((s1.trans s2).trans s3).trans st)
          have rv := (r1.step s2).step s3
          exact k.nx s _ σ _ sA (r.step sA (w3.chg e1 ⟨_, rfl, by rw [List.length_set]; exact z, (q.set rv j).step st⟩)) h3
        · exact h3.elim
      · exact h3.elim
    · exact h3.elim⟩
/-- methods of built-in types on owned lists, by values -/
abbrev MD := D → List D → Gp → DK → Prop
def LM (K : PySem.W.Frag) (r : V → List V → Hp → VK → Prop) (c : MD) : Prop := ∀ (P : Addr → Prop) (G : Gp) (H : Hp) (x : D) (u : V) (xs : List D) (us : List V) (Q : DK) (R : VK), c x xs G Q → Wo K P G H → Rep K H G P x u → Reps K H G P xs us →
  (∀ d G' w H', Step G H G' H' → Wo K P G' H' → Rep K H' G' P d w → Q d G' → R w H') → r u us H R
@[simp] def isLst (G : Gp) : D → Prop
  | .lst _ => True
  | .ref a => ∃ ds, G a = some (.lst ds)
  | _ => False
/-- o.m(..), o a list -/
@[simp] def eBm (c : MD) (to : EE) (t : EA) : EE := fun s G Q => to s G fun x G1 => isLst G1 x ∧ t s G1 fun xs G2 => c x xs G2 Q
theorem ty_lst {P : Addr → Prop} {G : Gp} {H : Hp} (w : Wo K P G H) {x : D} {u : V} (r : Rep K H G P x u) (h : isLst G x) : tyV K "list" u H := by
  cases x with
  | lst ds => obtain ⟨a, xs, rfl, g, p, rr, z, q⟩ := rep_l r; exact .inl ⟨rfl, xs, SqL.of rr⟩
  | ref a =>
    obtain ⟨ds, e⟩ := h
    unfold Rep at r
    obtain ⟨rfl, _⟩ := r
    obtain ⟨ho, e1, xs, rfl, z, q⟩ := w.own a _ e
    exact .inl ⟨rfl, xs, SqL.of e1⟩
  | _ => exact h.elim
theorem le_bm {n : Nat} {r : V → List V → Hp → VK → Prop} {c : MD} {to : TE} {eo : EE} {t : TA} {ea : EA} (hm : LM K r c) (ho : LE K to eo) (ha : LA K n t ea) : LE K (tBM K "list" r to t) (eBm c eo ea) := fun P s G Q σ H R h rl k => by
  refine ho P s G _ σ H _ h rl fun x G1 u H1 s1 w1 r1 h1 => ?_
  refine ⟨ty_lst w1 r1 h1.1, ?_⟩
  refine ha P s G1 _ σ H1 _ h1.2 (rl.step s1 w1) fun xs G2 us H2 s2 w2 r2 _ h2 => ?_
  exact hm P G2 H2 x u xs us Q R h2 w2 (r1.step s2) r2 fun d G' w H' st w' r' q' => k d G' w H' ((s1.trans s2).trans st) w' r' q'
@[simp] def mApp : MD := fun x xs G Q => match x, xs with
  | .ref p, [y] => (match G p with
    | some (.lst ds) => ds.length < sizeLine ∧ Q .non (gput G p (.lst (ds ++ [y])))
    | _ => False)
  | _, _ => False
theorem lm_app : LM K rAppend mApp := fun P G H x u xs us Q R h w rx rs k => by
  unfold mApp at h
  split at h
  · rename_i p y
    split at h
    · rename_i ds e
      unfold Rep at rx
      obtain ⟨rfl, _⟩ := rx
      obtain ⟨v, rfl, ry⟩ := reps1 rs
      obtain ⟨ho, e1, ys, rfl, z, q⟩ := w.own p _ e
      refine ⟨p, ys, v, rfl, rfl, e1, by rw [← q.length]; exact h.1, ?_⟩
      have st : Step G H (gput G p (.lst (ds ++ [y]))) (upd H p (.lst (ys ++ [v]))) := Step.chg e
      exact k _ _ _ _ st (w.chg e ⟨_, rfl, by rw [List.length_append]; exact h.1, (q.append (reps_cons ry reps_nil)).step st⟩) rep_non h.2
    · exact h.elim
  · exact h.elim
/-- xs.extend(ys) -/
@[simp] def mExt : MD := fun x xs G Q => match x, xs with
  | .ref p, [y] => (match G p, lkL G y with
    | some (.lst ds), some es => (∀ ns, y ≠ .scr ns) ∧ ds.length + es.length ≤ sizeLine ∧ Q .non (gput G p (.lst (ds ++ es)))
    | _, _ => False)
  | _, _ => False
section
variable {o : Expr} {es : List Expr} {to : TE} {eo : EE} {t : TA} {ea : EA} {name : Str} {apos cpos : Pos} {id : String} {r : V → List V → Hp → VK → Prop} {c : MD}
theorem j_bm (pa : PlainAttrs "list") (slot : Slot "list" name id) (hty : typeOf (.builtin id) = pure (.type "method_descriptor")) (hm : MtR X id r) (lm : LM X.K r c) (ho : JE X o eo) (ha : JA X (e :: es) ea) (hbase : attributeBase o name X.env (eval o X.env) = eval o X.env := by rfl)
    (hfew : ((backTo cpos (starEach (e :: es) X.env)).all (fun x => !x.1) && (backToKw cpos (keywordEach [] X.env)).all (fun x => x.1.isSome) && decide ((e :: es).length + ([] : List Keyword).length + (if ([] : List Keyword).isEmpty then 0 else 1) < 30)) = true := by rfl) (hline : (apos.endLine == cpos.line) = true := by rfl)
    (hs : starEach (e :: es) X.env = (false, eval e X.env) :: starEach es X.env := by rfl) (hplain : (backTo cpos (starEach es X.env)).any (·.1) = false := by rfl) : JE X (.Call (.Attribute o name apos) (e :: es) [] cpos) (eBm c eo ea) :=
  ⟨pe_bm pa slot hty hm ho.pe ha.pa hbase hfew hline hs hplain, le_bm lm ho.le ha.la⟩
end
end
end DL
set_option Elab.async false
set_option linter.all false
set_option maxRecDepth 100000
set_option maxHeartbeats 4000000
namespace DL
open PySem PySem.Spec PyProof.Rows L2
abbrev Sf := List D → Gp → DK → Prop
/-- a promise over data, over the heap -/
def Lf (K : PySem.W.Frag) (n : Nat) (f : Sf) : Sp := fun vs H R _ => vs.length = n ∧ ∃ (P : Addr → Prop) (ds : List D) (G : Gp) (Q : DK), Wo K P G H ∧ Reps K H G P ds vs ∧ f ds G Q ∧ ∀ d G' v H', Step G H G' H' → Wo K P G' H' → Rep K H' G' P d v → Q d G' → R v H'
@[simp] def eCall (f : Sf) (t : EA) : EE := fun s G Q => t s G fun ds G1 => f ds G1 Q
section
variable {X : Cx} {K : PySem.W.Frag}
theorem le_call {n : Nat} {f : Sf} {E : XK} {t : TA} {ea : EA} (ha : LA K n t ea) : LE K (tCall (Lf K n f) [] E t) (eCall f ea) := fun P s G Q σ H R h r k => by
  refine ha P s G _ σ H _ h r fun ds G1 vs H1 s1 w1 r1 l1 h1 => ?_
  rw [List.append_nil]
  exact ⟨by rw [← r1.length, l1], P, ds, G1, Q, w1, r1, h1, fun d G' v H' st w rp q => k d G' v H' (s1.trans st) w rp q⟩
abbrev FK (P : Program) (w : World) (K : PySem.W.Frag) (mg : Str → Option Value) (base : Heap) (k : Nat) (f : Addr) (fd : FuncData) (ps : List Str) (F : Sf) : Prop := FnOk P w K mg base CX0 k f fd ps (Lf K ps.length F)
theorem j_call {k : Nat} {f : Addr} {fd : FuncData} {ps : List Str} {F : Sf} {x : Str} {p pos : Pos} {e : Expr} {es : List Expr} {ea : EA} (FF : FK X.prog X.w X.K X.mg X.base k f fd ps F) (hr : Room k X.A) (hg : Gl X x) (hm : X.mg x = some (.ref f)) (hk : PySem.W.keepIn X.K (.ref f) = true) (hb : Binds X.K fd ps [])
    (ha : JA X (e :: es) ea) (hlen : (e :: es).length = ps.length := by rfl) (hdb : (x == ("__debug__" : Str)) = false := by decide) (he : starEach (e :: es) X.env = (false, eval e X.env) :: starEach es X.env := by rfl) (hpl : (backTo pos (starEach es X.env)).any (·.1) = false := by rfl) : JE X (.Call (.Name x p) (e :: es) [] pos) (eCall F ea) :=
  ⟨pe_call FF hr hg hm hk hb .nil pass0 ha.pa hdb he hpl, le_call (t := upA X.K (e :: es).length ea) (hlen ▸ ha.la)⟩
mutual
def RefIn (G : Gp) : D → Prop
  | .ref a => ∃ o, G a = some o
  | .lst ds => RefIns G ds
  | .tup ds => RefIns G ds
  | .dct _ ds => RefIns G ds
  | .exc _ _ _ e => RefIn G e
  | _ => True
def RefIns (G : Gp) : List D → Prop
  | [] => True
  | d :: ds => RefIn G d ∧ RefIns G ds
end
mutual
theorem ref_of {P : Addr → Prop} {G : Gp} {H : Hp} : ∀ {d : D} {v : V}, Rep K H G P d v → RefIn G d
  | .non, _, _ => by simp only [RefIn]
  | .bl _, _, _ => by simp only [RefIn]
  | .int _, _, _ => by simp only [RefIn]
  | .str _, _, _ => by simp only [RefIn]
  | .ty _, _, _ => by simp only [RefIn]
  | .cl _, _, _ => by simp only [RefIn]
  | .exc a dd f e, _, h => by unfold Rep at h; obtain ⟨_, _, _, u, _, q⟩ := h; simp only [RefIn]; exact ref_of q
  | .scr _, _, _ => by simp only [RefIn]
  | .ref a, _, h => by unfold Rep at h; simp only [RefIn]; exact h.2
  | .lst ds, _, h => by obtain ⟨a, xs, rfl, g, p, r, z, q⟩ := rep_l h; simp only [RefIn]; exact refs_of q
  | .tup ds, _, h => by obtain ⟨a, xs, rfl, g, p, r, z, q⟩ := rep_t h; simp only [RefIn]; exact refs_of q
  | .dct ks ds, _, h => by unfold Rep at h; obtain ⟨a, xs, rfl, g, p, r, z, q⟩ := h; simp only [RefIn]; exact refs_of q
theorem refs_of {P : Addr → Prop} {G : Gp} {H : Hp} : ∀ {ds : List D} {vs : List V}, Reps K H G P ds vs → RefIns G ds
  | [], _, _ => by simp only [RefIns]
  | d :: ds, _, h => by
    unfold Reps at h
    obtain ⟨x, r, rfl, h1, h2⟩ := h
    simp only [RefIns]
    exact ⟨ref_of h1, refs_of h2⟩
end
mutual
theorem Rep.less {P : Addr → Prop} {G G2 : Gp} {H : Hp} (h2 : ∀ a, G a = none → G2 a = none) : ∀ {d : D} {v : V}, RefIn G2 d → Rep K H G P d v → Rep K H G2 P d v
  | .non, _, _, h => by unfold Rep at h ⊢; exact h
  | .bl _, _, _, h => by unfold Rep at h ⊢; exact h
  | .int _, _, _, h => by unfold Rep at h ⊢; exact h
  | .str _, _, _, h => by unfold Rep at h ⊢; exact h
  | .ty _, _, _, h => by unfold Rep at h ⊢; exact h
  | .cl _, _, _, h => by unfold Rep at h ⊢; exact h
  | .exc a dd f e, _, q, h => by
    unfold Rep at h ⊢
    simp only [RefIn] at q
    obtain ⟨rfl, g, pp, u, r, t⟩ := h
    exact ⟨rfl, h2 _ g, pp, u, r, Rep.less h2 q t⟩
  | .scr ns, _, _, h => by
    unfold Rep at h ⊢
    obtain ⟨a, rfl, z, ⟨⟨u, h⟩, g⟩ | ⟨h, g, pp⟩ | h⟩ := h
    · exact ⟨a, rfl, z, .inl ⟨⟨u, h⟩, h2 _ g⟩⟩
    · exact ⟨a, rfl, z, .inr (.inl ⟨h, h2 _ g, pp⟩)⟩
    · exact ⟨a, rfl, z, .inr (.inr h)⟩
  | .ref a, _, q, h => by unfold Rep at h ⊢; simp only [RefIn] at q; exact ⟨h.1, q⟩
  | .lst ds, _, q, h => by
    unfold Rep at h ⊢
    simp only [RefIn] at q
    obtain ⟨a, xs, rfl, g, p, r, z, t⟩ := h
    exact ⟨a, xs, rfl, h2 _ g, p, r, z, Reps.less h2 q t⟩
  | .tup ds, _, q, h => by
    unfold Rep at h ⊢
    simp only [RefIn] at q
    obtain ⟨a, xs, rfl, g, p, r, z, t⟩ := h
    exact ⟨a, xs, rfl, h2 _ g, p, r, z, Reps.less h2 q t⟩
  | .dct ks ds, _, q, h => by
    unfold Rep at h ⊢
    simp only [RefIn] at q
    obtain ⟨a, xs, rfl, g, p, r, z, t⟩ := h
    exact ⟨a, xs, rfl, h2 _ g, p, r, z, Reps.less h2 q t⟩
theorem Reps.less {P : Addr → Prop} {G G2 : Gp} {H : Hp} (h2 : ∀ a, G a = none → G2 a = none) : ∀ {ds : List D} {vs : List V}, RefIns G2 ds → Reps K H G P ds vs → Reps K H G2 P ds vs
  | [], _, _, h => by unfold Reps at h ⊢; exact h
  | d :: ds, _, q, h => by
    unfold Reps at h ⊢
    simp only [RefIns] at q
    obtain ⟨x, r, rfl, h1, h3⟩ := h
    exact ⟨x, r, rfl, Rep.less h2 q.1 h1, Reps.less h2 q.2 h3⟩
end
def RefO (G : Gp) : GO → Prop
  | .lst ds => RefIns G ds
  | .dct _ ds => RefIns G ds
  | .ins _ _ _ ds => RefIns G ds
  | .gen _ ds => RefIns G ds
  | _ => True
theorem RelO.less {P : Addr → Prop} {G G2 : Gp} {H : Hp} {o : GO} {ho : HO} (h2 : ∀ a, G a = none → G2 a = none) (q : RefO G2 o) (h : RelO K H G P o ho) : RelO K H G2 P o ho := by
  cases o with
  | lst ds => obtain ⟨xs, e, z, t⟩ := h; exact ⟨xs, e, z, t.less h2 q⟩
  | dct ks ds => obtain ⟨xs, e, z, t⟩ := h; exact ⟨xs, e, z, t.less h2 q⟩
  | ins C dx ks ds => obtain ⟨xs, e, z, t⟩ := h; exact ⟨xs, e, z, t.less h2 q⟩
  | own x => exact h
  | set S n => exact h
  | gen r ds => obtain ⟨xs, e, z, t⟩ := h; exact ⟨xs, e, z, t.less h2 q⟩
  | tbl f q a =>
    obtain ⟨ea, ps, e, z, q⟩ := h
    refine ⟨ea, ps, e, z, fun pos cv hc => ?_⟩
    obtain ⟨c, e1, e2, e3, e4⟩ := q pos cv hc
    exact ⟨c, e1, e2, h2 _ e3, e4⟩
theorem refO_of {P : Addr → Prop} {G : Gp} {H : Hp} {o : GO} {ho : HO} (h : RelO K H G P o ho) : RefO G o := by
  cases o with
  | lst ds => obtain ⟨xs, e, z, t⟩ := h; exact refs_of t
  | dct ks ds => obtain ⟨xs, e, z, t⟩ := h; exact refs_of t
  | ins C dx ks ds => obtain ⟨xs, e, z, t⟩ := h; exact refs_of t
  | own x => trivial
  | set S n => trivial
  | gen r ds => obtain ⟨xs, e, z, t⟩ := h; exact refs_of t
  | tbl f q a => trivial
mutual
theorem refIn_mono {G G2 : Gp} (h : ∀ a o, G a = some o → ∃ o', G2 a = some o') : ∀ {d : D}, RefIn G d → RefIn G2 d
  | .non, _ => by simp only [RefIn]
  | .bl _, _ => by simp only [RefIn]
  | .int _, _ => by simp only [RefIn]
  | .str _, _ => by simp only [RefIn]
  | .ty _, _ => by simp only [RefIn]
  | .cl _, _ => by simp only [RefIn]
  | .exc a dd f e, q => by simp only [RefIn] at q ⊢; exact refIn_mono h q
  | .scr _, _ => by simp only [RefIn]
  | .ref a, q => by simp only [RefIn] at q ⊢; obtain ⟨o, e⟩ := q; exact h a o e
  | .lst ds, q => by simp only [RefIn] at q ⊢; exact refIns_mono h q
  | .tup ds, q => by simp only [RefIn] at q ⊢; exact refIns_mono h q
  | .dct ks ds, q => by simp only [RefIn] at q ⊢; exact refIns_mono h q
theorem refIns_mono {G G2 : Gp} (h : ∀ a o, G a = some o → ∃ o', G2 a = some o') : ∀ {ds : List D}, RefIns G ds → RefIns G2 ds
  | [], _ => by simp only [RefIns]
  | d :: ds, q => by simp only [RefIns] at q ⊢; exact ⟨refIn_mono h q.1, refIns_mono h q.2⟩
end
/-- at a def's end: what is handed back, and what stays owned -/
def Fz (G0 : Gp) (d : D) (G' : Gp) (d2 : D) (G2 : Gp) : Prop := ∀ (K : PySem.W.Frag) (P : Addr → Prop) (H0 H : Hp) (v : V), Wo K P G0 H0 → Step G0 H0 G' H → Wo K P G' H → Rep K H G' P d v → Step G0 H0 G2 H ∧ Wo K P G2 H ∧ Rep K H G2 P d2 v
theorem fz_id {G0 G' : Gp} {d : D} : Fz G0 d G' d G' := fun _ _ _ _ _ _ s w r => ⟨s, w, r⟩
/-- some new objects are let go -/
theorem fz_sub {G0 G' G2 : Gp} {d : D} (h1 : ∀ a o, G2 a = some o → G' a = some o) (h0 : ∀ a o, G0 a = some o → ∃ o', G2 a = some o') (hc : ∀ a o, G2 a = some o → RefO G2 o ∨ G0 a = some o) (hd : RefIn G2 d) : Fz G0 d G' d G2 := fun K P H0 H v w0 st w r => by
  have h2 : ∀ a, G' a = none → G2 a = none := fun a e => by
    cases q : G2 a with
    | none => rfl
    | some o => rw [h1 a o q] at e; cases e
  refine ⟨⟨fun a o e g => ⟨(st.keep a o e g).1, h2 a (st.keep a o e g).2⟩, h0⟩, ⟨fun a o e => ?_, fun a q => ?_⟩, r.less h2 hd⟩
  · obtain ⟨ho, e1, r1⟩ := w.own a o (h1 a o e)
    refine ⟨ho, e1, r1.less h2 ?_⟩
    rcases hc a o e with q | q
    · exact q
    · obtain ⟨ho0, e0, r0⟩ := w0.own a o q
      have := refO_of r0
      cases o with
      | lst ds => exact refIns_mono h0 this
      | dct ks ds => exact refIns_mono h0 this
      | ins C dx ks ds => exact refIns_mono h0 this
      | own x => trivial
      | set S n => trivial
      | gen r ds => exact refIns_mono h0 this
      | tbl f q a => trivial
  · obtain ⟨g, ho, e⟩ := w.prv a q
    exact ⟨h2 a g, ho, e⟩
/-- all new objects are let go -/
theorem fz_back {G0 G' : Gp} {d : D} (h : ∀ a o, G0 a = some o → G' a = some o) (hd : RefIn G0 d) : Fz G0 d G' d G0 := fz_sub h (fun a o e => ⟨o, e⟩) (fun a o e => .inr e) hd
/-- the end of a def's body -/
def fin (G0 : Gp) (Q : DK) : En := { nx := fun _ G' => ∃ d2 G2, Fz G0 .non G' d2 G2 ∧ Q d2 G2, rt := fun d G' => ∃ d2 G2, Fz G0 d G' d2 G2 ∧ Q d2 G2 }
/-- the slots at the entry -/
def startD (n : Nat) (ds : List D) : Sd := ds.map some ++ List.replicate (n - ds.length) none
theorem rl_start {P : Addr → Prop} {G : Gp} {H : Hp} {N : List Str} {ds : List D} {vs : List V} (w : Wo K P G H) (r : Reps K H G P ds vs) : Rl K P (startD N.length ds) G (L2.start N vs) H := by
  have l := r.length
  refine ⟨w, by unfold startD L2.start; simp [l], fun i d e => ?_⟩
  unfold startD at e
  unfold L2.start
  by_cases hi : i < ds.length
  · rw [List.getElem?_append_left (by simpa using hi), List.getElem?_map] at e
    obtain ⟨d', e1, e2⟩ := opt_map e
    cases e2
    obtain ⟨v, e3, r3⟩ := r.get e1
    exact ⟨v, by rw [List.getElem?_append_left (by simp; omega), List.getElem?_map, e3]; rfl, r3⟩
  · rw [List.getElem?_append_right (by simp; omega)] at e
    rw [List.getElem?_replicate] at e
    split at e <;> cases e
/-- no wish about what is raised -/
def y0 : Wx := ⟨fun _ _ _ _ => False⟩
/-- THE RULE for a def -/
theorem fk_ok {P : Program} {w : World} {K : PySem.W.Frag} {mg : Str → Option Value} {base : Heap} {x qual : Str} {params : Arguments} {body : List Stmt} {scope : Scope} {kws : List (Str × V)} {dvs : List V} {f : Addr} {fd : FuncData} {N ps : List Str} {k : Nat} {F : Sf} {es : ES}
    (FF : FunD K x qual params body scope dvs kws f fd) (S : FnScope N ps scope)
    (hJ : ∀ (cdv : Value) (A : Around) (outer : List Env) (s : Shared) (H : Hp) (E : XK), Room k (A.deeper (envOfC qual scope s.heap.objs.size f cdv)) → JSs (cxOf CX0 P w K mg base N qual scope f cdv A outer s H E).nox y0 body es)
    (hR : ∀ ds G Q, F ds G Q → es (fin G Q) (startD N.length ds) G) : FK P w K mg base (k + 1) f fd ps F := by
  refine FF.ok S (fun vs H Q E h => ?_) (fun cdv A outer s H vs Q E hr h => ?_)
  · exact h.1
  · obtain ⟨_, P', ds, G, Q', wo, r, hf, kk⟩ := h
    have j := hJ cdv A outer s H E hr
    refine ⟨_, PSs.nox j.ps, ?_⟩
    have hR' := hR ds G Q' hf
    refine j.ls P' (startD N.length ds) G (fin G Q') (L2.start N vs) H _ hR' (rl_start wo r) ⟨?_, ?_, ?_, ?_, ?_⟩
    · intro s' G' σ' H' st rl hq
      obtain ⟨d2, G2, fz, q2⟩ := hq
      obtain ⟨b1, b2, b3⟩ := fz K P' H H' .non wo st rl.wo rep_non
      exact kk d2 G2 .non H' b1 b2 b3 q2
    · intro d G' v H' st w' rp hq
      obtain ⟨d2, G2, fz, q2⟩ := hq
      obtain ⟨b1, b2, b3⟩ := fz K P' H H' v wo st w' rp
      exact kk d2 G2 v H' b1 b2 b3 q2
    · intro s' G' σ' H' st rl hq
      exact hq.elim
    · intro s' G' σ' H' st rl hq
      exact hq.elim
    · intro x s' G' cls d σ' H' st rl _ hq
      exact hq.elim
end
end DL
namespace DL
open PySem PySem.Spec PyProof.Rows L2
/-- a def of the text, called by its name: it keeps the promise F -/
structure Cal (P : Program) (w : World) (K : PySem.W.Frag) (mg : Str → Option Value) (base : Heap) (k : Nat) (x : Str) (ps : List Str) (F : Sf) : Prop where
  ex : ∃ f fd, FK P w K mg base k f fd ps F ∧ mg x = some (.ref f) ∧ PySem.W.keepIn K (.ref f) = true ∧ Binds K fd ps []
/-- a def as it stands behind the top -/
structure Df (K : PySem.W.Frag) (mg : Str → Option Value) (x : Str) (st : Stmt) : Prop where
  ex : ∃ f fd, FunD K x x (defArgs st) (defBody st) (defScope st) [] [] f fd ∧ mg x = some (.ref f)
section
variable {X : Cx}
theorem j_cal {K : PySem.W.Frag} {k : Nat} {ps : List Str} {F : Sf} {x : Str} {p pos : Pos} {e : Expr} {es : List Expr} {ea : EA} (c : Cal X.prog X.w K X.mg X.base k x ps F) (hr : Room k X.A) (hg : Gl X x)
    (ha : JA X (e :: es) ea) (hK : X.K = K := by rfl) (hlen : (e :: es).length = ps.length := by rfl) (hdb : (x == ("__debug__" : Str)) = false := by decide) (he : starEach (e :: es) X.env = (false, eval e X.env) :: starEach es X.env := by rfl) (hpl : (backTo pos (starEach es X.env)).any (·.1) = false := by rfl) : JE X (.Call (.Name x p) (e :: es) [] pos) (eCall F ea) := by
  subst hK
  obtain ⟨f, fd, h1, h2, h3, h4⟩ := c.ex
  exact j_call h1 hr hg h2 h3 h4 ha hlen hdb he hpl
/-- THE RULE for a def, by its name -/
theorem cal_ok {P : Program} {w : World} {K : PySem.W.Frag} {mg : Str → Option Value} {base : Heap} {x : Str} {st : Stmt} {N ps : List Str} {k : Nat} {F : Sf} {es : ES} (D : Df K mg x st) (S : FnScope N ps (defScope st))
    (hb : ∀ (kV doc pm : Value) (an : Option Addr) (cdv ct : Value) (us : List Value), us.length = ps.length → bindArgs (PySem.W.fnOf x x (defArgs st) (defBody st) (defScope st) .none kV doc pm an cdv ct) ⟨us, []⟩ = pure (ps.zip us))
    (hJ : ∀ (f : Addr) (cdv : Value) (A : Around) (outer : List Env) (s : Shared) (H : Hp) (E : XK), Room k (A.deeper (envOfC x (defScope st) s.heap.objs.size f cdv)) → JSs (cxOf CX0 P w K mg base N x (defScope st) f cdv A outer s H E).nox y0 (defBody st) es)
    (hR : ∀ ds G Q, F ds G Q → es (fin G Q) (startD N.length ds) G) : Cal P w K mg base (k + 1) x ps F := by
  obtain ⟨f, fd, h1, h2⟩ := D.ex
  exact ⟨f, fd, fk_ok h1 S (hJ f) hR, h2, h1.kp, h1.bindsN hb⟩
end
end DL
set_option Elab.async false
set_option linter.all false
set_option maxRecDepth 100000
set_option maxHeartbeats 4000000
namespace DL
open PySem PySem.Spec PyProof.Rows L2
section
variable {X : Cx} {K : PySem.W.Frag} {e : Expr} {te : TE} {ee : EE} {pos : Pos}
theorem js_setI {Y : Wx} {o i : Expr} {eo ei : EE} {p' : Pos} (he : JE X e ee) (ho : JE X o eo) (hi : JE X i ei)
    (ha : ∀ v, assign (.Subscript o i p') X.env v = (do let ov ← holding [v] (eval o X.env); let iv ← holding [v, ov] (eval i X.env); standAt p'; holding [v, ov, iv] (setItem ov iv v); release [v, ov, iv] []) := by intro _; rfl)
    (hs : swapsWithSole [.Subscript o i p'] e pos.line X.env = pure false := by rfl) (hw : swappedStores [.Subscript o i p'] e X.env = pure none := by rfl) (h1 : (assignEach [.Subscript o i p'] X.env).map (·.2) = [assign (.Subscript o i p') X.env] := by rfl) :
    JS X Y (.Assign [.Subscript o i p'] e pos) (sSetIx ee eo ei) := js_setIx he ho hi (ps_asg he.pe (pg_sub ho.pe hi.pe set_list ha) hs hw h1)
theorem js_asgTup {Y : Wx} {tg : Expr} {t : Tg} (he : JE X e ee) (hg : JG X tg t) (hs : swapsWithSole [tg] e pos.line X.env = pure false := by rfl) (hw : swappedStores [tg] e X.env = pure none := by rfl) (h1 : (assignEach [tg] X.env).map (·.2) = [assign tg X.env] := by rfl) :
    JS X Y (.Assign [tg] e pos) (sAsg ee t) := js_asgT he hg (ps_asg he.pe hg.pg hs hw h1)
/-- list(range(n)), list(range(a, b)) -/
@[simp] def eListRange (ea : EA) : EE := fun s G Q => ea s G fun xs G1 => match xs with
  | [.int n] => -(2 ^ 62) ≤ n ∧ n ≤ 16000000 ∧ Q (.lst (rngD 0 n.toNat)) G1
  | _ => False
end
theorem rngD_succ (lo : Int) (n : Nat) : rngD lo (n + 1) = .int lo :: rngD (lo + 1) n := by
  unfold rngD
  rw [List.range_succ_eq_map, List.map_cons, List.map_map]
  congr 1
  · simp
  · apply List.map_congr_left
    intro a _
    simp only [Function.comp_apply]
    congr 1
    omega
theorem rngD_zero (lo : Int) : rngD lo 0 = [] := rfl
/-- a comprehension that leaves the owned objects: over a list of things -/
theorem compW_map {α : Type} {g : α → D} {p : α → Bool} {f : α → D} {s0 : Sd} {t : Tg} {tt : ET} {te : EE} {Kp : Gp → Prop} {G : Gp} {Q : List D → Gp → Prop} (hK : Kp G) : ∀ (xs : List α) (acc : List D),
    (∀ x ∈ xs, ∃ s', asg t (g x) s0 = some s' ∧ (∀ R : Bool → Gp → Prop, R (p x) G → tt s' G R) ∧ (p x = true → ∀ R : DK, R (f x) G → te s' G R)) → Q (acc ++ (xs.filter p).map f) G → compW s0 t tt te Kp (xs.map g) acc G Q
  | [], acc, _, hq => by
    simp only [List.map_nil, compW]
    exact ⟨hK, by simpa using hq⟩
  | x :: xs, acc, h, hq => by
    simp only [List.map_cons, compW]
    refine ⟨hK, ?_⟩
    obtain ⟨s', e1, h1, h2⟩ := h x List.mem_cons_self
    simp only [e1]
    refine h1 _ ?_
    cases e : p x with
    | true =>
      refine h2 e _ ?_
      refine compW_map hK xs _ (fun y hy => h y (List.mem_cons_of_mem _ hy)) ?_
      rw [List.filter_cons_of_pos e] at hq
      simpa using hq
    | false =>
      refine compW_map hK xs _ (fun y hy => h y (List.mem_cons_of_mem _ hy)) ?_
      rw [List.filter_cons_of_neg (by simp [e])] at hq
      exact hq
/-- .. without a test -/
theorem compW_all {α : Type} {g : α → D} {f : α → D} {s0 : Sd} {t : Tg} {te : EE} {Kp : Gp → Prop} {G : Gp} {Q : List D → Gp → Prop} (hK : Kp G) (xs : List α) (acc : List D)
    (h : ∀ x ∈ xs, ∃ s', asg t (g x) s0 = some s' ∧ (∀ R : DK, R (f x) G → te s' G R)) (hq : Q (acc ++ xs.map f) G) : compW s0 t eYes te Kp (xs.map g) acc G Q :=
  compW_map (p := fun _ => true) hK xs acc (fun x hx => let ⟨s', e, k⟩ := h x hx; ⟨s', e, fun R r => r, fun _ => k⟩) (by rw [List.filter_eq_self.mpr (fun _ _ => rfl)]; exact hq)
theorem fin_id {G0 G' : Gp} {Q : DK} {d : D} (h : Q d G') : (fin G0 Q).rt d G' := ⟨d, G', fz_id, h⟩
theorem fin_back {G0 G' : Gp} {Q : DK} {d : D} (h : ∀ a o, G0 a = some o → G' a = some o) (hd : RefIn G0 d) (q : Q d G0) : (fin G0 Q).rt d G' := ⟨d, G0, fz_back h hd, q⟩
theorem fin_sub {G0 G' G2 : Gp} {Q : DK} {d : D} (h1 : ∀ a o, G2 a = some o → G' a = some o) (h0 : ∀ a o, G0 a = some o → ∃ o', G2 a = some o') (hc : ∀ a o, G2 a = some o → RefO G2 o ∨ G0 a = some o) (hd : RefIn G2 d) (q : Q d G2) : (fin G0 Q).rt d G' := ⟨d, G2, fz_sub h1 h0 hc hd, q⟩
/-- a new list is handed back frozen, other changed objects stay -/
theorem fz_lstS {G0 G' G2 : Gp} {p : Addr} {ds : List D} (h1 : ∀ a o, G2 a = some o → G' a = some o) (h0 : ∀ a o, G0 a = some o → ∃ o', G2 a = some o') (hc : ∀ a o, G2 a = some o → RefO G2 o ∨ G0 a = some o) (e : G' p = some (.lst ds)) (n : G2 p = none) (hd : RefIns G2 ds) : Fz G0 (.ref p) G' (.lst ds) G2 := fun K P H0 H v w0 st w r => by
  have h2 : ∀ a, G' a = none → G2 a = none := fun a e => by
    cases q : G2 a with
    | none => rfl
    | some o => rw [h1 a o q] at e; cases e
  obtain ⟨a1, a2, a3⟩ := fz_sub (d := .non) h1 h0 hc (by simp only [RefIn]) K P H0 H .non w0 st w rep_non
  refine ⟨a1, a2, ?_⟩
  unfold Rep at r
  obtain ⟨rfl, _⟩ := r
  obtain ⟨ho, e1, xs, rfl, z, q⟩ := w.own p _ e
  exact rep_lst n (fun pp => by rw [(w.prv p pp).1] at e; cases e) e1 z (q.less h2 hd)
theorem fin_lstS {G0 G' G2 : Gp} {Q : DK} {p : Addr} {ds : List D} (h1 : ∀ a o, G2 a = some o → G' a = some o) (h0 : ∀ a o, G0 a = some o → ∃ o', G2 a = some o') (hc : ∀ a o, G2 a = some o → RefO G2 o ∨ G0 a = some o) (e : G' p = some (.lst ds)) (n : G2 p = none) (hd : RefIns G2 ds) (q : Q (.lst ds) G2) : (fin G0 Q).rt (.ref p) G' := ⟨_, G2, fz_lstS h1 h0 hc e n hd, q⟩
mutual
def plainD : D → Bool
  | .ref _ => false
  | .exc _ _ _ _ => false
  | .lst ds => plainDs ds
  | .tup ds => plainDs ds
  | .dct _ ds => plainDs ds
  | _ => true
def plainDs : List D → Bool
  | [] => true
  | d :: ds => plainD d && plainDs ds
end
mutual
theorem refIn_plain {G : Gp} : ∀ {d : D}, plainD d = true → RefIn G d
  | .non, _ => by simp only [RefIn]
  | .bl _, _ => by simp only [RefIn]
  | .int _, _ => by simp only [RefIn]
  | .str _, _ => by simp only [RefIn]
  | .ty _, _ => by simp only [RefIn]
  | .cl _, _ => by simp only [RefIn]
  | .exc _ _ _ _, q => by simp [plainD] at q
  | .scr _, _ => by simp only [RefIn]
  | .ref a, q => by simp [plainD] at q
  | .lst ds, q => by simp only [plainD] at q; simp only [RefIn]; exact refIns_plain q
  | .tup ds, q => by simp only [plainD] at q; simp only [RefIn]; exact refIns_plain q
  | .dct ks ds, q => by simp only [plainD] at q; simp only [RefIn]; exact refIns_plain q
theorem refIns_plain {G : Gp} : ∀ {ds : List D}, plainDs ds = true → RefIns G ds
  | [], _ => by simp only [RefIns]
  | d :: ds, q => by
    simp only [plainDs, Bool.and_eq_true] at q
    simp only [RefIns]
    exact ⟨refIn_plain q.1, refIns_plain q.2⟩
end
theorem plainDs_map {α : Type} {f : α → D} (h : ∀ x, plainD (f x) = true) : ∀ xs : List α, plainDs (xs.map f) = true
  | [] => rfl
  | x :: xs => by simp only [List.map_cons, plainDs, h x, plainDs_map h xs, Bool.and_self]
end DL
set_option Elab.async false
set_option linter.all false
set_option maxRecDepth 100000
set_option maxHeartbeats 4000000
namespace DL
open PySem PySem.Spec PyProof.Rows L2
def stO (x y z : Int) : GO := .lst [.int x, .int y, .int z]
structure Ok3 (x y z : Int) : Prop where
  x0 : 0 ≤ x
  y0 : 0 ≤ y
  y1 : y < 2147483647
  z0 : 0 ≤ z
/-- a divisor that may be drawn by -/
def Wd (m : Int) : Prop := 0 < m ∧ m.natAbs.log2 < 9000
theorem wd_small {m : Int} (h : 0 < m) (h2 : m < 2 ^ 8999) : Wd m := ⟨h, by
  have e : m.natAbs ≠ 0 := by omega
  rw [Nat.log2_lt e]
  have : ((m.natAbs : Nat) : Int) < ((2 ^ 9000 : Nat) : Int) := by
    rw [Int.natAbs_of_nonneg (by omega)]
    refine Int.lt_of_lt_of_le h2 ?_
    decide +kernel
  exact Int.ofNat_lt.mp this⟩
theorem gput_eq {G : Gp} {a : Addr} {o : GO} (h : G a = some o) : gput G a o = G := by
  funext b
  by_cases e : b = a
  · subst e; rw [gput_same, h]
  · rw [gput_ne e]
def F__law_take : Sf := fun ds G Q => ∃ a many x y z, ds = [.ref a, .int many] ∧ G a = some (stO x y z) ∧ Ok3 x y z ∧ Wd many ∧
  ∀ r x' y' z', Ok3 x' y' z' → 0 ≤ r → r < many → Q (.int r) (gput G a (stO x' y' z'))
theorem cmul_r {i j : Int} (h : -(2 ^ 64) < j) (h2 : j < 2 ^ 64) : CMul i j := .inr ⟨h, h2⟩
theorem cmul_l {i j : Int} (h : -(2 ^ 64) < i) (h2 : i < 2 ^ 64) : CMul i j := .inl ⟨h, h2⟩
def r__law_take_L1 : ES :=
  (sSeq (sSetIx (eOp oAdd (eOp oIx (eVar 0) (eC (.int 2))) (eC (.int 1))) (eVar 0) (eC (.int 2)))
  (sSeq (sSetIx (eOp oMod (eOp oAdd (eOp oMul (eOp oIx (eVar 0) (eC (.int 1))) (eC (.int 48271))) (eOp oMul (eC (.int 11)) (eOp oIx (eVar 0) (eC (.int 2))))) (eC (.int 2147483647))) (eVar 0) (eC (.int 1)))
  (sAsg (eOp oAdd (eOp oMul (eVar 3) (eC (.int 2147483629))) (eOp oMod (eOp oMul (eOp oIx (eVar 0) (eC (.int 1))) (eOp oIx (eVar 0) (eC (.int 1)))) (eC (.int 2147483629)))) (.nm 3))))
def r__law_take : ES :=
  (sSeq (sIf (eT (eOp oGt (eOp oIx (eVar 0) (eC (.int 0))) (eC (.int 0)))) (sSeq (sAsg (eOp oMod (eOp oIx (eVar 0) (eC (.int 0))) (eVar 1)) (.nm 2))
  (sSeq (sSetIx (eOp oDivW (eOp oIx (eVar 0) (eC (.int 0))) (eVar 1)) (eVar 0) (eC (.int 0)))
  (sRet (eVar 2)))) sNext)
  (sSeq (sAsg (eC (.int 0)) (.nm 3))
  (sSeq (sFor (iR1 (eCons (eOp oAdd (eC (.int 1)) (eCB cInt1 (eCons (eOp oGt (eVar 1) (eOp oPow (eC (.int 10)) (eC (.int 6)))) eNil))) eNil)) (.nm 4) r__law_take_L1)
  (sRet (eOp oMod (eOp oDivW (eVar 3) (eC (.int 16))) (eVar 1))))))
theorem take_loop {G : Gp} {a : Addr} {N : En} {many : Int} : ∀ (n : Nat) (lo : Int) (o3 : Int) (o4 : Option D) (x y z : Int), Ok3 x y z → 0 ≤ o3 → (∀ o3 o4 x y z, Ok3 x y z → 0 ≤ o3 → N.nx [some (.ref a), some (.int many), none, some (.int o3), o4] (gput G a (stO x y z))) →
    forW (.nm 4) r__law_take_L1 (fun _ => True) N (rngD lo n) [some (.ref a), some (.int many), none, some (.int o3), o4] (gput G a (stO x y z)) := by
  intro n
  induction n with
  | zero => intro lo o3 o4 x y z ok h0 k; simp only [rngD_zero, forW, true_and]; exact k _ _ _ _ _ ok h0
  | succ n ih =>
    intro lo o3 o4 x y z ok h0 k
    rw [rngD_succ]
    obtain ⟨hx, hy, hy1, hz⟩ := ok
    simp [forW, sSeq, r__law_take_L1, gput_same, gput_gput, stO, atI, ixN]
    refine ⟨cmul_r (by decide) (by decide), cmul_l (by decide) (by decide), cmul_r (by decide) (by decide), cmul_r (by omega) (by omega), ?_⟩
    refine ih _ _ _ _ _ _ ⟨hx, by omega, by omega, by omega⟩ ?_ k
    have := Int.emod_nonneg ((y * 48271 + 11 * (z + 1)) % 2147483647 * ((y * 48271 + 11 * (z + 1)) % 2147483647)) (show (2147483629 : Int) ≠ 0 by decide)
    omega
theorem d__law_take (ds : List D) (G : Gp) (Q : DK) (h : F__law_take ds G Q) : r__law_take (fin G Q) (startD 5 ds) G := by
  obtain ⟨a, many, x, y, z, rfl, hG, ok, wd, k⟩ := h
  obtain ⟨hx, hy, hy1, hz⟩ := ok
  have hG' : gput G a (stO x y z) = G := gput_eq hG
  simp [sSeq, r__law_take, startD, hG, stO, atI, ixN]
  split
  · rename_i h0
    refine ⟨wd.1, wd, fin_id (k _ _ _ _ ⟨Int.ediv_nonneg hx (Int.le_of_lt wd.1), hy, hy1, hz⟩ (Int.emod_nonneg _ (by have := wd.1; omega)) (Int.emod_lt_of_pos _ wd.1))⟩
  · refine ⟨⟨by decide, by decide, by decide⟩, by split <;> decide, by split <;> decide, ?_⟩
    have := take_loop (G := G) (a := a) (many := many) (N := { nx := sRet (eOp oMod (eOp oDivW (eVar 3) (eC (D.int 16))) (eVar 1)) (fin G Q), rt := (fin G Q).rt, bk := (fin G Q).bk, ct := (fin G Q).ct, xr := (fin G Q).xr }) (1 + if 1000000 < many then 1 else 0 : Int).toNat 0 0 none x y z ⟨hx, hy, hy1, hz⟩ (by decide) ?_
    · rw [hG'] at this
      simpa [sSeq] using this
    · intro o3 o4 x y z ok h0
      simp
      exact ⟨⟨by decide, by decide⟩, wd.1, fin_id (k _ _ _ _ ok (Int.emod_nonneg _ (by have := wd.1; omega)) (Int.emod_lt_of_pos _ wd.1))⟩
def r__law_begun : ES :=
  (sSeq (sAsg (eC (.int 0)) (.nm 2))
  (sSeq (sIf (eT (eOp oLt (eVar 1) (eCB cLen (eCons (eVar 0) eNil)))) (sAsg (eOp oIx (eVar 0) (eVar 1)) (.nm 2)) sNext)
  (sSeq (sAsg (eCB cMax2 (eCons (eVar 2) (eCons (eOp oSub (eUn oNeg (eC (.int 1))) (eVar 2)) eNil))) (.nm 3))
  (sSeq (sAsg (eOp oMod (eOp oAdd (eOp oAdd (eVar 3) (eOp oMul (eOp oMul (eC (.int 104729)) (eVar 1)) (eVar 1))) (eC (.int 7))) (eC (.int 2147483647))) (.nm 4))
  (sSeq (sIf (eT (eOp oLt (eVar 3) (eOp oPow (eC (.int 10)) (eC (.int 18))))) (sAsg (eC (.int 0)) (.nm 3)) sNext)
  (sRet (eLstO (eCons (eVar 3) (eCons (eVar 4) (eCons (eC (.int 0)) eNil))))))))))
def F__law_begun : Sf := fun ds G Q => ∃ (ns : List Int) (k : Int), ds = [.scr ns, .int k] ∧ 0 ≤ k ∧ k ≤ 1000 ∧ ∀ p x y z, G p = none → Ok3 x y z → Q (.ref p) (gput G p (stO x y z))
theorem d__law_begun (ds : List D) (G : Gp) (Q : DK) (h : F__law_begun ds G Q) : r__law_begun (fin G Q) (startD 5 ds) G := by
  obtain ⟨ns, k, rfl, h0, h1, kk⟩ := h
  have key : ∀ c : Int, 0 ≤ (if -1 - c > c then -1 - c else c) := fun c => by split <;> omega
  have fin3 : ∀ c : Int, 0 ≤ c → ∀ m : Int, 0 ≤ (if c < 1000000000000000000 then 0 else c) ∧ 0 ≤ m % 2147483647 ∧ m % 2147483647 < 2147483647 := fun c hc m => ⟨by split <;> omega, by omega, by omega⟩
  have body : ∀ c : Int, sSeq (sAsg (eCB cMax2 (eCons (eVar 2) (eCons (eOp oSub (eUn oNeg (eC (.int 1))) (eVar 2)) eNil))) (.nm 3)) (sSeq (sAsg (eOp oMod (eOp oAdd (eOp oAdd (eVar 3) (eOp oMul (eOp oMul (eC (.int 104729)) (eVar 1)) (eVar 1))) (eC (.int 7))) (eC (.int 2147483647))) (.nm 4)) (sSeq (sIf (eT (eOp oLt (eVar 3) (eOp oPow (eC (.int 10)) (eC (.int 18))))) (sAsg (eC (.int 0)) (.nm 3)) sNext) (sRet (eLstO (eCons (eVar 3) (eCons (eVar 4) (eCons (eC (.int 0)) eNil))))))) (fin G Q) [some (.scr ns), some (.int k), some (.int c), none, none] G := by
    intro c
    have hc := key c
    simp [sSeq]
    refine ⟨cmul_l (by decide) (by decide), cmul_r (by omega) (by omega), ⟨by decide, by decide, by decide⟩, ?_⟩
    generalize (if -1 - c > c then -1 - c else c) = m at *
    split
    · exact ⟨by decide, fun p hp => fin_id (kk p _ _ _ hp ⟨by omega, by omega, by omega, by omega⟩)⟩
    · exact ⟨by decide, fun p hp => fin_id (kk p _ _ _ hp ⟨by omega, by omega, by omega, by omega⟩)⟩
  simp [sSeq, r__law_begun, startD]
  split
  · rename_i hlt
    have hk : k.toNat < ns.length := by omega
    have e : atI (ns.map D.int) k = some (.int ns[k.toNat]) := by
      have := atI_nat (xs := ns.map D.int) (j := k.toNat) (v := .int ns[k.toNat]) (by rw [List.getElem?_map, List.getElem?_eq_getElem hk]; rfl)
      rwa [Int.toNat_of_nonneg h0] at this
    rw [e]
    have := body ns[k.toNat]
    simpa [sSeq] using this
  · have := body 0
    simpa [sSeq] using this
end DL
set_option Elab.async false
set_option linter.all false
set_option maxRecDepth 100000
set_option maxHeartbeats 4000000
namespace DL
open PySem PySem.Spec PyProof.Rows L2
theorem take_ok {a : Addr} {m x y z : Int} {G : Gp} {Q : DK} (hG : G a = some (stO x y z)) (ok : Ok3 x y z) (w : Wd m) (k : ∀ r x y z, Ok3 x y z → 0 ≤ r → r < m → Q (.int r) (gput G a (stO x y z))) : F__law_take [.ref a, .int m] G Q := ⟨a, m, x, y, z, rfl, hG, ok, w, k⟩
theorem wd_of {m : Int} (h : 0 < m) (h2 : m ≤ 10000000000000000000000000000000000000000000000000000000000000) : Wd m := wd_small h (Int.lt_of_le_of_lt h2 (by decide +kernel))
/-- an item of a written list -/
theorem at_mem {ds : List D} {i : Int} (h0 : 0 ≤ i) (h1 : i < ds.length) : ∃ d, atI ds i = some d ∧ d ∈ ds := by
  have hi : i.toNat < ds.length := by omega
  have := atI_nat (xs := ds) (j := i.toNat) (List.getElem?_eq_getElem hi)
  rw [Int.toNat_of_nonneg h0] at this
  exact ⟨_, this, List.getElem_mem hi⟩
theorem gput_swap {G : Gp} {a p : Addr} {s s' l : GO} (h : p ≠ a) : gput (gput (gput G a s) p l) a s' = gput (gput G a s') p l := by
  funext b
  unfold gput
  by_cases e : b = a
  · subst e; simp [Ne.symm h]
  · by_cases e2 : b = p <;> simp [e, e2, h]
structure Stretch where
  name : Str
  b : Int
  e : Int
  w : Int
def Stretch.d (s : Stretch) : D := .tup [.str s.name, .int s.b, .int s.e, .int s.w]
structure NameOk (x : Str) : Prop where
  l1 : 1 ≤ x.length
  l8 : x.length ≤ 8
  az : ∀ c ∈ x.cps.toList, 97 ≤ c ∧ c ≤ 122
structure SOk (s : Stretch) : Prop where
  nm : NameOk s.name
  lo : -1000000000000 ≤ s.b
  lt : s.b < s.e
  hi : s.e ≤ 1000000000000
  w0 : 0 ≤ s.w
  w1 : s.w ≤ 1000000000000
structure BOk (bk : List Stretch) : Prop where
  len : bk.length ≤ 24
  all : ∀ s ∈ bk, SOk s
  nd : (bk.map Stretch.name).Nodup
theorem Stretch.plain (s : Stretch) : plainD s.d = true := by simp [Stretch.d, plainD, plainDs]
theorem plain_book (bk : List Stretch) : plainDs (bk.map Stretch.d) = true := plainDs_map Stretch.plain bk
def r__law_name_L1 : ES :=
  (sAsg (eOp oAdd (eVar 3) (eOp oIx (eVar 2) (eCall F__law_take (eCons (eVar 0) (eCons (eC (.int 26)) eNil))))) (.nm 3))
def r__law_name : ES :=
  (sSeq (sAsg (eC (.str "abcdefghijklmnopqrstuvwxyz")) (.nm 2))
  (sSeq (sAsg (eC (.str "")) (.nm 3))
  (sSeq (sFor (iR1 (eCons (eCall F__law_take (eCons (eVar 0) (eCons (eC (.int 8)) eNil))) eNil)) (.nm 4) r__law_name_L1)
  (sRet (eOp oAdd (eVar 3) (eOp oIx (eVar 2) (eVar 1)))))))
def Lt : Str := "abcdefghijklmnopqrstuvwxyz"
theorem lt_cps : Lt.cps.toList = (List.range 26).map (97 + ·) := by decide +kernel
theorem lt_len : Lt.length = 26 := by decide +kernel
theorem lt_at {i : Int} (h0 : 0 ≤ i) (h1 : i < 26) : atI Lt.cps.toList i = some (97 + i.toNat) := by
  rw [lt_cps]
  have := atI_nat (xs := (List.range 26).map (97 + ·)) (j := i.toNat) (v := 97 + i.toNat) (by rw [List.getElem?_map, List.getElem?_range (by omega)]; rfl)
  rwa [Int.toNat_of_nonneg h0] at this
theorem str_app_len (x y : Str) : (x ++ y).length = x.length + y.length := by
  show (x.cps ++ y.cps).size = x.cps.size + y.cps.size
  simp
theorem str_app_cps (x y : Str) : (x ++ y).cps.toList = x.cps.toList ++ y.cps.toList := by
  show (x.cps ++ y.cps).toList = _
  simp
theorem str_one_len (c : Nat) : (⟨#[c]⟩ : Str).length = 1 := rfl
def F__law_name : Sf := fun ds G Q => ∃ a k x y z, ds = [.ref a, .int k] ∧ G a = some (stO x y z) ∧ Ok3 x y z ∧ 0 ≤ k ∧ k < 26 ∧
  ∀ nm x' y' z', Ok3 x' y' z' → NameOk nm → nm.cps.toList.getLast? = some (97 + k.toNat) → Q (.str nm) (gput G a (stO x' y' z'))
theorem name_loop {G : Gp} {a : Addr} {N : En} {k : Int} : ∀ (n : Nat) (lo : Int) (sp : Str) (o4 : Option D) (x y z : Int), Ok3 x y z → sp.length + n ≤ 7 → (∀ c ∈ sp.cps.toList, 97 ≤ c ∧ c ≤ 122) →
    (∀ (sp : Str) o4 x y z, Ok3 x y z → sp.length ≤ 7 → (∀ c ∈ sp.cps.toList, 97 ≤ c ∧ c ≤ 122) → N.nx [some (.ref a), some (.int k), some (.str Lt), some (.str sp), o4] (gput G a (stO x y z))) →
    forW (.nm 4) r__law_name_L1 (fun _ => True) N (rngD lo n) [some (.ref a), some (.int k), some (.str Lt), some (.str sp), o4] (gput G a (stO x y z)) := by
  intro n
  induction n with
  | zero => intro lo sp o4 x y z ok h0 h1 kk; simp only [rngD_zero, forW, true_and]; exact kk _ _ _ _ _ ok (by omega) h1
  | succ n ih =>
    intro lo sp o4 x y z ok h0 h1 kk
    rw [rngD_succ]
    simp [forW, sSeq, r__law_name_L1]
    refine take_ok gput_same ok (wd_of (by decide) (by decide)) fun r x' y' z' ok' hr0 hr1 => ?_
    simp [gput_gput, lt_at hr0 hr1]
    refine ⟨by rw [lt_len]; decide, by rw [str_one_len]; exact Nat.le_trans (by omega) line_ge, ?_⟩
    refine ih _ _ _ _ _ _ ok' (by rw [str_app_len, str_one_len]; omega) ?_ kk
    intro c hc
    rw [str_app_cps] at hc
    rcases List.mem_append.mp hc with q | q
    · exact h1 c q
    · simp at q; omega
theorem d__law_name (ds : List D) (G : Gp) (Q : DK) (h : F__law_name ds G Q) : r__law_name (fin G Q) (startD 5 ds) G := by
  obtain ⟨a, k, x, y, z, rfl, hG, ok, h0, h1, kk⟩ := h
  simp [sSeq, r__law_name, startD]
  refine take_ok hG ok (wd_of (by decide) (by decide)) fun r x' y' z' ok' hr0 hr1 => ?_
  simp
  refine ⟨by omega, by omega, ?_⟩
  refine name_loop (G := G) (k := k) r.toNat 0 "" none x' y' z' ok' (by show 0 + r.toNat ≤ 7; omega) (fun c hc => by rw [show (Str.ofString "").cps.toList = [] by decide +kernel] at hc; cases hc) ?_
  intro sp o4 x y z ok hl hc
  simp [lt_at h0 h1]
  refine ⟨by rw [lt_len]; decide, by rw [str_one_len]; exact Nat.le_trans (by omega) line_ge, fin_id (kk _ _ _ _ ok ⟨?_, ?_, ?_⟩ ?_)⟩
  · rw [str_app_len, str_one_len]; omega
  · rw [str_app_len, str_one_len]; omega
  · intro c q
    rw [str_app_cps] at q
    rcases List.mem_append.mp q with q | q
    · exact hc c q
    · simp at q; omega
  · rw [str_app_cps]; simp
end DL
set_option Elab.async false
set_option linter.all false
set_option maxRecDepth 100000
set_option maxHeartbeats 4000000
namespace DL
open PySem PySem.Spec PyProof.Rows L2
def r__law_book_L1 : ES :=
  (sSeq (sAsg (eCall F__law_take (eCons (eVar 0) (eCons (eVar 2) eNil))) (.nm 7))
  (sSeq (sAsg (eOp oAdd (eOp oAdd (eVar 7) (eC (.int 1))) (eCall F__law_take (eCons (eVar 0) (eCons (eVar 2) eNil)))) (.nm 8))
  (sSeq (sAsg (eCall F__law_take (eCons (eVar 0) (eCons (eOp oIx (eLst (eCons (eC (.int 4)) (eCons (eC (.int 12)) (eCons (eC (.int 100)) (eCons (eOp oAdd (eOp oPow (eC (.int 10)) (eC (.int 12))) (eC (.int 1))) eNil))))) (eCall F__law_take (eCons (eVar 0) (eCons (eC (.int 4)) eNil)))) eNil))) (.nm 9))
  (sSeq (sAsg (eTup (eCons (eOp oAdd (eVar 4) (eOp oMul (eVar 3) (eVar 7))) (eCons (eOp oAdd (eVar 4) (eOp oMul (eVar 3) (eVar 8))) eNil))) (.nm 10))
  (sSeq (sIf (eAnd (eT (eOp oGt (eVar 6) (eC (.int 0)))) (eT (eOp oEq (eCall F__law_take (eCons (eVar 0) (eCons (eC (.int 6)) eNil))) (eC (.int 0))))) (sAsg (eSlT (eOp oIx (eVar 5) (eUn oNeg (eC (.int 1)))) (ePart (eC (.int 1))) (ePart (eC (.int 3)))) (.nm 10)) sNext)
  (sDrop (eBm mApp (eVar 5) (eCons (eTup (eCons (eCall F__law_name (eCons (eVar 0) (eCons (eVar 6) eNil))) (eCons (eOp oIx (eVar 10) (eC (.int 0))) (eCons (eOp oIx (eVar 10) (eC (.int 1))) (eCons (eVar 9) eNil))))) eNil))))))))
def r__law_book : ES :=
  (sSeq (sAsg (eOp oIx (eLst (eCons (eC (.int 3)) (eCons (eC (.int 6)) (eCons (eC (.int 9)) (eCons (eC (.int 14)) eNil))))) (eCall F__law_take (eCons (eVar 0) (eCons (eC (.int 4)) eNil)))) (.nm 2))
  (sSeq (sAsg (eOp oAdd (eC (.int 1)) (eCall F__law_take (eCons (eVar 0) (eCons (eOp oIx (eLst (eCons (eC (.int 1)) (eCons (eC (.int 1)) (eCons (eC (.int 7)) (eCons (eOp oPow (eC (.int 10)) (eC (.int 10))) eNil))))) (eCall F__law_take (eCons (eVar 0) (eCons (eC (.int 4)) eNil)))) eNil)))) (.nm 3))
  (sSeq (sAsg (eOp oIx (eLst (eCons (eC (.int 0)) (eCons (eUn oNeg (eC (.int 3))) (eCons (eUn oNeg (eOp oPow (eC (.int 10)) (eC (.int 12)))) (eCons (eOp oSub (eOp oPow (eC (.int 10)) (eC (.int 12))) (eOp oMul (eC (.int 28)) (eVar 3))) eNil))))) (eCall F__law_take (eCons (eVar 0) (eCons (eC (.int 4)) eNil)))) (.nm 4))
  (sSeq (sAsg (eLstO eNil) (.nm 5))
  (sSeq (sFor (iR1 (eCons (eCall F__law_take (eCons (eVar 0) (eCons (eOp oAdd (eVar 1) (eC (.int 1))) eNil))) eNil)) (.nm 6) r__law_book_L1)
  (sRet (eVar 5)))))))
/-- the drawn names end in unlike letters -/
def LastAt (bk : List Stretch) : Prop := ∀ (j : Nat) (s : Stretch), bk[j]? = some s → s.name.cps.toList.getLast? = some (97 + j)
theorem last_nodup {bk : List Stretch} (h : LastAt bk) : (bk.map Stretch.name).Nodup := by
  rw [List.nodup_iff_pairwise_ne, List.pairwise_map, List.pairwise_iff_getElem]
  intro i j hi hj hij e
  have h1 := h i _ (List.getElem?_eq_getElem hi)
  have h2 := h j _ (List.getElem?_eq_getElem hj)
  rw [e, h2] at h1
  have := Option.some.inj h1
  omega
def F__law_book : Sf := fun ds G Q => ∃ a most x y z, ds = [.ref a, .int most] ∧ G a = some (stO x y z) ∧ Ok3 x y z ∧ 0 ≤ most ∧ most ≤ 24 ∧
  ∀ (bk : List Stretch) x' y' z', Ok3 x' y' z' → BOk bk → (bk.length : Int) ≤ most → Q (.lst (bk.map Stretch.d)) (gput G a (stO x' y' z'))
theorem span_ok {u b e low : Int} (hu : 1 ≤ u) (hu2 : u ≤ 10000000000) (hb : 0 ≤ b) (he : b + 1 ≤ e) (he2 : e ≤ 27) (hl : -1000000000000 ≤ low) (hl2 : low + 28 * u ≤ 1000000000000 ∨ low ≤ 0) :
    -1000000000000 ≤ low + u * b ∧ low + u * b < low + u * e ∧ low + u * e ≤ 1000000000000 := by
  have h1 : 0 ≤ u * b := Int.mul_nonneg (by omega) hb
  have h2 : u * (b + 1) ≤ u * e := Int.mul_le_mul_of_nonneg_left he (by omega)
  have h3 : u * e ≤ u * 27 := Int.mul_le_mul_of_nonneg_left he2 (by omega)
  rw [Int.mul_add, Int.mul_one] at h2
  omega
theorem book_loop {G : Gp} {a p : Addr} {N : En} {most size u low : Int} (hp : p ≠ a) (hz : 3 ≤ size) (hz2 : size ≤ 14) (hu : 1 ≤ u) (hu2 : u ≤ 10000000000) (hl : -1000000000000 ≤ low) (hl2 : low + 28 * u ≤ 1000000000000 ∨ low ≤ 0) (hm : most ≤ 24) :
    ∀ (n : Nat) (bk : List Stretch) (o6 o7 o8 o9 o10 : Option D) (x y z : Int), Ok3 x y z → (∀ s ∈ bk, SOk s) → LastAt bk → (bk.length : Int) + n ≤ most →
    (∀ (bk : List Stretch) (o6 o7 o8 o9 o10 : Option D) (x y z : Int), Ok3 x y z → (∀ s ∈ bk, SOk s) → LastAt bk → (bk.length : Int) ≤ most → N.nx [some (.ref a), some (.int most), some (.int size), some (.int u), some (.int low), some (.ref p), o6, o7, o8, o9, o10] (gput (gput G a (stO x y z)) p (.lst (bk.map Stretch.d)))) →
    forW (.nm 6) r__law_book_L1 (fun _ => True) N (rngD bk.length n) [some (.ref a), some (.int most), some (.int size), some (.int u), some (.int low), some (.ref p), o6, o7, o8, o9, o10] (gput (gput G a (stO x y z)) p (.lst (bk.map Stretch.d))) := by
  intro n
  have ha : ∀ (l : List Stretch) (x y z : Int), gput (gput G a (stO x y z)) p (.lst (l.map Stretch.d)) a = some (stO x y z) := fun l x y z => by rw [gput_ne hp.symm, gput_same]
  induction n with
  | zero => intro bk o6 o7 o8 o9 o10 x y z ok h1 h2 h3 k; simp only [rngD_zero, forW, true_and]; exact k _ _ _ _ _ _ _ _ _ ok h1 h2 (by omega)
  | succ n ih =>
    intro bk o6 o7 o8 o9 o10 x y z ok h1 h2 h3 k
    rw [rngD_succ]
    simp [forW, sSeq, r__law_book_L1]
    refine take_ok (ha _ _ _ _) ok (wd_of (by omega) (by omega)) fun b x y z ok hb0 hb1 => ?_
    simp only [gput_swap hp]
    refine take_ok (ha _ _ _ _) ok (wd_of (by omega) (by omega)) fun e x y z ok he0 he1 => ?_
    simp only [gput_swap hp]
    refine ⟨⟨by decide, by decide, by decide⟩, by decide, ?_⟩
    refine take_ok (ha _ _ _ _) ok (wd_of (by decide) (by decide)) fun i x y z ok hi0 hi1 => ?_
    obtain ⟨d, ed, md⟩ := at_mem (ds := [D.int 4, D.int 12, D.int 100, D.int (1000000000000 + 1)]) hi0 (by simpa using hi1)
    obtain ⟨mw, rfl, hmw, hmw2⟩ : ∃ mw, d = .int mw ∧ 0 < mw ∧ mw ≤ 1000000000001 := by
      simp at md
      rcases md with rfl | rfl | rfl | rfl <;> exact ⟨_, rfl, by decide, by decide⟩
    simp only [gput_swap hp]
    have ed' : atI [D.int 4, D.int 12, D.int 100, D.int 1000000000001] i = some (.int mw) := ed
    simp [ed']
    refine take_ok (ha _ _ _ _) ok (wd_of (by omega) (by omega)) fun w x y z ok hw0 hw1 => ?_
    simp only [gput_swap hp]
    have sp := span_ok (b := b) (e := b + 1 + e) hu hu2 hb0 (by omega) (by omega) hl hl2
    refine ⟨cmul_l (by omega) (by omega), cmul_l (by omega) (by omega), Nat.le_trans (by decide) line_ge, ?_⟩
    -- the end of the turn, for any span that is one
    have tail : ∀ (B E x y z : Int) (nm : Str), Ok3 x y z → -1000000000000 ≤ B → B < E → E ≤ 1000000000000 → NameOk nm → nm.cps.toList.getLast? = some (97 + bk.length) →
        forW (.nm 6) r__law_book_L1 (fun _ => True) N (rngD (bk.length + 1) n) [some (.ref a), some (.int most), some (.int size), some (.int u), some (.int low), some (.ref p), some (.int bk.length), some (.int b), some (.int (b + 1 + e)), some (.int w), some (.tup [.int B, .int E])] (gput (gput G a (stO x y z)) p (.lst (bk.map Stretch.d ++ [.tup [.str nm, .int B, .int E, .int w]]))) := by
      intro B E x y z nm ok q1 q2 q3 hn hlast
      have e1 : bk.map Stretch.d ++ [D.tup [.str nm, .int B, .int E, .int w]] = (bk ++ [(⟨nm, B, E, w⟩ : Stretch)]).map Stretch.d := by simp [Stretch.d]
      rw [e1]
      have e2 : (bk.length : Int) + 1 = ((bk ++ [(⟨nm, B, E, w⟩ : Stretch)]).length : Nat) := by simp
      rw [e2]
      refine ih _ _ _ _ _ _ _ _ _ ok ?_ ?_ (by rw [← e2]; omega) k
      · intro s hs
        rcases List.mem_append.mp hs with q | q
        · exact h1 s q
        · simp at q; subst q; exact ⟨hn, q1, q2, q3, hw0, by show w ≤ _; omega⟩
      · intro j s hj
        by_cases hlt : j < bk.length
        · rw [List.getElem?_append_left hlt] at hj; exact h2 j s hj
        · rw [List.getElem?_append_right (by omega)] at hj
          have hj0 : j - bk.length = 0 := by
            rcases Nat.eq_zero_or_pos (j - bk.length) with q | q
            · exact q
            · rw [List.getElem?_eq_none (by simp; omega)] at hj; cases hj
          rw [hj0] at hj
          cases hj
          have : j = bk.length := by omega
          subst this
          exact hlast
    have room : (bk.map Stretch.d).length < sizeLine := Nat.lt_of_le_of_lt (by rw [List.length_map]; omega : (bk.map Stretch.d).length ≤ 24) (by decide)
    have rm4 : 4 ≤ sizeLine := by decide
    by_cases hk : 0 < bk.length
    · simp [hk]
      refine take_ok (ha _ _ _ _) ok (wd_of (by decide) (by decide)) fun c x y z ok hc0 hc1 => ?_
      simp only [gput_swap hp]
      refine ⟨rfl, rfl, ?_⟩
      have hpos : 0 < bk.length := by omega
      have hl : atI (bk.map Stretch.d) (-1) = some (bk[bk.length - 1]'(by omega)).d := by
        have ec : bk = bk.dropLast ++ [bk[bk.length - 1]'(by omega)] := by
          rw [← List.getLast_eq_getElem (List.ne_nil_of_length_pos hpos), List.dropLast_concat_getLast]
        have : bk.map Stretch.d = bk.dropLast.map Stretch.d ++ [(bk[bk.length - 1]'(by omega)).d] := by
          conv => lhs; rw [ec]
          simp
        rw [this]
        exact atI_last _ _
      have sk := h1 _ (List.getElem_mem (show bk.length - 1 < bk.length by omega))
      generalize bk[bk.length - 1]'(by omega) = s at hl sk
      cases hc : (PyData.int c).eqv (PyData.int 0) with
      | true =>
        simp [hl, gput_same, Stretch.d, cutD, HT.sIx]
        refine ⟨a, _, x, y, z, rfl, ha _ _ _ _, ok, by omega, by omega, fun nm x y z ok hn hlast => ?_⟩
        simp [gput_swap hp, gput_same, gput_gput, atI, ixN]
        exact ⟨rm4, by simpa using room, tail s.b s.e x y z nm ok sk.lo sk.lt sk.hi hn (by simpa using hlast)⟩
      | false =>
        simp [gput_same]
        refine ⟨a, _, x, y, z, rfl, ha _ _ _ _, ok, by omega, by omega, fun nm x y z ok hn hlast => ?_⟩
        simp [gput_swap hp, gput_same, gput_gput, atI, ixN]
        exact ⟨rm4, by simpa using room, tail _ _ x y z nm ok sp.1 sp.2.1 sp.2.2 hn (by simpa using hlast)⟩
    · simp [hk, gput_same]
      refine ⟨a, _, x, y, z, rfl, ha _ _ _ _, ok, by omega, by omega, fun nm x y z ok hn hlast => ?_⟩
      simp [gput_swap hp, gput_same, gput_gput, atI, ixN]
      exact ⟨rm4, by simpa using room, tail _ _ x y z nm ok sp.1 sp.2.1 sp.2.2 hn (by simpa using hlast)⟩
theorem d__law_book (ds : List D) (G : Gp) (Q : DK) (h : F__law_book ds G Q) : r__law_book (fin G Q) (startD 11 ds) G := by
  obtain ⟨a, most, x, y, z, rfl, hG, ok, h0, h1, kk⟩ := h
  simp [sSeq, r__law_book, startD]
  refine ⟨Nat.le_trans (by decide) line_ge, take_ok hG ok (wd_of (by decide) (by decide)) fun i x y z ok hi0 hi1 => ?_⟩
  obtain ⟨d, ed, md⟩ := at_mem (ds := [D.int 3, D.int 6, D.int 9, D.int 14]) hi0 (by simpa using hi1)
  obtain ⟨size, rfl, hz, hz2⟩ : ∃ m, d = .int m ∧ 3 ≤ m ∧ m ≤ 14 := by
    simp at md
    rcases md with rfl | rfl | rfl | rfl <;> exact ⟨_, rfl, by decide, by decide⟩
  simp [ed]
  refine ⟨⟨by decide, by decide, by decide⟩, Nat.le_trans (by decide) line_ge, take_ok gput_same ok (wd_of (by decide) (by decide)) fun i x y z ok hi0 hi1 => ?_⟩
  obtain ⟨d, ed, md⟩ := at_mem (ds := [D.int 1, D.int 1, D.int 7, D.int 10000000000]) hi0 (by simpa using hi1)
  obtain ⟨mu, rfl, hmu, hmu2⟩ : ∃ m, d = .int m ∧ 1 ≤ m ∧ m ≤ 10000000000 := by
    simp at md
    rcases md with rfl | rfl | rfl <;> exact ⟨_, rfl, by decide, by decide⟩
  simp [ed, gput_gput]
  refine take_ok gput_same ok (wd_of (by omega) (by omega)) fun u0 x y z ok hu0 hu1 => ?_
  simp only [gput_gput]
  refine ⟨⟨by decide, by decide, by decide⟩, cmul_l (by decide) (by decide), Nat.le_trans (by decide) line_ge, take_ok gput_same ok (wd_of (by decide) (by decide)) fun i x y z ok hi0 hi1 => ?_⟩
  obtain ⟨d, ed, md⟩ := at_mem (ds := [D.int 0, D.int (-3), D.int (-1000000000000), D.int (1000000000000 - 28 * (1 + u0))]) hi0 (by simpa using hi1)
  obtain ⟨low, rfl, hl, hl2⟩ : ∃ m, d = .int m ∧ -1000000000000 ≤ m ∧ (m + 28 * (1 + u0) ≤ 1000000000000 ∨ m ≤ 0) := by
    simp at md
    rcases md with rfl | rfl | rfl | rfl
    · exact ⟨_, rfl, by decide, .inr (by decide)⟩
    · exact ⟨_, rfl, by decide, .inr (by decide)⟩
    · exact ⟨_, rfl, by decide, .inr (by decide)⟩
    · exact ⟨_, rfl, by omega, .inl (by omega)⟩
  simp [ed, gput_gput]
  intro p hp
  have hpa : p ≠ a := fun e => by subst e; rw [gput_same] at hp; cases hp
  have hGp : G p = none := by rw [gput_ne hpa] at hp; exact hp
  refine take_ok (by rw [gput_ne hpa.symm, gput_same]) ok (wd_of (by omega) (by omega)) fun n x y z ok hn0 hn1 => ?_
  simp only [gput_swap hpa]
  refine ⟨by omega, by omega, ?_⟩
  refine book_loop (G := G) (most := most) hpa hz hz2 (show 1 ≤ 1 + u0 by omega) (by omega) hl hl2 h1 n.toNat [] none none none none none x y z ok (by simp) (fun j s e => by simp at e) (by simp; omega) ?_
  intro bk o6 o7 o8 o9 o10 x y z ok hs hla hlen
  simp
  refine fin_lstS (G2 := gput G a (stO x y z)) (ds := bk.map Stretch.d) ?_ ?_ ?_ gput_same (by rw [gput_ne hpa]; exact hGp) (refIns_plain (plain_book bk)) (kk bk x y z ok ⟨by omega, hs, last_nodup hla⟩ hlen)
  · intro b o e
    by_cases hb : b = p
    · subst hb; rw [gput_ne hpa, hGp] at e; cases e
    · rw [gput_ne hb]; exact e
  · intro b o e
    by_cases hb : b = a
    · subst hb; exact ⟨_, gput_same⟩
    · exact ⟨o, by rw [gput_ne hb]; exact e⟩
  · intro b o e
    by_cases hb : b = a
    · subst hb; rw [gput_same] at e; cases e; exact .inl (by simp [RefO, stO, RefIns, RefIn])
    · rw [gput_ne hb] at e; exact .inr e
/-- a rising list of numbers below n -/
structure Some (n : Nat) (l : List Nat) : Prop where
  lt : ∀ i ∈ l, i < n
  up : l.Pairwise (· < ·)
def nD (l : List Nat) : List D := l.map fun (i : Nat) => D.int (i : Int)
end DL
set_option Elab.async false
set_option linter.all false
set_option maxRecDepth 100000
set_option maxHeartbeats 4000000
namespace DL
open PySem PySem.Spec PyProof.Rows L2
end DL
set_option Elab.async false
set_option linter.all false
set_option maxRecDepth 100000
set_option maxHeartbeats 4000000
namespace DL
open PySem PySem.Spec PyProof.Rows L2
end DL
set_option Elab.async false
set_option linter.all false
set_option maxRecDepth 100000
set_option maxHeartbeats 4000000
namespace DL
open PySem PySem.Spec PyProof.Rows L2
instance : Inhabited Stretch := ⟨⟨⟨#[]⟩, 0, 0, 0⟩⟩
def st (bk : List Stretch) (i : Nat) : Stretch := bk.getD i default
def worthOf (bk : List Stretch) (l : List Nat) : Int := (l.map fun i => (st bk i).w).sum
theorem toPys_map {α : Type} {f : α → D} {g : α → PyData} {G : Gp} (h : ∀ x, toPy G (f x) = some (g x)) : ∀ xs : List α, toPys G (xs.map f) = some (xs.map g)
  | [] => by simp only [List.map_nil, toPys]
  | x :: xs => by simp only [List.map_cons, toPys, h x, toPys_map h xs]
theorem depthAll_le {n : Nat} : ∀ {xs : List PyData}, (∀ x ∈ xs, x.depth ≤ n) → PyData.depthAll xs ≤ n
  | [], _ => by simp [PyData.depthAll]
  | x :: xs, h => by
    simp only [PyData.depthAll]
    exact Nat.max_le.mpr ⟨h x List.mem_cons_self, depthAll_le fun y hy => h y (List.mem_cons_of_mem _ hy)⟩
theorem canLayAll_of : ∀ {xs : List PyData}, (∀ x ∈ xs, x.canLay0 = true) → PyData.canLayAll0 xs = true
  | [], _ => by simp [PyData.canLayAll0]
  | x :: xs, h => by
    simp only [PyData.canLayAll0, Bool.and_eq_true]
    exact ⟨h x List.mem_cons_self, canLayAll_of fun y hy => h y (List.mem_cons_of_mem _ hy)⟩
/-- shaped, and no deeper than n -/
structure Shp (n : Nat) (d : PyData) : Prop where
  c : d.canLay0 = true
  d : d.depth ≤ n
theorem Shp.shaped {n : Nat} {d : PyData} (h : Shp n d) (hn : n ≤ 64) : SeqAt.shaped d = true := by
  unfold SeqAt.shaped
  rw [h.c, decide_eq_true (Nat.le_trans h.d hn)]
  rfl
theorem shp_list {n : Nat} {xs : List PyData} (h : ∀ x ∈ xs, Shp n x) : Shp (n + 1) (.list xs) :=
  ⟨by simp only [PyData.canLay0]; exact canLayAll_of fun x hx => (h x hx).c, by simp only [PyData.depth]; exact Nat.succ_le_succ (depthAll_le fun x hx => (h x hx).d)⟩
theorem shp_str {x : Str} {n : Nat} (h : ∀ c ∈ x.cps.toList, c < 1114112) : Shp n (.str x) := ⟨by
  simp only [PyData.canLay0, PyData.strOk]
  rw [Array.all_eq_true']
  intro c hc
  exact decide_eq_true (h c (Array.mem_toList_iff.mpr hc)), by simp [PyData.depth]⟩
theorem eqv_self {n : Nat} {d : PyData} (h : Shp n d) : PyData.eqv d d = true := SeqAt.eqv_refl d h.c
end DL
set_option Elab.async false
set_option linter.all false
set_option maxRecDepth 100000
set_option maxHeartbeats 4000000
namespace DL
open PySem PySem.Spec PyProof.Rows L2
/-- a loop whose turns keep I -/
theorem forW_all {t : Tg} {tb : ES} {Kp : Gp → Prop} {N : En} (I : Sd → Gp → Prop) (hK : ∀ s G, I s G → Kp G) : ∀ (ds : List D) (s : Sd) (G : Gp),
    (∀ d ∈ ds, ∀ s G (W : Sd → Gp → Prop), I s G → (∀ s' G', I s' G' → W s' G') → match asg t d s with
      | some s' => tb { N with nx := W, ct := W, bk := N.nx } s' G
      | none => False) → I s G → (∀ s G, I s G → N.nx s G) → forW t tb Kp N ds s G
  | [], s, G, _, hI, k => by simp only [forW]; exact ⟨hK s G hI, k s G hI⟩
  | d :: ds, s, G, h, hI, k => by
    simp only [forW]
    exact ⟨hK s G hI, h d List.mem_cons_self s G _ hI fun s' G' hI' => forW_all I hK ds s' G' (fun d hd => h d (List.mem_cons_of_mem _ hd)) hI' k⟩
theorem rngD_mem {lo : Int} {n : Nat} {d : D} (h : d ∈ rngD lo n) : ∃ i : Int, d = .int i ∧ lo ≤ i ∧ i < lo + n := by
  unfold rngD at h
  obtain ⟨j, hj, rfl⟩ := List.mem_map.mp h
  rw [List.mem_range] at hj
  exact ⟨_, rfl, by omega, by omega⟩
end DL
set_option Elab.async false
set_option linter.all false
set_option maxRecDepth 100000
set_option maxHeartbeats 4000000
namespace L2
open PySem PySem.Spec PyProof.Rows
end L2
set_option Elab.async false
set_option linter.all false
set_option maxRecDepth 100000
set_option maxHeartbeats 4000000
namespace L2
open PySem PySem.Spec PyProof.Rows
end L2
namespace DL
open PySem PySem.Spec PyProof.Rows L2
/-- sorted(set(xs)): the ints of xs, rising, each once -/
@[simp] def eSortedSet (ea : EA) : EE := fun s G Q => ea s G fun xs G1 => match xs with
  | [x] => (match (lkL G1 x).bind intsD with
    | some ns => ns.length < 64 ∧ ∀ ms : List Int, ms.Pairwise (· < ·) → (∀ k : Int, k ∈ ms ↔ k ∈ ns) → Q (.lst (ms.map D.int)) G1
    | none => False)
  | _ => False
section
variable {X : Cx}
/-- sorted(xs) of ints -/
@[simp] def cSortedI : CD := fun xs G Q => match xs with
  | [x] => (match (lkL G x).bind intsD with
    | some ns => ∀ ms : List Int, ms.Perm ns → ms.Pairwise (· ≤ ·) → Q (.lst (ms.map D.int)) G
    | none => False)
  | _ => False
end
end DL
set_option Elab.async false
set_option linter.all false
set_option maxRecDepth 100000
set_option maxHeartbeats 4000000
namespace DL
open PySem PySem.Spec PyProof.Rows L2
def ins (k : Int) : List Int → List Int
  | [] => [k]
  | x :: xs => if k < x then k :: x :: xs else if k = x then x :: xs else x :: ins k xs
theorem up_uniq : ∀ {a b : List Int}, a.Pairwise (· < ·) → b.Pairwise (· < ·) → (∀ k, k ∈ a ↔ k ∈ b) → a = b
  | [], [], _, _, _ => rfl
  | [], y :: b, _, _, h => by have := (h y).mpr List.mem_cons_self; cases this
  | x :: a, [], _, _, h => by have := (h x).mp List.mem_cons_self; cases this
  | x :: a, y :: b, ha, hb, h => by
    rw [List.pairwise_cons] at ha hb
    have e : x = y := by
      have h1 := (h x).mp List.mem_cons_self
      have h2 := (h y).mpr List.mem_cons_self
      rcases List.mem_cons.mp h1 with q | q
      · exact q
      · rcases List.mem_cons.mp h2 with r | r
        · exact r.symm
        · have := hb.1 x q
          have := ha.1 y r
          omega
    subst e
    congr 1
    refine up_uniq ha.2 hb.2 fun k => ?_
    have hk := h k
    simp only [List.mem_cons] at hk
    constructor
    · intro q
      rcases hk.mp (.inr q) with r | r
      · have := ha.1 k q; omega
      · exact r
    · intro q
      rcases hk.mpr (.inr q) with r | r
      · have := hb.1 k q; omega
      · exact r
def over (s : Stretch) (m : Int) : Bool := decide (s.b ≤ m) && decide (m < s.e)
def loadAt (bk : List Stretch) (l : List Nat) (m : Int) : Nat := (l.filter fun i => over (st bk i) m).length
end DL
set_option Elab.async false
set_option linter.all false
set_option maxRecDepth 100000
set_option maxHeartbeats 4000000
namespace DL
open PySem PySem.Spec PyProof.Rows L2
/-- x is True, x is False -/
@[simp] def oIsB : OD := fun x y G Q => match x, y with
  | .bl a, .bl b => Q (.bl (decide (a = b))) G
  | _, _ => False
@[simp] def oNotB : OD := fun x y G Q => match x, y with
  | .bl a, .bl b => Q (.bl (!decide (a = b))) G
  | _, _ => False
end DL
set_option Elab.async false
set_option linter.all false
set_option maxRecDepth 100000
set_option maxHeartbeats 4000000
namespace DL
open PySem PySem.Spec PyProof.Rows L2
@[simp ↓ high] theorem ix_0 {s : Stretch} {G : Gp} {Q : DK} : oIx s.d (.int 0) G Q = Q (.str s.name) G := by simp [Stretch.d, atI, ixN]
@[simp ↓ high] theorem ix_1 {s : Stretch} {G : Gp} {Q : DK} : oIx s.d (.int 1) G Q = Q (.int s.b) G := by simp [Stretch.d, atI, ixN]
@[simp ↓ high] theorem ix_2 {s : Stretch} {G : Gp} {Q : DK} : oIx s.d (.int 2) G Q = Q (.int s.e) G := by simp [Stretch.d, atI, ixN]
@[simp ↓ high] theorem ix_3 {s : Stretch} {G : Gp} {Q : DK} : oIx s.d (.int 3) G Q = Q (.int s.w) G := by simp [Stretch.d, atI, ixN]
@[simp] theorem sh_int (i : Int) : SeqAt.shaped (.int i) = true := rfl
@[simp] theorem sh_bool (i : Bool) : SeqAt.shaped (.bool i) = true := rfl
@[simp] theorem sh_none : SeqAt.shaped .none = true := rfl
@[simp] theorem eqv_ii (a b : Int) : PyData.eqv (.int a) (.int b) = decide (a = b) := by simp only [PyData.eqv]; rfl
@[simp] theorem eqv_bb (a b : Bool) : PyData.eqv (.bool a) (.bool b) = (a == b) := by cases a <;> cases b <;> decide
@[simp] theorem kit_bool_bool : kitB "bool" "bool" = some true := by decide +kernel
@[simp] theorem kit_int_int1 : kitB "int" "int" = some true := by decide +kernel
@[simp] theorem kit_int_bool1 : kitB "int" "bool" = some false := by decide +kernel
@[simp] theorem kit_tuple_tuple : kitB "tuple" "tuple" = some true := by decide +kernel
@[simp] theorem kit_list_list : kitB "list" "list" = some true := by decide +kernel
/-- a loop over range(lo, ..) -/
theorem rng_loop {t : Tg} {tb : ES} {N : En} {lo : Int} {n : Nat} (I : Sd → Gp → Prop) {s : Sd} {G : Gp} (h : ∀ k : Int, lo ≤ k → k < lo + n → ∀ s G (W : Sd → Gp → Prop), I s G → (∀ s' G', I s' G' → W s' G') → match asg t (.int k) s with
      | some s' => tb { N with nx := W, ct := W, bk := N.nx } s' G
      | none => False) (hI : I s G) (k : ∀ s G, I s G → N.nx s G) : forW t tb (fun _ => True) N (rngD lo n) s G := by
  refine forW_all I (fun _ _ _ => trivial) _ s G (fun d hd => ?_) hI k
  obtain ⟨i, rfl, h0, h1⟩ := rngD_mem hd
  exact h i h0 (by omega)
end DL
set_option Elab.async false
set_option linter.all false
set_option maxRecDepth 100000
set_option maxHeartbeats 4000000
namespace DL
open PySem PySem.Spec PyProof.Rows L2
/-- a new owned object is handed back; all other new ones are let go -/
theorem fin_own {G0 G' : Gp} {Q : DK} {p : Addr} {o : GO} (h : ∀ a u, G0 a = some u → G' a = some u) (e : G' p = some o) (n : G0 p = none) (hd : RefO (gput G0 p o) o) (q : Q (.ref p) (gput G0 p o)) : (fin G0 Q).rt (.ref p) G' := by
  refine fin_sub (G2 := gput G0 p o) ?_ ?_ ?_ (by simp only [RefIn]; exact ⟨o, gput_same⟩) q
  · intro a u eu
    by_cases ha : a = p
    · subst ha; rw [gput_same] at eu; cases eu; exact e
    · rw [gput_ne ha] at eu; exact h a u eu
  · intro a u eu
    by_cases ha : a = p
    · subst ha; exact ⟨_, gput_same⟩
    · exact ⟨u, by rw [gput_ne ha]; exact eu⟩
  · intro a u eu
    by_cases ha : a = p
    · subst ha; rw [gput_same] at eu; cases eu; exact .inl hd
    · rw [gput_ne ha] at eu; exact .inr eu
/-- a loop, the rest of what is walked known -/
theorem forW_ind {α : Type} {g : α → D} {t : Tg} {tb : ES} {Kp : Gp → Prop} {N : En} (I : List α → Sd → Gp → Prop) (hK : ∀ xs s G, I xs s G → Kp G)
    (h : ∀ x xs s G (W : Sd → Gp → Prop), I (x :: xs) s G → (∀ s' G', I xs s' G' → W s' G') → match asg t (g x) s with
      | some s' => tb { N with nx := W, ct := W, bk := N.nx } s' G
      | none => False) (k : ∀ s G, I [] s G → N.nx s G) : ∀ (xs : List α) (s : Sd) (G : Gp), I xs s G → forW t tb Kp N (xs.map g) s G
  | [], s, G, hI => ⟨hK _ s G hI, k s G hI⟩
  | x :: xs, s, G, hI => ⟨hK _ s G hI, h x xs s G _ hI fun s' G' hI' => forW_ind I hK h k xs s' G' hI'⟩
end DL
set_option Elab.async false
set_option linter.all false
set_option maxRecDepth 100000
set_option maxHeartbeats 4000000
namespace DL
open PySem PySem.Spec PyProof.Rows L2
end DL
set_option Elab.async false
set_option linter.all false
set_option maxRecDepth 100000
set_option maxHeartbeats 4000000
namespace DL
open PySem PySem.Spec PyProof.Rows L2
end DL
set_option Elab.async false
set_option linter.all false
set_option maxRecDepth 100000
set_option maxHeartbeats 4000000
namespace DL
open PySem PySem.Spec PyProof.Rows L2
/-- g is the greatest load, f the first moment at which it is -/
structure Crowd (bk : List Stretch) (l : List Nat) (g : Nat) (f : Int) : Prop where
  at_ : loadAt bk l f = g
  le : ∀ m, loadAt bk l m ≤ g
  pos : 0 < g
  first : ∀ m, m < f → loadAt bk l m < g
theorem Crowd.uniq {bk : List Stretch} {l : List Nat} {g g' : Nat} {f f' : Int} (h : Crowd bk l g f) (h' : Crowd bk l g' f') : g = g' ∧ f = f' := by
  have e : g = g' := by
    have h1 := h.le f'
    have h2 := h'.le f
    rw [h'.at_] at h1
    rw [h.at_] at h2
    omega
  subst e
  refine ⟨rfl, ?_⟩
  rcases Int.lt_trichotomy f f' with q | q | q
  · have := h'.first f q; rw [h.at_] at this; omega
  · exact q
  · have := h.first f' q; rw [h'.at_] at this; omega
end DL
set_option Elab.async false
set_option linter.all false
set_option maxRecDepth 100000
set_option maxHeartbeats 4000000
namespace DL
open PySem PySem.Spec PyProof.Rows L2
end DL
set_option Elab.async false
set_option linter.all false
set_option maxRecDepth 100000
set_option maxHeartbeats 4000000
namespace DL
open PySem PySem.Spec PyProof.Rows L2
theorem cut_take (xs : List D) (k : Nat) : cutD xs none (some (k : Int)) = xs.take k := by
  unfold cutD
  rw [HT.sIx_none, HT.sIx_nat]
  simp only [List.drop_zero, Nat.sub_zero]
  rcases Nat.le_total k xs.length with h | h
  · rw [Nat.min_eq_left h]
  · rw [Nat.min_eq_right h, List.take_of_length_le (Nat.le_refl _), List.take_of_length_le h]
theorem cut_drop (xs : List D) (k : Nat) : cutD xs (some (k : Int)) none = xs.drop k := by
  unfold cutD
  rw [HT.sIx_none, HT.sIx_nat]
  rcases Nat.le_total k xs.length with h | h
  · rw [Nat.min_eq_left h, List.take_of_length_le (by simp)]
  · rw [Nat.min_eq_right h, List.drop_eq_nil_of_le h]; simp
theorem up_uniqN {a b : List Nat} (ha : a.Pairwise (· < ·)) (hb : b.Pairwise (· < ·)) (h : ∀ k, k ∈ a ↔ k ∈ b) : a = b := by
  have up : ∀ l : List Nat, l.Pairwise (· < ·) → (l.map fun (i : Nat) => (i : Int)).Pairwise (· < ·) := fun l hl => List.pairwise_map.mpr (hl.imp fun h => by omega)
  have e := up_uniq (up a ha) (up b hb) fun k => by
    simp only [List.mem_map]
    constructor
    · rintro ⟨x, hx, e⟩; exact ⟨x, (h x).mp hx, e⟩
    · rintro ⟨x, hx, e⟩; exact ⟨x, (h x).mpr hx, e⟩
  exact (List.map_inj_right (fun a b h => Int.ofNat_inj.mp h)).mp e
end DL
set_option Elab.async false
set_option linter.all false
set_option maxRecDepth 100000
set_option maxHeartbeats 4000000
namespace DL
open PySem PySem.Spec PyProof.Rows L2
/-- sorted(set(xs)), owned -/
@[simp] def eSortedSetO (ea : EA) : EE := fun s G Q => ea s G fun xs G1 => match xs with
  | [x] => (match (lkL G1 x).bind intsD with
    | some ns => ns.length < 64 ∧ ∀ ms : List Int, ms.Pairwise (· < ·) → (∀ k : Int, k ∈ ms ↔ k ∈ ns) → ∀ p, G1 p = none → Q (.ref p) (gput G1 p (.lst (ms.map D.int)))
    | none => False)
  | _ => False
end DL
set_option Elab.async false
set_option linter.all false
set_option maxRecDepth 100000
set_option maxHeartbeats 4000000
namespace DL
open PySem PySem.Spec PyProof.Rows L2
/-- xs[::-1]: a new list, frozen -/
@[simp] def eRevL (te : EE) : EE := fun s G Q => te s G fun x G1 => match lkL G1 x with
  | some ds => Q (.lst ds.reverse) G1
  | none => False
section
variable {X : Cx} {K : PySem.W.Frag} {P : Addr → Prop} {G : Gp} {H : Hp}
theorem Reps.reverse : ∀ {ds : List D} {vs : List V}, Reps K H G P ds vs → Reps K H G P ds.reverse vs.reverse
  | [], _, h => by unfold Reps at h; subst h; exact reps_nil
  | d :: ds, _, h => by
    unfold Reps at h
    obtain ⟨x, r, rfl, h1, h2⟩ := h
    rw [List.reverse_cons, List.reverse_cons]
    exact (Reps.reverse h2).append (reps_cons h1 reps_nil)
end
/-- a comprehension, the rest of what is walked known -/
theorem compW_ind {α : Type} {g : α → D} {s0 : Sd} {t : Tg} {tt : ET} {te : EE} {Kp : Gp → Prop} {Q : List D → Gp → Prop} (I : List α → List D → Gp → Prop) (hK : ∀ xs acc G, I xs acc G → Kp G)
    (h : ∀ x xs acc G (W : List D → Gp → Prop), I (x :: xs) acc G → (∀ acc' G', I xs acc' G' → W acc' G') → match asg t (g x) s0 with
      | none => False
      | some s' => tt s' G fun b G1 => if b = true then te s' G1 fun v G2 => W (acc ++ [v]) G2 else W acc G1) (k : ∀ acc G, I [] acc G → Q acc G) : ∀ (xs : List α) (acc : List D) (G : Gp), I xs acc G → compW s0 t tt te Kp (xs.map g) acc G Q
  | [], acc, G, hI => ⟨hK _ _ G hI, k acc G hI⟩
  | x :: xs, acc, G, hI => ⟨hK _ _ G hI, h x xs acc G _ hI fun acc' G' hI' => compW_ind I hK h k xs acc' G' hI'⟩
end DL
set_option Elab.async false
set_option linter.all false
set_option maxRecDepth 100000
set_option maxHeartbeats 4000000
namespace DL
open PySem PySem.Spec PyProof.Rows L2
theorem rngD_map (n : Nat) : rngD 0 n = (List.range' 0 n).map fun (i : Nat) => D.int (i : Int) := by
  unfold rngD
  rw [List.range_eq_range']
  exact List.map_congr_left fun a _ => by simp
theorem compW_rng {n : Nat} {s0 : Sd} {t : Tg} {tt : ET} {te : EE} {Q : List D → Gp → Prop} {G : Gp} (I : Nat → List D → Gp → Prop)
    (h : ∀ (j : Nat) acc G (W : List D → Gp → Prop), j < n → I j acc G → (∀ acc' G', I (j + 1) acc' G' → W acc' G') → match asg t (.int (j : Int)) s0 with
      | none => False
      | some s' => tt s' G fun b G1 => if b = true then te s' G1 fun v G2 => W (acc ++ [v]) G2 else W acc G1) (k : ∀ acc G, I n acc G → Q acc G) (h0 : I 0 [] G) : compW s0 t tt te (fun _ => True) (rngD 0 n) [] G Q := by
  rw [rngD_map]
  refine compW_ind (fun r acc G => ∃ j, r = List.range' j (n - j) ∧ j ≤ n ∧ I j acc G) (fun _ _ _ _ => trivial) ?_ ?_ _ _ _ ⟨0, by simp, Nat.zero_le _, h0⟩
  · rintro x r acc G W ⟨j, e, hj, hI⟩ hW
    have hlt : j < n := by
      rcases Nat.lt_or_ge j n with q | q
      · exact q
      · rw [Nat.sub_eq_zero_of_le q] at e; simp at e
    rw [show n - j = (n - (j + 1)) + 1 by omega, List.range'_succ] at e
    cases e
    exact h x acc G W hlt hI fun acc' G' hI' => hW acc' G' ⟨x + 1, rfl, hlt, hI'⟩
  · rintro acc G ⟨j, e, hj, hI⟩
    have : j = n := by
      have := congrArg List.length e
      simp at this
      omega
    subst this
    exact k acc G hI
theorem forW_rng {n : Nat} {t : Tg} {tb : ES} {N : En} {s : Sd} {G : Gp} (I : Nat → Sd → Gp → Prop)
    (h : ∀ (j : Nat) s G (W : Sd → Gp → Prop), j < n → I j s G → (∀ s' G', I (j + 1) s' G' → W s' G') → match asg t (.int (j : Int)) s with
      | some s' => tb { N with nx := W, ct := W, bk := N.nx } s' G
      | none => False) (k : ∀ s G, I n s G → N.nx s G) (h0 : I 0 s G) : forW t tb (fun _ => True) N (rngD 0 n) s G := by
  rw [rngD_map]
  refine forW_ind (fun r s G => ∃ j, r = List.range' j (n - j) ∧ j ≤ n ∧ I j s G) (fun _ _ _ _ => trivial) ?_ ?_ _ _ _ ⟨0, by simp, Nat.zero_le _, h0⟩
  · rintro x r s G W ⟨j, e, hj, hI⟩ hW
    have hlt : j < n := by
      rcases Nat.lt_or_ge j n with q | q
      · exact q
      · rw [Nat.sub_eq_zero_of_le q] at e; simp at e
    rw [show n - j = (n - (j + 1)) + 1 by omega, List.range'_succ] at e
    cases e
    exact h x s G W hlt hI fun s' G' hI' => hW s' G' ⟨x + 1, rfl, hlt, hI'⟩
  · rintro s G ⟨j, e, hj, hI⟩
    have : j = n := by
      have := congrArg List.length e
      simp at this
      omega
    subst this
    exact k s G hI
end DL
set_option Elab.async false
set_option linter.all false
set_option maxRecDepth 100000
set_option maxHeartbeats 4000000
namespace DL
open PySem PySem.Spec PyProof.Rows L2
@[simp] def keyD : D → Option Key
  | .int i => some (.inl i)
  | .str x => some (.inr x)
  | _ => none
def lkD (G : Gp) : D → Option (List Key × List D)
  | .dct ks ds => some (ks, ds)
  | .ref a => match G a with
    | some (.dct ks ds) => some (ks, ds)
    | _ => none
  | _ => none
@[simp] theorem lkD_dct {G : Gp} {ks : List Key} {ds : List D} : lkD G (.dct ks ds) = some (ks, ds) := rfl
@[simp] theorem lkD_ref {G : Gp} {a : Addr} : lkD G (.ref a) = match G a with
    | some (.dct ks ds) => some (ks, ds)
    | _ => none := rfl
def valD : List Key → List D → Key → Option D
  | k' :: ks, d :: ds, k => if k' = k then some d else valD ks ds k
  | _, _, _ => none
def putDs : List Key → List D → Key → D → List D
  | k' :: ks, d' :: ds, k, d => (if k' = k then d else d') :: putDs ks ds k d
  | _, _, _, _ => []
def hasK (ks : List Key) (k : Key) : Bool := ks.any fun k' => decide (k' = k)
/-- the keys, the values behind d[k] = v -/
def putKs (ks : List Key) (k : Key) : List Key := if hasK ks k = true then ks else ks ++ [k]
def putVs (ks : List Key) (ds : List D) (k : Key) (d : D) : List D := if hasK ks k = true then putDs ks ds k d else ds ++ [d]
@[simp] def oDGet : OD := fun x y G Q => match lkD G x, keyD y with
  | some (ks, ds), some k => (match valD ks ds k with
    | some d => Q d G
    | none => False)
  | _, _ => False
@[simp] def oDIn : OD := fun y x G Q => match lkD G x, keyD y with
  | some (ks, ds), some k => Q (.bl (valD ks ds k).isSome) G
  | _, _ => False
@[simp] def oDNotIn : OD := fun y x G Q => match lkD G x, keyD y with
  | some (ks, ds), some k => Q (.bl (!(valD ks ds k).isSome)) G
  | _, _ => False
section
variable {X : Cx} {K : PySem.W.Frag} {P : Addr → Prop} {G : Gp} {H : Hp}
theorem key_of {d : D} {v : V} {k : Key} (h : Rep K H G P d v) (e : keyD d = some k) : v = kV k := by
  cases d with
  | int i => cases e; rw [rep_i h]; rfl
  | str i => cases e; rw [rep_s h]; rfl
  | _ => cases e
theorem lkD_hp (w : Wo K P G H) {d : D} {v : V} {ks : List Key} {ds : List D} (h : Rep K H G P d v) (e : lkD G d = some (ks, ds)) : ∃ a xs, v = .ref a ∧ H a = some (.dK (ks.zip xs)) ∧ ks.length = ds.length ∧ Reps K H G P ds xs := by
  cases d with
  | dct ks' ds' =>
    cases e
    unfold Rep at h
    obtain ⟨a, xs, rfl, g, p, r, z, q⟩ := h
    exact ⟨a, xs, rfl, r, z, q⟩
  | ref a =>
    unfold Rep at h
    obtain ⟨rfl, o, ho⟩ := h
    simp only [lkD, ho] at e
    cases o with
    | dct ks' ds' =>
      cases e
      obtain ⟨ho', e1, xs, rfl, z, q⟩ := w.own a _ ho
      exact ⟨a, xs, rfl, e1, z, q⟩
    | _ => cases e
  | _ => cases e
theorem val_some {k : Key} : ∀ {ks : List Key} {ds : List D} {xs : List V} {d : D}, Reps K H G P ds xs → valD ks ds k = some d → ∃ v, valV (ks.zip xs) k = some v ∧ Rep K H G P d v
  | [], _, _, _, _, e => by unfold valD at e; cases e
  | k' :: ks, [], _, _, _, e => by unfold valD at e; cases e
  | k' :: ks, d' :: ds, _, d, q, e => by
    unfold Reps at q
    obtain ⟨x, r, rfl, h1, h2⟩ := q
    unfold valD at e
    rw [List.zip_cons_cons]
    split at e
    · rename_i h
      cases e
      exact ⟨x, valV_pos h, h1⟩
    · rename_i h
      rw [valV_neg h]
      exact val_some h2 e
theorem val_none {k : Key} : ∀ {ks : List Key} {ds : List D} {xs : List V}, Reps K H G P ds xs → valD ks ds k = none → valV (ks.zip xs) k = none
  | [], _, _, _, e => rfl
  | k' :: ks, [], _, q, e => by unfold Reps at q; subst q; rfl
  | k' :: ks, d' :: ds, _, q, e => by
    unfold Reps at q
    obtain ⟨x, r, rfl, h1, h2⟩ := q
    unfold valD at e
    rw [List.zip_cons_cons]
    split at e
    · cases e
    · rename_i h
      rw [valV_neg h]
      exact val_none h2 e
theorem lo_dget : LO K (fun x y H Q => ∃ a v, x = .ref a ∧ DGet H a y (some v) ∧ Q v H) oDGet := fun P G H x y u v Q R h w rx ry k => by
  unfold oDGet at h
  split at h
  · rename_i ks ds kk e1 e2
    split at h
    · rename_i d e3
      obtain ⟨a, xs, rfl, r, z, q⟩ := lkD_hp w rx e1
      obtain ⟨v', e4, r4⟩ := val_some q e3
      rw [key_of ry e2]
      exact ⟨a, v', rfl, by rw [← e4]; exact DGet.k r, k d G v' H (Step.refl _ _) w r4 h⟩
    · exact h.elim
  · exact h.elim
theorem j_dget {o i : Expr} {eo ei : EE} {pos : Pos} (hu : X.A.units + 1 < cLine) (ho : JE X o eo) (hi : JE X i ei) (hs : NoSl i := by intro _ _; rfl) : JE X (.Subscript o i pos) (eOp oDGet eo ei) :=
  ⟨pe_dget hu ho.pe hi.pe hs, le_op lo_dget ho.le hi.le⟩
theorem lo_din : LO K (fun y x H Q => ∃ a o, x = .ref a ∧ DGet H a y o ∧ Q (.bl o.isSome) H) oDIn := fun P G H y x u v Q R h w ry rx k => by
  unfold oDIn at h
  split at h
  · rename_i ks ds kk e1 e2
    obtain ⟨a, xs, rfl, r, z, q⟩ := lkD_hp w rx e1
    rw [key_of ry e2]
    refine ⟨a, valV (ks.zip xs) kk, rfl, DGet.k r, ?_⟩
    cases e3 : valD ks ds kk with
    | none => rw [e3] at h; rw [val_none q e3]; exact k _ G _ H (Step.refl _ _) w rep_bl h
    | some d => rw [e3] at h; obtain ⟨v', e4, r4⟩ := val_some q e3; rw [e4]; exact k _ G _ H (Step.refl _ _) w rep_bl h
  · exact h.elim
theorem lo_dnotin : LO K (fun y x H Q => ∃ a o, x = .ref a ∧ DGet H a y o ∧ Q (.bl (!o.isSome)) H) oDNotIn := fun P G H y x u v Q R h w ry rx k => by
  unfold oDNotIn at h
  split at h
  · rename_i ks ds kk e1 e2
    obtain ⟨a, xs, rfl, r, z, q⟩ := lkD_hp w rx e1
    rw [key_of ry e2]
    refine ⟨a, valV (ks.zip xs) kk, rfl, DGet.k r, ?_⟩
    cases e3 : valD ks ds kk with
    | none => rw [e3] at h; rw [val_none q e3]; exact k _ G _ H (Step.refl _ _) w rep_bl h
    | some d => rw [e3] at h; obtain ⟨v', e4, r4⟩ := val_some q e3; rw [e4]; exact k _ G _ H (Step.refl _ _) w rep_bl h
  · exact h.elim
theorem jt_din {a b : Expr} {ea eb : EE} {pos : Pos} (hu : X.A.units + 1 < cLine) (ha : JE X a ea) (hb : JE X b eb) (hm : behindInMarks .In b = false := by rfl) : JT X (.Compare a [.In] [b] pos) (eT (eOp oDIn ea eb)) :=
  ⟨pt_cmp (pc_din hu ha.pe hb.pe) hm, lt_tB (le_op lo_din ha.le hb.le)⟩
theorem jt_dnotin {a b : Expr} {ea eb : EE} {pos : Pos} (hu : X.A.units + 1 < cLine) (ha : JE X a ea) (hb : JE X b eb) (hm : behindInMarks .NotIn b = false := by rfl) : JT X (.Compare a [.NotIn] [b] pos) (eT (eOp oDNotIn ea eb)) :=
  ⟨pt_cmp (pc_dnotin hu ha.pe hb.pe) hm, lt_tB (le_op lo_dnotin ha.le hb.le)⟩
/-- {}: owned; frozen -/
@[simp] def eDnewO : EE := fun _ G Q => ∀ p, G p = none → Q (.ref p) (gput G p (.dct [] []))
@[simp] def eDnew0 : EE := fun _ G Q => Q (.dct [] []) G
theorem j_dnewO {pos : Pos} : JE X (.Dict [] [] pos) eDnewO := ⟨pe_dnewK, fun P s G Q σ H R h r k => fun p hp => by
  have st : Step G H (gput G p (.dct [] [])) (upd H p (.dK [])) := Step.newOwn r.wo hp
  exact k _ _ _ _ st (r.wo.newOwn hp ⟨[], rfl, rfl, reps_nil⟩) (by unfold Rep; exact ⟨rfl, _, gput_same⟩) (h p (r.wo.fresh hp).1)⟩
/-- d[k] = v, d owned -/
@[simp] def sPutD (te to ti : EE) : ES := fun N s G => te s G fun v G1 => to s G1 fun o G2 => ti s G2 fun i G3 => match o, keyD i with
  | .ref p, some k => (match G3 p with
    | some (.dct ks ds) => ks.length < sizeLine ∧ N.nx s (gput G3 p (.dct (putKs ks k) (putVs ks ds k v)))
    | _ => False)
  | _, _ => False
theorem zip_app {ks : List Key} {xs : List V} (h : ks.length = xs.length) (k : Key) (v : V) : ks.zip xs ++ [(k, v)] = (ks ++ [k]).zip (xs ++ [v]) := by
  rw [List.zip_append h]; rfl
def putXs : List Key → List V → Key → V → List V
  | k' :: ks, x :: xs, k, v => (if k' = k then v else x) :: putXs ks xs k v
  | _, _, _, _ => []
theorem zip_put {k : Key} {v : V} : ∀ (ks : List Key) (xs : List V), (ks.zip xs).map (fun kv => if kv.1 = k then (kv.1, v) else kv) = ks.zip (putXs ks xs k v)
  | [], xs => by simp
  | k' :: ks, [] => by simp [putXs]
  | k' :: ks, x :: xs => by
    rw [List.zip_cons_cons, List.map_cons, zip_put ks xs, putXs, List.zip_cons_cons]
    congr 1
    by_cases e : k' = k
    · rw [if_pos e, if_pos e]
    · rw [if_neg e, if_neg e]
theorem reps_put {k : Key} {d : D} {v : V} (hd : Rep K H G P d v) : ∀ {ks : List Key} {ds : List D} {xs : List V}, Reps K H G P ds xs → ks.length = ds.length → Reps K H G P (putDs ks ds k d) (putXs ks xs k v) ∧ (putDs ks ds k d).length = ks.length
  | [], [], _, q, _ => by unfold Reps at q; subst q; exact ⟨reps_nil, rfl⟩
  | [], _ :: _, _, _, e => by cases e
  | _ :: _, [], _, _, e => by cases e
  | k' :: ks, d' :: ds, _, q, e => by
    unfold Reps at q
    obtain ⟨x, r, rfl, h1, h2⟩ := q
    obtain ⟨a, b⟩ := reps_put (k := k) hd h2 (by simpa using e)
    unfold putDs putXs
    refine ⟨reps_cons ?_ a, by simp [b]⟩
    split
    · exact hd
    · exact h1
theorem zip_any {k : Key} : ∀ {ks : List Key} {xs : List V}, ks.length = xs.length → ((ks.zip xs).any fun kv => decide (kv.1 = k)) = hasK ks k
  | [], _, _ => rfl
  | _ :: _, [], e => by cases e
  | k' :: ks, x :: xs, e => by
    rw [List.zip_cons_cons, List.any_cons, zip_any (by simpa using e)]
    rfl
theorem reps_putV {ks : List Key} {ds : List D} {xs : List V} {k : Key} {d : D} {v : V} (hd : Rep K H G P d v) (q : Reps K H G P ds xs) (z : ks.length = ds.length) : ∃ ys, putK (ks.zip xs) k v = (putKs ks k).zip ys ∧ (putKs ks k).length = (putVs ks ds k d).length ∧ Reps K H G P (putVs ks ds k d) ys := by
  have l : ks.length = xs.length := by rw [z, q.length]
  unfold putK putKs putVs
  rw [zip_any l]
  by_cases h : hasK ks k = true
  · obtain ⟨a, b⟩ := reps_put (k := k) hd q z
    rw [if_pos h, if_pos h, if_pos h]
    exact ⟨putXs ks xs k v, zip_put ks xs, b.symm, a⟩
  · rw [if_neg h, if_neg h, if_neg h]
    exact ⟨xs ++ [v], zip_app l k v, by simp [z], q.append (reps_cons hd reps_nil)⟩
theorem js_putD {Y : Wx} {o i e : Expr} {eo ei ee : EE} {p' pos : Pos} (hu : X.A.units + 1 < cLine) (he : JE X e ee) (ho : JE X o eo) (hi : JE X i ei) (hs : swapsWith e (some (.Subscript o i p')) pos.line X.env = pure false := by rfl) : JS X Y (.Assign [.Subscript o i p'] e pos) (sPutD ee eo ei) :=
  ⟨ps_dput hu ho.pe hi.pe he.pe hs, fun P s G N σ H M h r k => by
    refine he.le P s G _ σ H _ h r fun v G1 u H1 s1 w1 r1 h1 => ?_
    refine ho.le P s G1 _ σ H1 _ h1 (r.step s1 w1) fun od G2 ov H2 s2 w2 r2 h2 => ?_
    refine hi.le P s G2 _ σ H2 _ h2 (r.step (s1.trans s2) w2) fun id G3 iv H3 s3 w3 r3 h3 => ?_
    split at h3
    · rename_i p kk e0
      split at h3
      · rename_i ks ds e1
        have r2' := r2.step s3
        unfold Rep at r2'
        obtain ⟨rfl, _⟩ := r2'
        rw [key_of r3 e0]
        obtain ⟨ho', e3, xs, rfl, z, q⟩ := w3.own p _ e1
        have rv := (r1.step s2).step s3
        obtain ⟨ys, e4, z4, q4⟩ := reps_putV (k := kk) rv q z
        refine ⟨p, _, rfl, DPut.k e3 (by rw [List.length_zip, ← q.length, ← z, Nat.min_self]; exact h3.1), ?_⟩
        rw [e4]
        have st : Step G3 H3 (gput G3 p (.dct (putKs ks kk) (putVs ks ds kk v))) (upd H3 p (.dK ((putKs ks kk).zip ys))) := Step.chg e1
        have sA := (((s1.trans s2).trans s3).trans st)
        exact k.nx s _ σ _ sA (r.step sA (w3.chg e1 ⟨_, rfl, z4, q4.step st⟩)) h3.2
      · exact h3.elim
    · exact h3.elim⟩
/-- sorted(d), the keys ints -/
def intKs : List Key → Option (List Int)
  | [] => some []
  | .inl i :: ks => (intKs ks).map (i :: ·)
  | .inr _ :: _ => none
@[simp] def cSortedDI : CD := fun xs G Q => match xs with
  | [x] => (match (lkD G x).bind fun p => intKs p.1 with
    | some ns => ns.length < 64 ∧ ∀ ms : List Int, ms.Perm ns → ms.Pairwise (· ≤ ·) → Q (.lst (ms.map D.int)) G
    | none => False)
  | _ => False
@[simp] def mPop : MD := fun x xs G Q => match x, xs with
  | .ref p, [] => (match G p with
    | some (.lst ds) => (match ds[ds.length - 1]? with
      | some d => Q d (gput G p (.lst ds.dropLast))
      | none => False)
    | _ => False)
  | _, _ => False
@[simp] def mClear : MD := fun x xs G Q => match x, xs with
  | .ref p, [] => (match G p with
    | some (.lst ds) => Q .non (gput G p (.lst []))
    | _ => False)
  | _, _ => False
@[simp] def mIns : MD := fun x xs G Q => match x, xs with
  | .ref p, [.int i, y] => (match G p with
    | some (.lst ds) => ds.length < sizeLine ∧ 0 ≤ i ∧ i < 2 ^ 63 ∧ Q .non (gput G p (.lst (ds.take i.toNat ++ [y] ++ ds.drop i.toNat)))
    | _ => False)
  | _, _ => False
end
theorem hu_of {k : Nat} {A : Around} (r : Room k A) : A.units + 1 < cLine := by have := r.un; omega
end DL
set_option Elab.async false
set_option linter.all false
set_option maxRecDepth 100000
set_option maxHeartbeats 4000000
namespace DL
open PySem PySem.Spec PyProof.Rows L2
/-- d.get(k, x) -/
@[simp] def eDGet2 (to ti tx : EE) : EE := fun s G Q => to s G fun o G1 => (lkD G1 o).isSome = true ∧ ti s G1 fun y G2 => tx s G2 fun z G3 => match lkD G3 o, keyD y with
  | some (ks, ds), some k => Q ((valD ks ds k).getD z) G3
  | _, _ => False
/-- d.get(k) -/
@[simp] def eDGet1 (to ti : EE) : EE := fun s G Q => to s G fun o G1 => (lkD G1 o).isSome = true ∧ ti s G1 fun y G3 => match lkD G3 o, keyD y with
  | some (ks, ds), some k => Q ((valD ks ds k).getD .non) G3
  | _, _ => False
def dropKs : List Key → Key → List Key
  | k' :: ks, k => if k' = k then dropKs ks k else k' :: dropKs ks k
  | [], _ => []
def dropDs : List Key → List D → Key → List D
  | k' :: ks, d :: ds, k => if k' = k then dropDs ks ds k else d :: dropDs ks ds k
  | _, _, _ => []
/-- d.pop(k), k there, d owned -/
@[simp] def eDPop1 (to ti : EE) : EE := fun s G Q => to s G fun o G1 => (lkD G1 o).isSome = true ∧ ti s G1 fun y G2 => match o, keyD y with
  | .ref p, some k => (match G2 p with
    | some (.dct ks ds) => (match valD ks ds k with
      | some d => Q d (gput G2 p (.dct (dropKs ks k) (dropDs ks ds k)))
      | none => False)
    | _ => False)
  | _, _ => False
section
variable {X : Cx} {K : PySem.W.Frag} {P : Addr → Prop} {G : Gp} {H : Hp}
theorem lkD_is (w : Wo K P G H) {d : D} {v : V} (h : Rep K H G P d v) (e : (lkD G d).isSome = true) : ∃ a, v = .ref a ∧ IsD H a := by
  cases q : lkD G d with
  | none => rw [q] at e; cases e
  | some p =>
    obtain ⟨ks, ds⟩ := p
    obtain ⟨a, xs, rfl, r, _⟩ := lkD_hp w h q
    exact ⟨a, rfl, .inl ⟨_, .inl r⟩⟩
def dropXs : List Key → List V → Key → List V
  | k' :: ks, x :: xs, k => if k' = k then dropXs ks xs k else x :: dropXs ks xs k
  | _, _, _ => []
theorem zip_drop {k : Key} : ∀ (ks : List Key) (xs : List V), ks.length = xs.length → dropK (ks.zip xs) k = (dropKs ks k).zip (dropXs ks xs k)
  | [], xs, _ => by simp [dropK, dropKs]
  | k' :: ks, [], e => by cases e
  | k' :: ks, x :: xs, e => by
    have ih := zip_drop (k := k) ks xs (by simpa using e)
    unfold dropK at ih ⊢
    rw [List.zip_cons_cons, dropKs, dropXs]
    by_cases h : k' = k
    · rw [List.filter_cons_of_neg (by simp [h]), if_pos h, if_pos h, ih]
    · rw [List.filter_cons_of_pos (by simp [h]), if_neg h, if_neg h, List.zip_cons_cons, ih]
theorem reps_drop {k : Key} : ∀ {ks : List Key} {ds : List D} {xs : List V}, Reps K H G P ds xs → ks.length = ds.length → Reps K H G P (dropDs ks ds k) (dropXs ks xs k) ∧ (dropKs ks k).length = (dropDs ks ds k).length
  | [], [], _, q, _ => by unfold Reps at q; subst q; exact ⟨reps_nil, rfl⟩
  | [], _ :: _, _, _, e => by cases e
  | _ :: _, [], _, _, e => by cases e
  | k' :: ks, d' :: ds, _, q, e => by
    unfold Reps at q
    obtain ⟨x, r, rfl, h1, h2⟩ := q
    obtain ⟨a, b⟩ := reps_drop (k := k) h2 (by simpa using e)
    rw [dropDs, dropXs, dropKs]
    by_cases h : k' = k
    · rw [if_pos h, if_pos h, if_pos h]; exact ⟨a, b⟩
    · rw [if_neg h, if_neg h, if_neg h]; exact ⟨reps_cons h1 a, by simp [b]⟩
theorem j_dpop1 {o e : Expr} {eo ee : EE} {apos cpos : Pos} (ho : JE X o eo) (he : JE X e ee) (m : M1 X o "pop" apos e cpos := by exact ⟨rfl, rfl, rfl, rfl⟩) : JE X (.Call (.Attribute o "pop" apos) [e] [] cpos) (eDPop1 eo ee) :=
  ⟨pe_dpop1 ho.pe he.pe m, fun P s G Q σ H R h r k => by
    refine ho.le P s G _ σ H _ h r fun x G1 u H1 s1 w1 r1 h1 => ?_
    obtain ⟨a, rfl, isd⟩ := lkD_is w1 r1 h1.1
    refine ⟨a, rfl, isd, ?_⟩
    refine he.le P s G1 _ σ H1 _ h1.2 (r.step s1 w1) fun y G2 v H2 s2 w2 r2 h2 => ?_
    split at h2
    · rename_i p kk e2
      split at h2
      · rename_i ks ds e1
        split at h2
        · rename_i d e3
          have r1' := r1.step s2
          unfold Rep at r1'
          obtain ⟨ea, _⟩ := r1'
          cases ea
          obtain ⟨ho', e4, xs, rfl, z, q⟩ := w2.own a _ e1
          obtain ⟨v', e5, r5⟩ := val_some q e3
          rw [key_of r2 e2]
          refine ⟨_, kk, v', e4, rfl, e5, ?_⟩
          have l : ks.length = xs.length := by rw [z, q.length]
          rw [zip_drop ks xs l]
          obtain ⟨q6, z6⟩ := reps_drop (k := kk) q z
          have st : Step G2 H2 (gput G2 a (.dct (dropKs ks kk) (dropDs ks ds kk))) (upd H2 a (.dK ((dropKs ks kk).zip (dropXs ks xs kk)))) := Step.chg e1
          exact k _ _ _ _ ((s1.trans s2).trans st) (w2.chg e1 ⟨_, rfl, z6, q6.step st⟩) (r5.step st) h2
        · exact h2.elim
      · exact h2.elim
    · exact h2.elim⟩
def pairsD : List D → Option (List (Key × D))
  | [] => some []
  | .tup [k, d] :: r => (match keyD k, pairsD r with
    | some kk, some ps => some ((kk, d) :: ps)
    | _, _ => none)
  | _ :: _ => none
def mergeDs : List Key → List D → List (Key × D) → List Key × List D
  | ks, ds, [] => (ks, ds)
  | ks, ds, (k, d) :: r => mergeDs (putKs ks k) (putVs ks ds k d) r
@[simp] def cDictPO : CD := fun xs G Q => match xs with
  | [x] => (match (lkL G x).bind pairsD with
    | some ps => ∀ p, G p = none → Q (.ref p) (gput G p (.dct (mergeDs [] [] ps).1 (mergeDs [] [] ps).2))
    | none => False)
  | _ => False
@[simp] def cDictDO : CD := fun xs G Q => match xs with
  | [x] => (match lkD G x with
    | some (ks, ds) => ∀ p, G p = none → Q (.ref p) (gput G p (.dct ks ds))
    | none => False)
  | _ => False
@[simp] def eDispC (k : Key) (d : D) : EE := fun _ G Q => Q (.dct [k] [d]) G
@[simp] def iRv (te : EE) : EI := fun s G Q => te s G fun x G1 => match lkL G1 x with
  | some ds => Q ds.reverse (stays x ds) G1
  | none => False
end
@[simp] def cAbs : CD := fun xs G Q => match xs with
  | [.int i] => Q (.int (if i < 0 then -i else i)) G
  | _ => False
end DL
set_option Elab.async false
set_option linter.all false
set_option maxRecDepth 100000
set_option maxHeartbeats 4000000
namespace DL
open PySem PySem.Spec PyProof.Rows L2
mutual
def frz (p : Addr) (ds : List D) : D → D
  | .ref a => if a = p then .lst ds else .ref a
  | .lst es => .lst (frzs p ds es)
  | .tup es => .tup (frzs p ds es)
  | .dct ks es => .dct ks (frzs p ds es)
  | .non => .non
  | .bl b => .bl b
  | .int b => .int b
  | .str b => .str b
  | .ty b => .ty b
  | .cl b => .cl b
  | .exc a dd f e => .exc a dd f (frz p ds e)
  | .scr b => .scr b
def frzs (p : Addr) (ds : List D) : List D → List D
  | [] => []
  | e :: es => frz p ds e :: frzs p ds es
end
theorem frzs_len {p : Addr} {ds : List D} : ∀ es : List D, (frzs p ds es).length = es.length
  | [] => rfl
  | e :: es => by simp only [frzs, List.length_cons, frzs_len es]
section
variable {K : PySem.W.Frag}
mutual
theorem Rep.frz {P : Addr → Prop} {G G2 : Gp} {H : Hp} {p : Addr} {ds : List D} (h2 : ∀ a, G a = none → G2 a = none) (hp : Rep K H G2 P (.lst ds) (.ref p)) : ∀ {d : D} {v : V}, RefIn G2 (DL.frz p ds d) → Rep K H G P d v → Rep K H G2 P (DL.frz p ds d) v
  | .non, _, _, h => by unfold DL.frz; unfold Rep at h ⊢; exact h
  | .bl _, _, _, h => by unfold DL.frz; unfold Rep at h ⊢; exact h
  | .int _, _, _, h => by unfold DL.frz; unfold Rep at h ⊢; exact h
  | .str _, _, _, h => by unfold DL.frz; unfold Rep at h ⊢; exact h
  | .ty _, _, _, h => by unfold DL.frz; unfold Rep at h ⊢; exact h
  | .cl _, _, _, h => by unfold DL.frz; unfold Rep at h ⊢; exact h
  | .exc a dd f e, _, q, h => by
    unfold DL.frz at q ⊢
    unfold Rep at h ⊢
    simp only [RefIn] at q
    obtain ⟨rfl, g, pp, u, r, t⟩ := h
    exact ⟨rfl, h2 _ g, pp, u, r, Rep.frz h2 hp q t⟩
  | .scr ns, _, _, h => by
    unfold DL.frz
    unfold Rep at h ⊢
    obtain ⟨a, rfl, z, ⟨⟨u, h⟩, g⟩ | ⟨h, g, pp⟩ | h⟩ := h
    · exact ⟨a, rfl, z, .inl ⟨⟨u, h⟩, h2 _ g⟩⟩
    · exact ⟨a, rfl, z, .inr (.inl ⟨h, h2 _ g, pp⟩)⟩
    · exact ⟨a, rfl, z, .inr (.inr h)⟩
  | .ref a, v, q, h => by
    unfold DL.frz at q ⊢
    by_cases e : a = p
    · rw [if_pos e]
      unfold Rep at h
      obtain ⟨rfl, _⟩ := h
      rw [e]; exact hp
    · rw [if_neg e] at q ⊢
      unfold Rep at h ⊢
      simp only [RefIn] at q
      exact ⟨h.1, q⟩
  | .lst es, _, q, h => by
    unfold DL.frz at q ⊢
    simp only [RefIn] at q
    unfold Rep at h ⊢
    obtain ⟨a, xs, rfl, g, p', r, z, t⟩ := h
    exact ⟨a, xs, rfl, h2 _ g, p', r, by rw [frzs_len]; exact z, Reps.frz h2 hp q t⟩
  | .tup es, _, q, h => by
    unfold DL.frz at q ⊢
    simp only [RefIn] at q
    unfold Rep at h ⊢
    obtain ⟨a, xs, rfl, g, p', r, z, t⟩ := h
    exact ⟨a, xs, rfl, h2 _ g, p', r, by rw [frzs_len]; exact z, Reps.frz h2 hp q t⟩
  | .dct ks es, _, q, h => by
    unfold DL.frz at q ⊢
    simp only [RefIn] at q
    unfold Rep at h ⊢
    obtain ⟨a, xs, rfl, g, p', r, z, t⟩ := h
    exact ⟨a, xs, rfl, h2 _ g, p', r, by rw [frzs_len]; exact z, Reps.frz h2 hp q t⟩
theorem Reps.frz {P : Addr → Prop} {G G2 : Gp} {H : Hp} {p : Addr} {ds : List D} (h2 : ∀ a, G a = none → G2 a = none) (hp : Rep K H G2 P (.lst ds) (.ref p)) : ∀ {es : List D} {vs : List V}, RefIns G2 (frzs p ds es) → Reps K H G P es vs → Reps K H G2 P (frzs p ds es) vs
  | [], _, _, h => by unfold frzs; unfold Reps at h ⊢; exact h
  | d :: es, _, q, h => by
    unfold frzs at q ⊢
    simp only [RefIns] at q
    unfold Reps at h ⊢
    obtain ⟨x, r, rfl, h1, h3⟩ := h
    exact ⟨x, r, rfl, Rep.frz h2 hp q.1 h1, Reps.frz h2 hp q.2 h3⟩
end
end
theorem fz_frz {G0 G' G2 : Gp} {p : Addr} {ds : List D} {d : D} (h1 : ∀ a o, G2 a = some o → G' a = some o) (h0 : ∀ a o, G0 a = some o → ∃ o', G2 a = some o') (hc : ∀ a o, G2 a = some o → RefO G2 o ∨ G0 a = some o) (e : G' p = some (.lst ds)) (n : G2 p = none) (hd : RefIns G2 ds) (hr : RefIn G2 (frz p ds d)) : Fz G0 d G' (frz p ds d) G2 := fun K P H0 H v w0 st w r => by
  have h2 : ∀ a, G' a = none → G2 a = none := fun a e => by
    cases q : G2 a with
    | none => rfl
    | some o => rw [h1 a o q] at e; cases e
  obtain ⟨a1, a2, a3⟩ := fz_lstS (p := p) h1 h0 hc e n hd K P H0 H (.ref p) w0 st w (by unfold Rep; exact ⟨rfl, _, e⟩)
  exact ⟨a1, a2, Rep.frz h2 a3 hr r⟩
theorem fin_frz {G0 G' G2 : Gp} {Q : DK} {p : Addr} {ds : List D} {d : D} (h1 : ∀ a o, G2 a = some o → G' a = some o) (h0 : ∀ a o, G0 a = some o → ∃ o', G2 a = some o') (hc : ∀ a o, G2 a = some o → RefO G2 o ∨ G0 a = some o) (e : G' p = some (.lst ds)) (n : G2 p = none) (hd : RefIns G2 ds) (hr : RefIn G2 (frz p ds d)) (q : Q (frz p ds d) G2) : (fin G0 Q).rt d G' := ⟨_, G2, fz_frz h1 h0 hc e n hd hr, q⟩
end DL
set_option Elab.async false
set_option linter.all false
set_option maxRecDepth 100000
set_option maxHeartbeats 4000000
namespace DL
open PySem PySem.Spec PyProof.Rows L2
abbrev Paper := List (Int × Int)
def toll (s : Stretch) (pp : Paper) : Int := ((pp.filter fun x => over s x.1).map (·.2)).sum
def restOf (s : Stretch) (pp : Paper) : Int := if s.w - toll s pp > 0 then s.w - toll s pp else 0
def claimOf (bk : List Stretch) (n : Int) (pp : Paper) : Int := n * (pp.map (·.2)).sum + (bk.map fun s => restOf s pp).sum
theorem stays_of {G : Gp} {x : D} {ds : List D} (h : lkL G x = some ds) : stays x ds G := by
  cases x with
  | ref a =>
    simp only [lkL] at h
    simp only [stays]
    split at h
    · rename_i e; rw [e]; cases h; rfl
    · cases h
  | _ => exact True.intro
end DL
set_option Elab.async false
set_option linter.all false
set_option maxRecDepth 100000
set_option maxHeartbeats 4000000
namespace DL
open PySem PySem.Spec PyProof.Rows L2
end DL
set_option Elab.async false
set_option linter.all false
set_option maxRecDepth 100000
set_option maxHeartbeats 4000000
namespace DL
open PySem PySem.Spec PyProof.Rows L2
/-- the greatest of some ints that is no more than m -/
theorem max_le (L : List Int) (m : Int) : (∀ x ∈ L, m < x) ∨ ∃ a ∈ L, a ≤ m ∧ ∀ x ∈ L, ¬ (a < x ∧ x ≤ m) := by
  induction L with
  | nil => exact .inl (by simp)
  | cons y L ih =>
    rcases ih with h | ⟨a, ha, h1, h2⟩
    · by_cases hy : y ≤ m
      · refine .inr ⟨y, List.mem_cons_self, hy, fun x hx q => ?_⟩
        rcases List.mem_cons.mp hx with z | z
        · omega
        · have := h x z; omega
      · refine .inl fun x hx => ?_
        rcases List.mem_cons.mp hx with z | z
        · omega
        · exact h x z
    · by_cases hy : a < y ∧ y ≤ m
      · refine .inr ⟨y, List.mem_cons_self, hy.2, fun x hx q => ?_⟩
        rcases List.mem_cons.mp hx with z | z
        · omega
        · exact h2 x z ⟨by omega, q.2⟩
      · refine .inr ⟨a, List.mem_cons_of_mem _ ha, h1, fun x hx q => ?_⟩
        rcases List.mem_cons.mp hx with z | z
        · subst z; exact hy q
        · exact h2 x z q
end DL
set_option Elab.async false
set_option linter.all false
set_option maxRecDepth 100000
set_option maxHeartbeats 4000000
namespace DL
open PySem PySem.Spec PyProof.Rows L2
end DL
set_option Elab.async false
set_option linter.all false
set_option maxRecDepth 100000
set_option maxHeartbeats 4000000
namespace DL
open PySem PySem.Spec PyProof.Rows L2
theorem sum_le {α : Type} {f g : α → Int} : ∀ {l : List α}, (∀ x ∈ l, f x ≤ g x) → (l.map f).sum ≤ (l.map g).sum
  | [], _ => by simp
  | x :: l, h => by
    have h1 := h x List.mem_cons_self
    have h2 := sum_le (f := f) (g := g) (l := l) fun y hy => h y (List.mem_cons_of_mem _ hy)
    simp; omega
theorem sum_add {α : Type} {f g : α → Int} : ∀ {l : List α}, (l.map fun x => f x + g x).sum = (l.map f).sum + (l.map g).sum
  | [] => by simp
  | x :: l => by
    have := sum_add (f := f) (g := g) (l := l)
    simp only [List.map_cons, List.sum_cons, this]; omega
theorem sum_sub_le {α : Type} {f : α → Int} {a b : List α} (h : a.Sublist b) (hf : ∀ x ∈ b, 0 ≤ f x) : (a.map f).sum ≤ (b.map f).sum := by
  induction h with
  | slnil => simp
  | cons x _ ih =>
    have h1 := hf x List.mem_cons_self
    have h2 := ih fun y hy => hf y (List.mem_cons_of_mem _ hy)
    simp; omega
  | cons_cons x _ ih =>
    have h2 := ih fun y hy => hf y (List.mem_cons_of_mem _ hy)
    simp; omega
theorem rest_nonneg (s : Stretch) (pp : Paper) : 0 ≤ restOf s pp := by unfold restOf; split <;> omega
theorem rest_ge (s : Stretch) (pp : Paper) : s.w ≤ restOf s pp + toll s pp := by unfold restOf; split <;> omega
theorem some_sub {n : Nat} {l : List Nat} (h : Some n l) : l.Sublist (List.range n) := by
  have e : l = (List.range n).filter fun i => decide (i ∈ l) := up_uniqN h.up (List.Pairwise.filter _ List.pairwise_lt_range) fun i => by
    simp
    exact fun hi => h.lt i hi
  rw [e]
  exact List.filter_sublist
theorem map_range_st (bk : List Stretch) : (List.range bk.length).map (st bk) = bk := by
  apply List.ext_getElem (by simp)
  intro i h1 h2
  simp [st, List.getD_eq_getElem?_getD, List.getElem?_eq_getElem h2]
theorem toll_eq (s : Stretch) : ∀ pp : Paper, toll s pp = (pp.map fun x => if over s x.1 = true then x.2 else 0).sum
  | [] => rfl
  | x :: pp => by
    have ih := toll_eq s pp
    unfold toll at ih ⊢
    by_cases h : over s x.1 = true
    · rw [List.filter_cons_of_pos (by simpa using h)]; simp [h, ih]
    · rw [List.filter_cons_of_neg (by simpa using h)]; simp [h, ih]
theorem load_cons {bk : List Stretch} {i : Nat} {l : List Nat} {m : Int} : (loadAt bk (i :: l) m : Int) = (if over (st bk i) m = true then 1 else 0) + (loadAt bk l m : Int) := by
  unfold loadAt
  by_cases h : over (st bk i) m = true
  · rw [List.filter_cons_of_pos (by simpa using h)]; simp [h]; omega
  · rw [List.filter_cons_of_neg (by simpa using h)]; simp [h]
/-- tolls by moments -/
theorem toll_swap (bk : List Stretch) (pp : Paper) : ∀ (l : List Nat), (l.map fun i => toll (st bk i) pp).sum = (pp.map fun x => x.2 * (loadAt bk l x.1 : Int)).sum
  | [] => by
    have e : (pp.map fun x => x.2 * (loadAt bk [] x.1 : Int)) = pp.map fun _ => (0 : Int) := List.map_congr_left fun x _ => by simp [loadAt]
    rw [e]
    have z : ∀ l : Paper, (l.map fun _ => (0 : Int)).sum = 0 := fun l => by
      induction l with
      | nil => rfl
      | cons x l ih => rw [List.map_cons, List.sum_cons, ih]; rfl
    rw [z]; rfl
  | i :: l => by
    have ih := toll_swap bk pp l
    rw [List.map_cons, List.sum_cons, ih, toll_eq, ← sum_add]
    congr 1
    apply List.map_congr_left
    intro x _
    rw [load_cons, Int.mul_add]
    congr 1
    split <;> simp
theorem worth_le_rest {bk : List Stretch} {l : List Nat} {pp : Paper} (h : Some bk.length l) : worthOf bk l ≤ (bk.map fun s => restOf s pp).sum + (pp.map fun x => x.2 * (loadAt bk l x.1 : Int)).sum := by
  have h1 : worthOf bk l ≤ (l.map fun i => restOf (st bk i) pp).sum + (l.map fun i => toll (st bk i) pp).sum := by
    rw [← sum_add]
    exact sum_le fun i _ => rest_ge _ _
  have h2 : (l.map fun i => restOf (st bk i) pp).sum ≤ (bk.map fun s => restOf s pp).sum := by
    have := sum_sub_le (f := fun i => restOf (st bk i) pp) (some_sub h) fun i _ => rest_nonneg _ _
    have e : (List.range bk.length).map (fun i => restOf (st bk i) pp) = bk.map fun s => restOf s pp := by
      conv => rhs; rw [← map_range_st bk]
      rw [List.map_map]; rfl
    rw [e] at this
    exact this
  rw [toll_swap] at h1
  omega
theorem sum_mul (n : Int) : ∀ l : Paper, (l.map fun x => n * x.2).sum = n * (l.map (·.2)).sum
  | [] => by simp
  | x :: l => by rw [List.map_cons, List.sum_cons, sum_mul n l, List.map_cons, List.sum_cons, Int.mul_add]
/-- .. nor on so many benches -/
theorem weak {bk : List Stretch} {n : Int} {l : List Nat} {pp : Paper} (h : Some bk.length l) (hk : ∀ m, (loadAt bk l m : Int) ≤ n) (hp : ∀ x ∈ pp, 0 ≤ x.2) : worthOf bk l ≤ claimOf bk n pp := by
  have h1 := worth_le_rest (pp := pp) h
  have h2 : (pp.map fun x => x.2 * (loadAt bk l x.1 : Int)).sum ≤ (pp.map fun x => n * x.2).sum := sum_le fun x hx => by
    rw [Int.mul_comm n]; exact Int.mul_le_mul_of_nonneg_left (hk x.1) (hp x hx)
  rw [sum_mul] at h2
  unfold claimOf
  omega
end DL
set_option Elab.async false
set_option linter.all false
set_option maxRecDepth 100000
set_option maxHeartbeats 4000000
namespace DL
open PySem PySem.Spec PyProof.Rows L2
def F_is_whole : Sf := fun ds G Q => ∃ (d : D) (n : String) (a b : Bool), ds = [d] ∧ tyD G d = some n ∧ kitB n "int" = some a ∧ kitB n "bool" = some b ∧ Q (.bl (a && !b)) G
def r_is_whole : ES :=
  (sRet (eAndT (eCB cIsi (eCons (eVar 0) (eCons (eC (.ty "int")) eNil))) (eNotT (eCB cIsi (eCons (eVar 0) (eCons (eC (.ty "bool")) eNil))))))
theorem d_is_whole (ds : List D) (G : Gp) (Q : DK) (h : F_is_whole ds G Q) : r_is_whole (fin G Q) (startD 1 ds) G := by
  obtain ⟨d, n, a, b, rfl, e1, e2, e3, k⟩ := h
  simp [r_is_whole, startD, e1, e2, e3]
  cases a with
  | true => simp at k ⊢; exact fin_id k
  | false => simp at k ⊢; exact fin_id k
end DL
set_option Elab.async false
set_option linter.all false
set_option maxRecDepth 100000
set_option maxHeartbeats 4000000
namespace DL
open PySem PySem.Spec PyProof.Rows L2
def ringD (n : Int) (rs : List Stretch) : D := .tup [.int n, .lst (rs.map Stretch.d)]
@[simp ↓ high] theorem ixr_0 {n : Int} {rs : List Stretch} {G : Gp} {Q : DK} : oIx (ringD n rs) (.int 0) G Q = Q (.int n) G := by simp [ringD, atI, ixN]
@[simp ↓ high] theorem ixr_1 {n : Int} {rs : List Stretch} {G : Gp} {Q : DK} : oIx (ringD n rs) (.int 1) G Q = Q (.lst (rs.map Stretch.d)) G := by simp [ringD, atI, ixN]
end DL
set_option Elab.async false
set_option linter.all false
set_option maxRecDepth 100000
set_option maxHeartbeats 4000000
namespace DL
open PySem PySem.Spec PyProof.Rows L2
end DL
set_option Elab.async false
set_option linter.all false
set_option maxRecDepth 100000
set_option maxHeartbeats 4000000
namespace L2
open PySem PySem.Spec PyProof.Rows
section
variable {X : Cx} {a b c d : Expr} {ta tb tc td : TE} {pos : Pos}
/-- a op b op' c op'' d -/
def tChain3 (r r' r'' : R2) (ta tb tc td : TE) : TE := fun σ H Q => ta σ H fun x H1 => tb σ H1 fun y H2 => r x y H2 fun z H3 => ∃ k, z = .bl k ∧ (if k = true then tc σ H3 fun w H4 => r' y w H4 fun z' H5 => ∃ k', z' = .bl k' ∧ (if k' = true then td σ H5 fun v H6 => r'' w v H6 Q else Q (.bl false) H5) else Q (.bl false) H3)
theorem pe_chain3 {op op' op'' : CmpOp} {r r' r'' : R2} (ho : OpR X (compareOp op) r) (ho' : OpR X (compareOp op') r') (ho'' : OpR X (compareOp op'') r'') (ha : PE X a ta) (hb : PE X b tb) (hc : PE X c tc) (hd : PE X d td)
    (hm : lastMarks [op, op', op''] [b, c, d] = false := by with_unfolding_all rfl) : PE X (.Compare a [op, op', op''] [b, c, d] pos) (tChain3 r r' r'' ta tb tc td) := by
  refine ⟨fun pins s σ H Q I h => ?_⟩
  refine Compare_chain (thn (ha.run pins s σ H _ I h) fun v s1 ⟨x, H1, I1, r1, q1⟩ => chain_link (thn (hb.run pins s1 σ H1 _ I1 q1) fun u s2 ⟨y, H2, I2, r2, q2⟩ =>
    thn (ho pins s2 σ H2 x y v u _ I2 r1 r2 q2) fun d s3 ⟨z, H3, I3, r3, k, e, q3⟩ => ?_)) hm
  subst e
  cases r3
  refine wpAny_truthy_bool ?_
  cases k with
  | false => exact ite_ff ⟨.bl false, H3, I3, rfl, q3⟩
  | true =>
    refine ite_tt (chain_link (thn (hc.run pins s3 σ H3 _ I3 q3) fun w' s4 ⟨z', H4, I4, r4, q4⟩ => thn (ho' pins s4 σ H4 y z' u w' _ I4 r2 r4 q4) fun d' s5 ⟨z5, H5, I5, r5, k5, e5, q5⟩ => ?_))
    subst e5
    cases r5
    refine wpAny_truthy_bool ?_
    cases k5 with
    | false => exact ite_ff ⟨.bl false, H5, I5, rfl, q5⟩
    | true => exact ite_tt (chain_last (thn (hd.run pins s5 σ H5 _ I5 q5) fun w6 s6 ⟨z6, H6, I6, r6, q6⟩ => ho'' pins s6 σ H6 z' z6 w' w6 Q I6 r4 r6 q6))
end
end L2
namespace DL
open PySem PySem.Spec PyProof.Rows L2
@[simp] def eChain3 (r r' r'' : OD) (ta tb tc td : EE) : EE := fun s G Q => ta s G fun x G1 => tb s G1 fun y G2 => r x y G2 fun z G3 => match z with
  | .bl k => if k = true then tc s G3 fun w G4 => r' y w G4 fun z' G5 => (match z' with
    | .bl k' => if k' = true then td s G5 fun v G6 => r'' w v G6 Q else Q (.bl false) G5
    | _ => False) else Q (.bl false) G3
  | _ => False
section
variable {X : Cx} {K : PySem.W.Frag} {a b c d : Expr} {ea eb ec ed : EE} {pos : Pos}
theorem le_chain3 {r r' r'' : R2} {o o' o'' : OD} {ta tb tc td : TE} {a b c d : EE} (lo : LO K r o) (lo' : LO K r' o') (lo'' : LO K r'' o'') (la : LE K ta a) (lb : LE K tb b) (lc : LE K tc c) (ld : LE K td d) : LE K (tChain3 r r' r'' ta tb tc td) (eChain3 o o' o'' a b c d) := fun P s G Q σ H R h rl k => by
  refine la P s G _ σ H _ h rl fun x G1 u H1 s1 w1 r1 h1 => ?_
  refine lb P s G1 _ σ H1 _ h1 (rl.step s1 w1) fun y G2 v H2 s2 w2 r2 h2 => ?_
  refine lo P G2 H2 x y u v _ _ h2 w2 (r1.step s2) r2 fun z G3 vz H3 s3 w3 r3 h3 => ?_
  have sA := (s1.trans s2).trans s3
  cases z with
  | bl bz =>
    rw [rep_b r3]
    refine ⟨bz, rfl, ?_⟩
    cases bz with
    | true =>
      refine lc P s G3 _ σ H3 _ h3 (rl.step sA w3) fun z G4 vz H4 s4 w4 r4 h4 => ?_
      refine lo' P G4 H4 y z v vz _ _ h4 w4 ((r2.step s3).step s4) r4 fun z5 G5 v5 H5 s5 w5 r5 h5 => ?_
      cases z5 with
      | bl b5 =>
        rw [rep_b r5]
        refine ⟨b5, rfl, ?_⟩
        cases b5 with
        | true =>
          refine ld P s G5 _ σ H5 _ h5 (rl.step ((sA.trans s4).trans s5) w5) fun z6 G6 v6 H6 s6 w6 r6 h6 => ?_
          exact lo'' P G6 H6 z z6 vz v6 Q R h6 w6 ((r4.step s5).step s6) r6 fun d G7 w H7 s7 w7 r7 q7 => k d G7 w H7 ((((sA.trans s4).trans s5).trans s6).trans s7) w7 r7 q7
        | false => exact k _ G5 _ H5 ((sA.trans s4).trans s5) w5 rep_bl h5
      | _ => exact h5.elim
    | false => exact k _ G3 _ H3 sA w3 rep_bl h3
  | _ => exact h3.elim
theorem j_chain3 {op op' op'' : CmpOp} {r r' r'' : R2} {o o' o'' : OD} (ho : OpR X (compareOp op) r) (lo : LO X.K r o) (ho' : OpR X (compareOp op') r') (lo' : LO X.K r' o') (ho'' : OpR X (compareOp op'') r'') (lo'' : LO X.K r'' o'') (ha : JE X a ea) (hb : JE X b eb) (hc : JE X c ec) (hd : JE X d ed)
    (hm : lastMarks [op, op', op''] [b, c, d] = false := by with_unfolding_all rfl) : JE X (.Compare a [op, op', op''] [b, c, d] pos) (eChain3 o o' o'' ea eb ec ed) := ⟨pe_chain3 ho ho' ho'' ha.pe hb.pe hc.pe hd.pe hm, le_chain3 lo lo' lo'' ha.le hb.le hc.le hd.le⟩
/-- lists joined: a new one, owned -/
@[simp] def oAddO : OD := fun x y G Q => match lkL G x, lkL G y with
  | some ds, some es => (∀ ns, x ≠ .scr ns) ∧ (∀ ns, y ≠ .scr ns) ∧ ds.length + es.length ≤ sizeLine ∧ ∀ p, G p = none → Q (.ref p) (gput G p (.lst (ds ++ es)))
  | _, _ => False
/-- tuples joined -/
@[simp] def oCatT : OD := fun x y G Q => match x, y with
  | .tup ds, .tup es => ds.length + es.length ≤ sizeLine ∧ Q (.tup (ds ++ es)) G
  | _, _ => False
/-- a list so many times -/
@[simp] def oRep : OD := fun x y G Q => match lkL G x, y with
  | some ds, .int k => (∀ ns, x ≠ .scr ns) ∧ -(2 ^ 63) ≤ k ∧ k < 2 ^ 63 ∧ ds.length * k.toNat ≤ sizeLine ∧ Q (.lst (List.replicate k.toNat ds).flatten) G
  | _, _ => False
/-- a text's slice -/
@[simp] def eSlS (te : EE) (tl th : EO) : EE := fun s G Q => te s G fun x G1 => tl s G1 fun l G2 => th s G2 fun u G3 => match x with
  | .str z => z.length ≤ sizeLine ∧ Q (.str (Txt.slice z l u)) G3
  | _ => False
theorem j_slS {e : Expr} {lo hi : Option Expr} {t : EE} {el eh : EO} {pos p2 : Pos} (he : JE X e t) (hl : JO X lo el) (hu : JO X hi eh) : JE X (.Subscript e (.Slice lo hi none p2) pos) (eSlS t el eh) :=
  ⟨pe_slice C8.sl_txt he.pe hl.po hu.po, fun P s G Q σ H R h r k => by
    refine he.le P s G _ σ H _ h r fun x G1 u H1 s1 w1 r1 h1 => ?_
    refine hl.lp P s G1 _ σ H1 _ h1 (r.step s1 w1) fun l G2 H2 s2 w2 h2 => ?_
    refine hu.lp P s G2 _ σ H2 _ h2 (r.step (s1.trans s2) w2) fun m G3 H3 s3 w3 h3 => ?_
    split at h3
    · rename_i z
      rw [rep_s r1]
      exact ⟨z, rfl, h3.1, k _ G3 _ H3 ((s1.trans s2).trans s3) w3 rep_str h3.2⟩
    · exact h3.elim⟩
/-- tuple(x) of a list or a tuple -/
@[simp] def cTuple : CD := fun xs G Q => match xs with
  | [.tup ds] => Q (.tup ds) G
  | [x] => (match lkL G x with
    | some ds => Q (.tup ds) G
    | none => False)
  | _ => False
end
end DL
set_option Elab.async false
set_option linter.all false
set_option maxRecDepth 100000
set_option maxHeartbeats 4000000
namespace L2
open PySem PySem.Spec PyProof.Rows
section
variable {X : Cx}
def repS (z : Str) (n : Nat) : Str := ⟨(List.replicate n z.cps).foldl (· ++ ·) #[]⟩
/-- a text so many times (two at least) -/
def rRepS : R2 := fun x y H Q => ∃ (z : Str) (k : Int), x = .str z ∧ y = .int k ∧ 2 ≤ k ∧ k ≤ 1000 ∧ 0 < z.length ∧ z.length ≤ 1000 ∧ Q (.str (repS z k.toNat)) H
theorem long_ok {z : Str} {k : Int} (k1 : 2 ≤ k) (k2 : k ≤ 1000) (z2 : z.length ≤ 1000) : PySem.Builtin.Str.tooLong (z.length * k.toNat) = false := by
  have h1 : z.length * k.toNat ≤ 1000 * 1000 := Nat.mul_le_mul z2 (by omega)
  have h2 : 1000 * 1000 ≤ sizeLine := by decide
  unfold PySem.Builtin.Str.tooLong
  simp
  omega
theorem op_repS : OpR X (binaryOp .Mult) rRepS := by
  intro pins s σ H x y v u Q I rx ry h
  obtain ⟨z, k, rfl, rfl, k1, k2, z1, z2, q⟩ := h
  obtain ⟨t, rfl⟩ := rx
  obtain ⟨t', rfl⟩ := ry
  have e1 : ¬ k < 1 := by omega
  have e2 : (k == 1 || z.length == 0) = false := by
    rw [Bool.or_eq_false_iff]
    exact ⟨by simp; omega, by simp; omega⟩
  refine PySem.P.mul_str ?_ (fun _ _ => ?_) (fun _ _ => ?_) ?_
  · rw [decide_eq_false (by omega), decide_eq_false (by omega)]; rfl
  · have : (1000 : Int) ≤ (2 ^ 63 - 1) / k := Int.le_ediv_of_mul_le (by omega) (by omega)
    omega
  · exact long_ok (z := z) (k := k) k1 k2 z2
  · rw [if_neg e1, e2]
    exact ⟨PySem.fits_reps (long_ok k1 k2 z2), .str (repS z k.toNat), H, I.tok _, ⟨_, rfl⟩, q⟩
end
end L2
namespace DL
open PySem PySem.Spec PyProof.Rows L2
@[simp] def oRepS : OD := fun x y G Q => match x, y with
  | .str z, .int k => 2 ≤ k ∧ k ≤ 1000 ∧ 0 < z.length ∧ z.length ≤ 1000 ∧ Q (.str (repS z k.toNat)) G
  | _, _ => False
section
variable {X : Cx} {K : PySem.W.Frag} {a b : Expr} {ea eb : EE} {pos : Pos}
theorem lo_repS : LO K rRepS oRepS := fun P G H x y u v Q R h w rx ry k => by
  unfold oRepS at h
  split at h
  · rename_i z kk
    rw [rep_s rx, rep_i ry]
    obtain ⟨h1, h2, h3, h4, h5⟩ := h
    exact ⟨z, kk, rfl, rfl, h1, h2, h3, h4, k _ G _ H (Step.refl _ _) w rep_str h5⟩
  · exact h.elim
theorem j_repS (ha : JE X a ea) (hb : JE X b eb) : JE X (.BinOp a .Mult b pos) (eOp oRepS ea eb) := j_bin op_repS lo_repS ha hb
end
end DL
set_option Elab.async false
set_option linter.all false
set_option maxRecDepth 100000
set_option maxHeartbeats 4000000
namespace DL
open PySem PySem.Spec PyProof.Rows L2
@[simp] theorem sizeLine_lit : sizeLine = 16777216 := by decide
@[simp] theorem cpow_10 {n : Int} : CPow 10 n ↔ 0 ≤ n ∧ n ≤ 1000000 := by
  unfold CPow
  exact ⟨fun h => ⟨h.1, h.2.1⟩, fun h => ⟨h.1, h.2, by decide⟩⟩
end DL
set_option Elab.async false
set_option linter.all false
set_option maxRecDepth 100000
set_option maxHeartbeats 4000000
namespace PySem
namespace MxD
open Sem (wp)
theorem lpN : (toString "max" ++ toString ".loop" : String) = "max.loop" := by decide
abbrev ls2 (x : Array Value) (c : Nat) : Obj := { cls := .type "list", dict := none, data := .seq x c, slots := #[] }
section
variable {pg : Program} {wd : World} {Ar : Around} {Rs : Result → Shared → Prop} {Ia : Addr} {fq wq : List Addr} {len : Nat} {Pv : Nat → Value → Prop} {Sx : Nat → Heap → Prop} {dd : Value}
theorem turn (Wk : Walks pg wd Ar.in1 Ia fq wq len Pv Sx) (bt : Nat → Nat → Bool) (hc : CmpOf pg wd Ar.in1 .Gt Pv bt) (B : Addr) (hB : B ∉ fq) :
    ∀ (left at_ : Nat) (st : Shared) (top : Value) (ep : Nat), len - (at_ + 1) = left → at_ + 1 ≤ len → Sx (at_ + 1) st.heap → Pv (argBest bt at_) top →
    st.heap.get? B = some (ls2 #[top, top] ep) →
    (∀ v hp tk, Pv (argBest bt (len - 1)) v → (∀ b o, b ∉ wq → b ≠ B → st.heap.get? b = some o → hp.get? b = some o) → Rs (.ok (.ret v)) { st with heap := hp, toks := tk }) →
    codeAny (model pg wd) Ar (.builtin "max.loop" ⟨[.ref Ia, .none, .ref B], [(Str.ofString "default", dd)]⟩) Rs st := by
  have nw : B ∉ wq := fun z => hB (Wk.sub _ z)
  intro left
  induction left with
  | zero =>
    intro at_ st top ep e1 e2 hs hp hl hR
    have e3 : at_ + 1 = len := by omega
    refine codeAny_builtin F.entry_max_loop ?_
    rw [Around.under_plainId F.plain_max_loop _]
    show wpAny _ Ar.in1 (seqItems? (.ref B) >>= _) _ _ st
    refine wpAny_bind (wpAny_seqItems hl rfl ?_)
    show wpAny _ Ar.in1 (tryCatch (pyNext (.ref Ia)) _ >>= _) _ _ st
    refine wpAny_bind (wpAny_tryCatch (Wk.done st _ _ (e3 ▸ hs) fun hp2 tk kk => ?_))
    have hl2 := kk B _ nw hl
    show wpAny _ Ar.in1 (updateSeq B (fun _ => #[]) >>= _) _ _ _
    refine wpAny_bind ?_
    refine wpAny_updateSeq hl2 rfl (wpAny_bind (wpAny_letGo (wpAny_pure ?_)))
    exact hR top _ tk (by rw [← e3]; exact hp) fun b o n1 n2 e => (Heap.get?_update_other _ _ (Ne.symm n2)).trans (kk b o n1 e)
  | succ left again =>
    intro at_ st top ep e1 e2 hs hp hl hR
    have e3 : at_ + 1 < len := by omega
    refine codeAny_builtin F.entry_max_loop ?_
    rw [Around.under_plainId F.plain_max_loop _]
    show wpAny _ Ar.in1 (seqItems? (.ref B) >>= _) _ _ st
    refine wpAny_bind (wpAny_seqItems hl rfl ?_)
    show wpAny _ Ar.in1 (tryCatch (pyNext (.ref Ia)) _ >>= _) _ _ st
    refine wpAny_bind (wpAny_tryCatch (Wk.item (at_ + 1) st _ _ e3 hs fun v hp2 tk hv hs2 kk => ?_))
    have hl2 := kk B _ nw hl
    show wpAny _ Ar.in1 (tryCatch (holding [v, v] (richCompare .Gt v top >>= _)) _ >>= _) _ _ _
    refine wpAny_bind (wpAny_tryCatch (wpAny_holding (wpAny_bind (hc (at_ + 1) (argBest bt at_) v top _ _ _ hv hp ?_))))
    refine wpAny_bind (wpAny_holding (wpAny_truthy_bool ?_))
    refine wpAny_bind (wpAny_letGo (wpAny_pure ?_))
    cases eb : bt (at_ + 1) (argBest bt at_) with
    | true =>
      simp only [if_true]
      refine wpAny_bind ?_
      refine wpAny_updateSeq hl2 rfl (wpAny_bind (wpAny_letGo ?_))
      rw [lpN]
      refine wpAny_pure ⟨plainId_quiet F.plain_max_loop _, again (at_ + 1) _ v _ (by omega) e3 (Wk.frame _ _ _ hs2 fun b bf o e => ?_) (by simp only [argBest, eb, if_true]; exact hv) (Heap.get?_update_self _ hl2 rfl) fun u hp3 tk3 hu k3 => ?_⟩
      · exact (Heap.get?_update_other _ _ (fun z : B = b => hB (by rw [z]; exact bf))).trans e
      · exact hR u hp3 tk3 hu fun b o n1 n2 e => k3 b o n1 n2 ((Heap.get?_update_other _ _ (Ne.symm n2)).trans (kk b o n1 e))
    | false =>
      simp only [Bool.false_eq_true, if_false]
      refine wpAny_bind (wpAny_letGo ?_)
      rw [lpN]
      refine wpAny_pure ⟨plainId_quiet F.plain_max_loop _, again (at_ + 1) _ top ep (by omega) e3 hs2 (by simp only [argBest, eb, Bool.false_eq_true, if_false]; exact hp) hl2 fun u hp3 tk3 hu k3 => ?_⟩
      exact hR u hp3 tk3 hu fun b o n1 n2 e => k3 b o n1 n2 (kk b o n1 e)
theorem first (Wk : Walks pg wd Ar.in1 Ia fq wq len Pv Sx) (bt : Nat → Nat → Bool) (hc : CmpOf pg wd Ar.in1 .Gt Pv bt) (B : Addr) (hB : B ∉ fq) {st : Shared} {ep : Nat} (hs : Sx 0 st.heap)
    (hl : st.heap.get? B = some (ls2 #[] ep)) (h0 : len = 0 → ∀ hp tk, (∀ b o, b ∉ wq → b ≠ B → st.heap.get? b = some o → hp.get? b = some o) → Rs (.ok (.ret dd)) { st with heap := hp, toks := tk })
    (hR : 0 < len → ∀ v hp tk, Pv (argBest bt (len - 1)) v → (∀ b o, b ∉ wq → b ≠ B → st.heap.get? b = some o → hp.get? b = some o) → Rs (.ok (.ret v)) { st with heap := hp, toks := tk }) :
    codeAny (model pg wd) Ar (.builtin "max.loop" ⟨[.ref Ia, .none, .ref B], [(Str.ofString "default", dd)]⟩) Rs st := by
  have nw : B ∉ wq := fun z => hB (Wk.sub _ z)
  refine codeAny_builtin F.entry_max_loop ?_
  rw [Around.under_plainId F.plain_max_loop _]
  show wpAny _ Ar.in1 (seqItems? (.ref B) >>= _) _ _ st
  refine wpAny_bind (wpAny_seqItems hl rfl ?_)
  show wpAny _ Ar.in1 (tryCatch (pyNext (.ref Ia)) _ >>= _) _ _ st
  rcases Nat.eq_zero_or_pos len with z | z
  · refine wpAny_bind (wpAny_tryCatch (Wk.done st _ _ (z ▸ hs) fun hp2 tk kk => ?_))
    show wpAny _ Ar.in1 (rule _ >>= _) _ _ _
    refine wpAny_bind (wpAny_rule ?_)
    exact wpAny_pure (h0 z hp2 _ fun b o n1 _ e => kk b o n1 e)
  · refine wpAny_bind (wpAny_tryCatch (Wk.item 0 st _ _ z hs fun v hp2 tk hv hs2 kk => ?_))
    have hl2 := kk B _ nw hl
    show wpAny _ Ar.in1 (updateSeq B (fun _ => #[v, v]) >>= _) _ _ _
    refine wpAny_bind ?_
    refine wpAny_updateSeq hl2 rfl ?_
    rw [lpN]
    refine wpAny_pure ⟨plainId_quiet F.plain_max_loop _, turn Wk bt hc B hB _ 0 _ v _ rfl z (Wk.frame _ _ _ hs2 fun b bf o e => ?_) hv (Heap.get?_update_self _ hl2 rfl) fun u hp3 tk3 hu k3 => ?_⟩
    · exact (Heap.get?_update_other _ _ (fun z : B = b => hB (by rw [z]; exact bf))).trans e
    · exact hR z u hp3 tk3 hu fun b o n1 n2 e => k3 b o n1 n2 ((Heap.get?_update_other _ _ (Ne.symm n2)).trans (kk b o n1 e))
end
end MxD
end PySem
namespace L2
open PySem PySem.Spec PyProof.Rows
end L2
namespace DL
open PySem PySem.Spec PyProof.Rows L2
/-- max(xs, default=d) -/
@[simp] def eMaxD (te td : EE) : EE := fun s G Q => te s G fun x G1 => td s G1 fun d G2 => match (lkL G2 x).bind intsD with
  | some ns => (ns = [] → Q d G2) ∧ (ns ≠ [] → ∀ m, m ∈ ns → (∀ y, y ∈ ns → y ≤ m) → Q (.int m) G2)
  | none => False
end DL
set_option Elab.async false
set_option linter.all false
set_option maxRecDepth 100000
set_option maxHeartbeats 4000000
namespace L2
open PySem PySem.Spec PyProof.Rows PySem.W
end L2
namespace DL
open PySem PySem.Spec PyProof.Rows L2 PySem.W
/-- sorted(xs), xs alike data: a new list, frozen -/
@[simp] def cSrtD : CD := fun xs G Q => match xs with
  | [x] => (match lkL G x with
    | some ds => (match toPys G ds with
      | some ps => AllAlike ps ∧ Sortable ps ∧ (∀ p ∈ ps, p.depth ≤ 40) ∧ Q (.lst (((ds.zip ps).mergeSort (dataLe false (fun z : D × PyData => z.2))).map (·.1))) G
      | none => False)
    | none => False)
  | _ => False
end DL
set_option Elab.async false
set_option linter.all false
set_option maxRecDepth 100000
set_option maxHeartbeats 4000000
namespace DL
open PySem PySem.Spec PyProof.Rows L2
theorem ofStr_injective {a b : String} (h : Str.ofString a = Str.ofString b) : a = b := by
  rw [Str.ofString_eq_toList, Str.ofString_eq_toList] at h
  simp only [Str.mk.injEq] at h
  have h2 := congrArg Array.toList h
  simp only [List.toList_toArray] at h2
  have h3 : a.toList = b.toList := (List.map_inj_right (fun x y e => Char.toNat_inj.mp e)).mp h2
  exact String.toList_inj.mp h3
@[simp] theorem ofStr_eq {a b : String} : Str.ofString a = Str.ofString b ↔ a = b := ⟨ofStr_injective, fun h => by rw [h]⟩
@[simp] def lkF (f : Str) : List Str → List D → Option D
  | k :: ks, d :: ds => if k = f then some d else lkF f ks ds
  | _, _ => none
@[simp] def putFk (f : Str) : List Str → List Str
  | [] => [f]
  | k :: ks => if k = f then k :: ks else k :: putFk f ks
@[simp] def putFv (f : Str) (y : D) : List Str → List D → List D
  | k :: ks, d :: ds => if k = f then y :: ds else d :: putFv f y ks ds
  | _, _ => [y]
section
variable {X : Cx} {Y : Wx} {K : PySem.W.Frag} {P : Addr → Prop} {G : Gp} {H : Hp} {C f : Str}
theorem lkF_look : ∀ {ks : List Str} {ds : List D} {xs : List V} {d : D}, Reps K H G P ds xs → lkF f ks ds = some d → ∃ v, (ks.zip xs).lookup f = some v ∧ Rep K H G P d v
  | [], _, _, _, _, e => by simp at e
  | _ :: _, [], _, _, _, e => by simp at e
  | k :: ks, d :: ds, _, d', h, e => by
    unfold Reps at h
    obtain ⟨x, r, rfl, h1, h2⟩ := h
    unfold lkF at e
    by_cases hk : k = f
    · subst hk
      rw [if_pos rfl] at e
      cases e
      exact ⟨x, by simp [List.lookup], h1⟩
    · rw [if_neg hk] at e
      obtain ⟨v, e1, e2⟩ := lkF_look h2 e
      refine ⟨v, ?_, e2⟩
      have : (f == k) = false := by simp; exact fun z => hk z.symm
      simp [List.lookup, this, e1]
theorem put_F {y : D} {v : V} (hy : Rep K H G P y v) : ∀ {ks : List Str} {ds : List D} {xs : List V}, Reps K H G P ds xs → ks.length = ds.length → ∃ ys, putF f v (ks.zip xs) = (putFk f ks).zip ys ∧ (putFk f ks).length = (putFv f y ks ds).length ∧ Reps K H G P (putFv f y ks ds) ys
  | [], [], _, h, _ => by unfold Reps at h; subst h; exact ⟨[v], rfl, rfl, reps_cons hy reps_nil⟩
  | [], _ :: _, _, _, e => by simp at e
  | _ :: _, [], _, _, e => by simp at e
  | k :: ks, d :: ds, _, h, e => by
    unfold Reps at h
    obtain ⟨x, r, rfl, h1, h2⟩ := h
    by_cases hk : k = f
    · refine ⟨v :: r, by simp [putF, hk], by simpa [hk] using e, ?_⟩
      simp [hk]
      exact reps_cons hy h2
    · obtain ⟨ys, e1, e2, e3⟩ := put_F hy h2 (by simpa using e)
      refine ⟨x :: ys, by simp [putF, hk, e1], by simpa [hk] using e2, ?_⟩
      simp [hk]
      exact reps_cons h1 e3
theorem look_none : ∀ {ks : List Str} {xs : List V}, f ∉ ks → (ks.zip xs).lookup f = none
  | [], _, _ => rfl
  | _ :: _, [], _ => rfl
  | k :: ks, x :: xs, h => by
    simp only [List.mem_cons, not_or] at h
    have : (f == k) = false := by simp; exact h.1
    simp [List.lookup, this, look_none h.2]
/-- o.f, an instance of the class named C -/
@[simp] def eFld (C f : Str) (te : EE) : EE := fun s G Q => te s G fun x G1 => match x with
  | .ref a => (match G1 a with
    | some (.ins C' _ ks ds) => C' = C ∧ (match lkF f ks ds with
      | some d => Q d G1
      | none => False)
    | _ => False)
  | _ => False
theorem j_fld {o : Expr} {te : EE} {pos : Pos} (c : Cls X.K (He.ga X.K C)) (n : NoAttr X.K (He.ga X.K C) f) (ho : JE X o te) (hb : attributeBase o f X.env (eval o X.env) = eval o X.env := by rfl) : JE X (.Attribute o f pos) (eFld C f te) :=
  ⟨pe_fld ho.pe hb, fun P s G Q σ H R h r k => by
    refine ho.le P s G _ σ H _ h r fun x G1 u H1 s1 w1 r1 h1 => ?_
    split at h1
    · rename_i a
      split at h1
      · rename_i C' dx ks ds e
        obtain ⟨rfl, h1⟩ := h1
        split at h1
        · rename_i d e2
          unfold Rep at r1
          obtain ⟨rfl, _⟩ := r1
          obtain ⟨ho', e3, xs, rfl, z, q⟩ := w1.own a _ e
          obtain ⟨v, e4, r4⟩ := lkF_look q e2
          exact ⟨a, _, dx, _, v, rfl, e3, c, n, e4, k _ G1 _ H1 s1 w1 r4 h1⟩
        · exact h1.elim
      · exact h1.elim
    · exact h1.elim⟩
/-- o.f = e -/
@[simp] def sFldD (C f : Str) (te to : EE) : ES := fun N s G => te s G fun v G1 => to s G1 fun o G2 => match o with
  | .ref a => (match G2 a with
    | some (.ins C' dx ks ds) => C' = C ∧ ks.length < 1000 ∧ N.nx s (gput G2 a (.ins C dx (putFk f ks) (putFv f v ks ds)))
    | _ => False)
  | _ => False
theorem js_fld {o e : Expr} {eo ee : EE} {p' pos : Pos} (c : Cls X.K (He.ga X.K C)) (n : NoAttr X.K (He.ga X.K C) f) (ho : JE X o eo) (he : JE X e ee) (hs : swapsWith e (some (.Attribute o f p')) pos.line X.env = pure false := by rfl) :
    JS X Y (.Assign [.Attribute o f p'] e pos) (sFldD C f ee eo) :=
  ⟨ps_fld ho.pe he.pe hs, fun P s G N σ H M h r k => by
    refine he.le P s G _ σ H _ h r fun v G1 u H1 s1 w1 r1 h1 => ?_
    refine ho.le P s G1 _ σ H1 _ h1 (r.step s1 w1) fun od G2 ov H2 s2 w2 r2 h2 => ?_
    split at h2
    · rename_i a
      split at h2
      · rename_i C' dx ks ds e
        obtain ⟨rfl, hl, h2⟩ := h2
        unfold Rep at r2
        obtain ⟨rfl, _⟩ := r2
        obtain ⟨ho', e3, xs, rfl, z, q⟩ := w2.own a _ e
        obtain ⟨ys, e4, z4, q4⟩ := put_F (f := f) (r1.step s2) q z
        refine ⟨a, _, dx, _, rfl, e3, c, n, by rw [List.length_zip]; exact Nat.lt_of_le_of_lt (Nat.min_le_left _ _) hl, ?_⟩
        rw [e4]
        have st : Step G2 H2 (gput G2 a (.ins C' dx (putFk f ks) (putFv f v ks ds))) (upd H2 a (.ins (He.ga X.K C') dx ((putFk f ks).zip ys))) := Step.chg e
        have sA := (s1.trans s2).trans st
        exact k.nx s _ σ _ sA (r.step sA (w2.chg e ⟨_, rfl, z4, q4.step st⟩)) h2
      · exact h2.elim
    · exact h2.elim⟩
/-- an instance of the class named C without a field m of its own -/
@[simp] def isIns (C m : Str) (G : Gp) : D → Prop
  | .ref a => (match G a with
    | some (.ins C' _ ks _) => C' = C ∧ m ∉ ks
    | _ => False)
  | _ => False
/-- o.m(..) -/
@[simp] def eMeth (C m : Str) (F : Sf) (to : EE) (t : EA) : EE := fun s G Q => to s G fun x G1 => isIns C m G1 x ∧ t s G1 fun xs G2 => F (x :: xs) G2 Q
/-- C(..) -/
@[simp] def eMake (C : Str) (F : Sf) (t : EA) : EE := fun s G Q => t s G fun xs G1 => ∀ x dx, G1 x = none → F (.ref x :: xs) (gput G1 x (.ins C dx [] [])) fun d G2 => d = .non ∧ Q (.ref x) G2
theorem is_ins {x : D} {u : V} (w : Wo K P G H) {m : Str} (r : Rep K H G P x u) (h : isIns C m G x) : ∃ a dx fs, u = .ref a ∧ H a = some (.ins (He.ga K C) dx fs) ∧ fs.lookup m = none := by
  unfold isIns at h
  split at h
  · rename_i a
    split at h
    · rename_i C' dx ks ds e
      obtain ⟨rfl, hm⟩ := h
      unfold Rep at r
      obtain ⟨rfl, _⟩ := r
      obtain ⟨ho', e3, xs, rfl, z, q⟩ := w.own a _ e
      exact ⟨a, dx, _, rfl, e3, look_none hm⟩
    · exact h.elim
  · exact h.elim
theorem le_meth {n : Nat} {m : Str} {F : Sf} {E : XK} {to : TE} {eo : EE} {t : TA} {ea : EA} (ho : LE K to eo) (ha : LA K n t ea) : LE K (tMeth (He.ga K C) m (Lf K (n + 1) F) [] E to t) (eMeth C m F eo ea) := fun P s G Q σ H R h rl k => by
  refine ho P s G _ σ H _ h rl fun x G1 u H1 s1 w1 r1 h1 => ?_
  obtain ⟨a, dx, fs, rfl, e1, e2⟩ := is_ins w1 r1 h1.1
  refine ⟨a, dx, fs, rfl, e1, e2, ?_⟩
  refine ha P s G1 _ σ H1 _ h1.2 (rl.step s1 w1) fun xs G2 us H2 s2 w2 r2 hn h2 => ?_
  refine ⟨?_, P, x :: xs, G2, Q, w2, reps_cons (r1.step s2) (by rw [List.append_nil]; exact r2), h2, fun d G' v H' st w' r' q' => k d G' v H' ((s1.trans s2).trans st) w' r' q'⟩
  rw [List.append_nil, List.length_cons, ← r2.length, hn]
/-- a method of the text: it keeps the promise F -/
structure CalM (P : Program) (w : World) (K : PySem.W.Frag) (mg : Str → Option Value) (base : Heap) (k : Nat) (C m : Str) (ps : List Str) (F : Sf) : Prop where
  ex : ∃ fd, FK P w K mg base k (He.ma K (He.ga K C) m) fd ps F ∧ Cls K (He.ga K C) ∧ Meth K (He.ga K C) m (He.ma K (He.ga K C) m) ∧ Binds K fd ps []
theorem j_meth {k : Nat} {m : Str} {ps : List Str} {F : Sf} {o e : Expr} {es : List Expr} {eo : EE} {ea : EA} {apos pos : Pos} {pl : Sem Bool} (c : CalM X.prog X.w K X.mg X.base k C m ps F) (hr : Room k X.A) (ho : JE X o eo) (ha : JA X (e :: es) ea) (hK : X.K = K := by rfl) (hlen : (e :: es).length + 1 = ps.length := by rfl)
    (hst : starEach (e :: es) X.env = (false, eval e X.env) :: starEach es X.env := by rfl) (hpl : (backTo pos (starEach es X.env)).any (·.1) = false := by rfl)
    (ht : eval (.Call (.Attribute o m apos) (e :: es) [] pos) X.env = (do let ov ← eval o X.env; standAt apos.atName; let (f, first) ← holding [ov] (getMethod ov m pl); callWith pos f first (backTo pos (starEach (e :: es) X.env)) (backToKw pos (keywordEach [] X.env))) := by rfl) :
    JE X (.Call (.Attribute o m apos) (e :: es) [] pos) (eMeth C m F eo ea) := by
  subst hK
  obtain ⟨fd, h1, h2, h3, h4⟩ := c.ex
  have h1' := h1
  unfold FK at h1'
  rw [← hlen] at h1'
  exact ⟨pe_meth ho.pe h2 h3 h1' hr h4 .nil pass0 ha.pa hst hpl ht, le_meth (E := fun _ _ _ => False) ho.le ha.la⟩
theorem le_make {n : Nat} {F : Sf} {E : XK} {t : TA} {ea : EA} (ha : LA K n t ea) : LE K (tMake (He.ga K C) (Lf K (n + 1) F) [] E t) (eMake C F ea) := fun P s G Q σ H R h rl k => by
  refine ha P s G _ σ H _ h rl fun xs G1 us H1 s1 w1 r1 hn h1 => ?_
  intro x dx hx hdx ne
  have nx : x ≠ dx := fun z => ne z.symm
  have w2 : Wo K P G1 (upd H1 dx (.own x)) := w1.new hdx
  have st2 : Step G1 H1 G1 (upd H1 dx (.own x)) := Step.new hdx
  have hx2 : upd H1 dx (.own x) x = none := by rw [upd_ne nx]; exact hx
  have st3 : Step G1 (upd H1 dx (.own x)) (gput G1 x (.ins C dx [] [])) (upd (upd H1 dx (.own x)) x (.ins (He.ga K C) dx [])) := Step.newOwn w2 hx2
  have w3 : Wo K P (gput G1 x (.ins C dx [] [])) (upd (upd H1 dx (.own x)) x (.ins (He.ga K C) dx [])) := w2.newOwn hx2 ⟨[], rfl, rfl, reps_nil⟩
  refine ⟨by rw [List.append_nil, List.length_cons, ← r1.length, hn], P, .ref x :: xs, _, _, w3, reps_cons (by unfold Rep; exact ⟨rfl, _, gput_same⟩) (by rw [List.append_nil]; exact r1.step (st2.trans st3)), h1 x dx (w1.fresh hx).1, fun d G' v H' st w' r' q' => ?_⟩
  obtain ⟨rfl, q'⟩ := q'
  have sA := (s1.trans (st2.trans st3)).trans st
  refine ⟨rep_n r', k _ G' _ H' sA w' ?_ q'⟩
  unfold Rep
  exact ⟨rfl, st.own x _ gput_same⟩
/-- a class of the text, made by its __init__ -/
structure CalK (P : Program) (w : World) (K : PySem.W.Frag) (mg : Str → Option Value) (base : Heap) (k : Nat) (C : Str) (ps : List Str) (F : Sf) : Prop where
  ex : ∃ fd, FK P w K mg base k (He.ma K (He.ga K C) "__init__") fd ps F ∧ Mk K (He.ga K C) (He.ma K (He.ga K C) "__init__") ∧ Binds K fd ps [] ∧ mg C = some (.ref (He.ga K C))
/-- a method as it stands behind the top -/
structure DfM (K : PySem.W.Frag) (C m q : Str) (st : Stmt) : Prop where
  ex : ∃ fd, FunD K m q (defArgs st) (defBody st) (defScope st) [] [] (He.ma K (He.ga K C) m) fd
theorem fk_meth {P : Program} {w : World} {mg : Str → Option Value} {base : Heap} {m q : Str} {st : Stmt} {N ps : List Str} {k : Nat} {F : Sf} {es : ES} (D : DfM K C m q st) (S : FnScope N ps (defScope st))
    (hb : ∀ (kV doc pm : Value) (an : Option Addr) (cdv ct : Value) (us : List Value), us.length = ps.length → bindArgs (PySem.W.fnOf m q (defArgs st) (defBody st) (defScope st) .none kV doc pm an cdv ct) ⟨us, []⟩ = pure (ps.zip us))
    (hJ : ∀ (f : Addr) (cdv : Value) (A : Around) (outer : List Env) (s : Shared) (H : Hp) (E : XK), Room k (A.deeper (envOfC q (defScope st) s.heap.objs.size f cdv)) → JSs (cxOf CX0 P w K mg base N q (defScope st) f cdv A outer s H E).nox y0 (defBody st) es)
    (hR : ∀ ds G Q, F ds G Q → es (fin G Q) (startD N.length ds) G) : ∃ fd, FK P w K mg base (k + 1) (He.ma K (He.ga K C) m) fd ps F ∧ Binds K fd ps [] := by
  obtain ⟨fd, h1⟩ := D.ex
  exact ⟨fd, fk_ok h1 S (hJ _) hR, h1.bindsN hb⟩
theorem calK_ok {P : Program} {w : World} {mg : Str → Option Value} {base : Heap} {ps : List Str} {k : Nat} {F : Sf} (hm : Mk K (He.ga K C) (He.ma K (He.ga K C) "__init__")) (hg : mg C = some (.ref (He.ga K C))) (h : ∃ fd, FK P w K mg base k (He.ma K (He.ga K C) "__init__") fd ps F ∧ Binds K fd ps []) : CalK P w K mg base k C ps F :=
  let ⟨fd, a, b⟩ := h; ⟨fd, a, hm, b, hg⟩
end
end DL
set_option Elab.async false
set_option linter.all false
set_option maxRecDepth 100000
set_option maxHeartbeats 4000000
namespace LN
/-- sums over 0 .. n - 1 -/
def sumN : Nat → (Nat → Int) → Int
  | 0, _ => 0
  | n + 1, f => sumN n f + f n
def fup {α : Type} (f : Nat → α) (i : Nat) (x : α) : Nat → α := fun j => if j = i then x else f j
structure Sp3 where
  b : Nat
  e : Nat
  w : Int
inductive Kd where
  | idle | fill | unidle | unfill | take | leave
  deriving DecidableEq
structure Arc where
  u : Nat
  v : Nat
  g : Int
  k : Kd
  i : Nat
/-- the line's state -/
structure LS where
  n : Nat
  m : Nat
  sp : Nat → Sp3
  must : Nat → Int
  filled : Nat → Int
  idle : Nat → Int
  taken : Nat → Bool
  great : Int
abbrev Gn := Nat → Option Int
abbrev La := Nat → Option Arc
/-- one arc looked at; whether anything changed -/
structure RS where
  g : Gn
  l : La
  ch : Bool
/-- what a change makes less -/
def nones (n : Nat) (g : Gn) : Int := sumN n fun v => if g v = none then 1 else 0
def gap (n : Nat) (p : Nat → Int) (g : Gn) : Int := sumN n fun v => match g v with
  | none => 0
  | some x => p v - p 0 - x
def Less (n : Nat) (p : Nat → Int) (g' g : Gn) : Prop := nones n g' < nones n g ∨ (nones n g' = nones n g ∧ gap n p g' < gap n p g)
theorem Less.trans {n : Nat} {p : Nat → Int} {a b c : Gn} (h : Less n p a b) (k : Less n p b c) : Less n p a c := by
  unfold Less at *; omega
def start : RS := ⟨fup (fun _ => none) 0 (some 0), fun _ => none, true⟩
def go (S : LS) (a : Arc) : LS := match a.k with
  | .idle => { S with idle := fup S.idle a.i (S.idle a.i + 1) }
  | .unidle => { S with idle := fup S.idle a.i (S.idle a.i - 1) }
  | .fill => { S with filled := fup S.filled a.i (S.filled a.i + 1) }
  | .unfill => { S with filled := fup S.filled a.i (S.filled a.i - 1) }
  | .take => { S with taken := fup S.taken a.i true }
  | .leave => { S with taken := fup S.taken a.i false }
/-- the gain of all that was sent -/
def val (S : LS) : Int := sumN S.m (fun i => if S.taken i = true then (S.sp i).w else 0) + sumN S.n S.filled * S.great
end LN
set_option Elab.async false
set_option linter.all false
set_option maxRecDepth 100000
set_option maxHeartbeats 4000000
namespace DL
open PySem PySem.Spec PyProof.Rows L2 LN
def fnL (n : Nat) (f : Nat → D) : List D := (List.range n).map f
@[simp] theorem fnL_len {n : Nat} {f : Nat → D} : (fnL n f).length = n := by simp [fnL]
def kdS : Kd → Str
  | .idle => "idle"
  | .fill => "fill"
  | .unidle => "unidle"
  | .unfill => "unfill"
  | .take => "take"
  | .leave => "leave"
def arcD (a : Arc) : D := .tup [.int (a.u : Nat), .int (a.v : Nat), .int a.g, .str (kdS a.k), .int (a.i : Nat)]
def sp3D (s : Sp3) : D := .tup [.int (s.b : Nat), .int (s.e : Nat), .int s.w]
@[simp ↓ high] theorem ixa_0 {a : Arc} {G : Gp} {Q : DK} : oIx (arcD a) (.int 0) G Q = Q (.int (a.u : Nat)) G := by simp [arcD, atI, ixN]
@[simp ↓ high] theorem ixa_1 {a : Arc} {G : Gp} {Q : DK} : oIx (arcD a) (.int 1) G Q = Q (.int (a.v : Nat)) G := by simp [arcD, atI, ixN]
@[simp ↓ high] theorem ixa_2 {a : Arc} {G : Gp} {Q : DK} : oIx (arcD a) (.int 2) G Q = Q (.int a.g) G := by simp [arcD, atI, ixN]
def lineKs : List Str := ["own_spans", "own_must", "filled", "idle", "taken", "great"]
def lineDs (S : LN.LS) (af ai at_ : Addr) : List D := [.lst (fnL S.m fun i => sp3D (S.sp i)), .lst (fnL S.n fun k => .int (S.must k)), .ref af, .ref ai, .ref at_, .int S.great]
def lineO (S : LN.LS) (dx af ai at_ : Addr) : GO := .ins "Line" dx lineKs (lineDs S af ai at_)
section
variable {S : LN.LS} {af ai at_ : Addr}
@[simp] theorem lf_spans : lkF "own_spans" lineKs (lineDs S af ai at_) = some (.lst (fnL S.m fun i => sp3D (S.sp i))) := by simp [lineKs, lineDs]
@[simp] theorem lf_must : lkF "own_must" lineKs (lineDs S af ai at_) = some (.lst (fnL S.n fun k => .int (S.must k))) := by simp [lineKs, lineDs]
@[simp] theorem lf_filled : lkF "filled" lineKs (lineDs S af ai at_) = some (.ref af) := by simp [lineKs, lineDs]
@[simp] theorem lf_idle : lkF "idle" lineKs (lineDs S af ai at_) = some (.ref ai) := by simp [lineKs, lineDs]
@[simp] theorem lf_taken : lkF "taken" lineKs (lineDs S af ai at_) = some (.ref at_) := by simp [lineKs, lineDs]
@[simp] theorem lf_great : lkF "great" lineKs (lineDs S af ai at_) = some (.int S.great) := by simp [lineKs, lineDs]
@[simp] theorem lm_1 : ("piece_arcs" : Str) ∉ lineKs := by simp [lineKs]
@[simp] theorem lm_2 : ("span_arc" : Str) ∉ lineKs := by simp [lineKs]
@[simp] theorem lm_3 : ("arcs_left" : Str) ∉ lineKs := by simp [lineKs]
@[simp] theorem lm_4 : ("roads_told" : Str) ∉ lineKs := by simp [lineKs]
@[simp] theorem lm_5 : ("go_along" : Str) ∉ lineKs := by simp [lineKs]
@[simp] theorem lm_6 : ("send_unit" : Str) ∉ lineKs := by simp [lineKs]
@[simp] theorem lm_7 : ("greatest_over" : Str) ∉ lineKs := by simp [lineKs]
@[simp] theorem lm_8 : ("prices_now" : Str) ∉ lineKs := by simp [lineKs]
@[simp] theorem lm_9 : ("taken_now" : Str) ∉ lineKs := by simp [lineKs]
end
/-- a line stands at x -/
structure LnA (G : Gp) (x dx af ai at_ : Addr) (S : LN.LS) : Prop where
  ob : G x = some (lineO S dx af ai at_)
  fi : G af = some (.lst (fnL S.n fun k => .int (S.filled k)))
  id : G ai = some (.lst (fnL S.n fun k => .int (S.idle k)))
  tk : G at_ = some (.lst (fnL S.m fun i => .bl (S.taken i)))
  n1 : af ≠ ai
  n2 : af ≠ at_
  n3 : ai ≠ at_
  zn : S.n ≤ 1000
  zm : S.m ≤ 1000
end DL
set_option Elab.async false
set_option linter.all false
set_option maxRecDepth 100000
set_option maxHeartbeats 4000000
namespace DL
open PySem PySem.Spec PyProof.Rows L2 LN
theorem LnA.mono {G G' : Gp} {x dx af ai at_ : Addr} {S : LN.LS} (L : LnA G x dx af ai at_ S) (h : ∀ a o, G a = some o → G' a = some o) : LnA G' x dx af ai at_ S := ⟨h _ _ L.ob, h _ _ L.fi, h _ _ L.id, h _ _ L.tk, L.n1, L.n2, L.n3, L.zn, L.zm⟩
end DL
set_option Elab.async false
set_option linter.all false
set_option maxRecDepth 100000
set_option maxHeartbeats 4000000
namespace DL
open PySem PySem.Spec PyProof.Rows L2 LN
end DL
set_option Elab.async false
set_option linter.all false
set_option maxRecDepth 100000
set_option maxHeartbeats 4000000
namespace DL
open PySem PySem.Spec PyProof.Rows L2 LN
end DL
set_option Elab.async false
set_option linter.all false
set_option maxRecDepth 100000
set_option maxHeartbeats 4000000
namespace DL
open PySem PySem.Spec PyProof.Rows L2 LN
end DL
set_option Elab.async false
set_option linter.all false
set_option maxRecDepth 100000
set_option maxHeartbeats 4000000
namespace DL
open PySem PySem.Spec PyProof.Rows L2
mutual
def frzD (G : Gp) : D → Option D
  | .ref a => match G a with
    | some (.lst es) => if plainDs es = true then some (.lst es) else none
    | _ => none
  | .lst ds => (frzDs G ds).map .lst
  | .tup ds => (frzDs G ds).map .tup
  | .dct ks ds => (frzDs G ds).map (.dct ks)
  | .non => some .non
  | .bl b => some (.bl b)
  | .int b => some (.int b)
  | .str b => some (.str b)
  | .ty b => some (.ty b)
  | .cl b => some (.cl b)
  | .exc _ _ _ _ => none
  | .scr b => some (.scr b)
def frzDs (G : Gp) : List D → Option (List D)
  | [] => some []
  | d :: ds => match frzD G d, frzDs G ds with
    | some a, some r => some (a :: r)
    | _, _ => none
end
mutual
def flatT : D → Bool
  | .non => true
  | .bl _ => true
  | .int _ => true
  | .str _ => true
  | .tup ds => flatTs ds
  | _ => false
def flatTs : List D → Bool
  | [] => true
  | d :: ds => flatT d && flatTs ds
end
mutual
def resT : D → Bool
  | .non => true
  | .bl _ => true
  | .int _ => true
  | .str _ => true
  | .ref _ => true
  | .tup ds => resTs ds
  | _ => false
def resTs : List D → Bool
  | [] => true
  | d :: ds => resT d && resTs ds
end
def flatO : GO → Bool
  | .lst ds => flatTs ds
  | _ => false
def gmerge (G G' : Gp) : Gp := fun a => match G' a with
  | some o => some o
  | none => G a
@[simp] theorem gmerge_none {G : Gp} : gmerge G (fun _ => none) = G := rfl
@[simp] theorem gmerge_put {G G' : Gp} {a : Addr} {o : GO} : gmerge G (gput G' a o) = gput (gmerge G G') a o := by
  funext b
  unfold gmerge
  by_cases h : b = a
  · subst h; rw [gput_same, gput_same]
  · rw [gput_ne h, gput_ne h]
@[simp] def eCallB (F : Sf) (ea : EA) : EE := fun s G Q => ea s G fun ds G1 => match frzDs G1 ds with
  | some ds' => F ds' (fun _ => none) fun d G' => resT d = true ∧ (∀ a o, G' a = some o → flatO o = true) ∧ ((∀ a o, G' a = some o → G1 a = none) → Q d (gmerge G1 G'))
  | none => False
section
variable {K : PySem.W.Frag} {P : Addr → Prop} {G : Gp} {H : Hp}
mutual
theorem Rep.bare (w : Wo K P G H) : ∀ {d : D} {v : V}, plainD d = true → Rep K H G P d v → Rep K H (fun _ => none) P d v
  | .non, _, _, h => by unfold Rep at h ⊢; exact h
  | .bl _, _, _, h => by unfold Rep at h ⊢; exact h
  | .int _, _, _, h => by unfold Rep at h ⊢; exact h
  | .str _, _, _, h => by unfold Rep at h ⊢; exact h
  | .ty _, _, _, h => by unfold Rep at h ⊢; exact h
  | .cl _, _, _, h => by unfold Rep at h ⊢; exact h
  | .ref a, _, q, h => by simp [plainD] at q
  | .exc a dd f e, _, q, h => by simp [plainD] at q
  | .scr ns, _, _, h => by
    unfold Rep at h ⊢
    obtain ⟨a, rfl, z, ⟨⟨o, h⟩, g⟩ | ⟨h, g, pp⟩ | h⟩ := h
    · exact ⟨a, rfl, z, .inl ⟨⟨o, h⟩, rfl⟩⟩
    · exact ⟨a, rfl, z, .inr (.inl ⟨h, rfl, pp⟩)⟩
    · exact ⟨a, rfl, z, .inr (.inr h)⟩
  | .lst ds, _, q, h => by
    unfold Rep at h ⊢
    obtain ⟨a, xs, rfl, g, p, r, z, t⟩ := h
    simp only [plainD] at q
    exact ⟨a, xs, rfl, rfl, p, r, z, Reps.bare w q t⟩
  | .tup ds, _, q, h => by
    unfold Rep at h ⊢
    obtain ⟨a, xs, rfl, g, p, r, z, t⟩ := h
    simp only [plainD] at q
    exact ⟨a, xs, rfl, rfl, p, r, z, Reps.bare w q t⟩
  | .dct ks ds, _, q, h => by
    unfold Rep at h ⊢
    obtain ⟨a, xs, rfl, g, p, r, z, t⟩ := h
    simp only [plainD] at q
    exact ⟨a, xs, rfl, rfl, p, r, z, Reps.bare w q t⟩
theorem Reps.bare (w : Wo K P G H) : ∀ {ds : List D} {vs : List V}, plainDs ds = true → Reps K H G P ds vs → Reps K H (fun _ => none) P ds vs
  | [], _, _, h => by unfold Reps at h ⊢; exact h
  | d :: ds, _, q, h => by
    unfold Reps at h ⊢
    obtain ⟨x, r, rfl, h1, h2⟩ := h
    simp only [plainDs, Bool.and_eq_true] at q
    exact ⟨x, r, rfl, Rep.bare w q.1 h1, Reps.bare w q.2 h2⟩
end
end
@[simp] theorem frzDs_nil {G : Gp} : frzDs G [] = some [] := by simp only [frzDs]
@[simp] theorem frzDs_cons {G : Gp} {d : D} {ds : List D} : frzDs G (d :: ds) = match frzD G d, frzDs G ds with
    | some a, some r => some (a :: r)
    | _, _ => none := by rw [frzDs]
@[simp] theorem frzD_int {G : Gp} {i : Int} : frzD G (.int i) = some (.int i) := by simp only [frzD]
@[simp] theorem frzD_bl {G : Gp} {i : Bool} : frzD G (.bl i) = some (.bl i) := by simp only [frzD]
@[simp] theorem frzD_str {G : Gp} {i : Str} : frzD G (.str i) = some (.str i) := by simp only [frzD]
@[simp] theorem frzD_non {G : Gp} : frzD G .non = some .non := by simp only [frzD]
@[simp] theorem frzD_tup {G : Gp} {ds : List D} : frzD G (.tup ds) = (frzDs G ds).map .tup := by rw [frzD]
end DL
set_option Elab.async false
set_option linter.all false
set_option maxRecDepth 100000
set_option maxHeartbeats 4000000
namespace DL
open PySem PySem.Spec PyProof.Rows L2
section
variable {X : Cx} {K : PySem.W.Frag} {P : Addr → Prop} {G : Gp} {H : Hp} {tg : Expr}
/-- what is walked: a tuple -/
@[simp] def iT (t : EE) : EI := fun s G Q => t s G fun x G1 => match x with
  | .tup ds => Q ds (fun _ => True) G1
  | _ => False
theorem ji_tup {l : Expr} {el : EE} (hl : JE X l el) : JI X tg l (iT el) := ⟨pi_tup hl.pe, fun P s G Q σ H R h r k => by
  refine hl.le P s G _ σ H _ h r fun x G1 u H1 s1 w1 r1 h1 => ?_
  split at h1
  · rename_i ds
    obtain ⟨a, xs, rfl, g, p, rr, z, q⟩ := rep_t r1
    refine ⟨a, rfl, ⟨xs, SqT.of rr⟩, k ds _ G1 _ H1 s1 w1 ⟨z, fun P' G2 H2 i hP st w kp => ?_⟩ h1⟩
    have q2 : Reps X.K H2 G2 P' ds xs := Reps.mono st hP q
    have rr2 := (st.keep a _ rr g).1
    refine ⟨fun d hd => ?_, fun hi => ⟨xs, SqT.of rr2, by rw [← q2.length]; exact hi⟩⟩
    obtain ⟨v, e1, r1⟩ := q2.get hd
    refine ⟨⟨xs, v, SqT.of rr2, e1⟩, fun y H' hy => ?_⟩
    obtain ⟨rfl, f⟩ := hy
    have := f xs (SqT.of rr2)
    rw [e1] at this
    cases this
    exact ⟨Step.refl _ _, w, r1⟩
  · exact h1.elim⟩
/-- xs.pop(i) -/
@[simp] def mPopAt : MD := fun x xs G Q => match x, xs with
  | .ref p, [.int i] => (match G p with
    | some (.lst ds) => 0 ≤ i ∧ i < 2 ^ 62 ∧ (match ds[i.toNat]? with
      | some d => Q d (gput G p (.lst (ds.eraseIdx i.toNat)))
      | none => False)
    | _ => False)
  | _, _ => False
end
end DL
set_option Elab.async false
set_option linter.all false
set_option maxRecDepth 100000
set_option maxHeartbeats 4000000
namespace DL
open PySem PySem.Spec PyProof.Rows L2 LN
end DL
set_option Elab.async false
set_option linter.all false
set_option maxRecDepth 100000
set_option maxHeartbeats 4000000
namespace DL
open PySem PySem.Spec PyProof.Rows L2 LN
theorem bk_split {bk : List Stretch} {i : Nat} (h : i < bk.length) : bk = bk.take i ++ st bk i :: bk.drop (i + 1) := by
  have e : bk.drop i = st bk i :: bk.drop (i + 1) := by
    rw [List.drop_eq_getElem_cons h]
    congr 1
    unfold st
    rw [List.getD_eq_getElem?_getD, List.getElem?_eq_getElem h]; rfl
  rw [← e, List.take_append_drop]
theorem nat_of {j : Int} (h : 0 ≤ j) : ∃ k : Nat, j = (k : Int) := Int.eq_ofNat_of_zero_le h
end DL
set_option Elab.async false
set_option linter.all false
set_option maxRecDepth 100000
set_option maxHeartbeats 4000000
namespace DL
open PySem PySem.Spec PyProof.Rows L2 LN
end DL
set_option Elab.async false
set_option linter.all false
set_option maxRecDepth 100000
set_option maxHeartbeats 4000000
namespace DL
open PySem PySem.Spec PyProof.Rows L2 LN
theorem len_of {G : Gp} {x : D} {ds : List D} {Q : DK} (e : lkL G x = some ds) (h : Q (.int ds.length) G) : cLen [x] G Q := by
  cases x with
  | lst es => cases e; exact h
  | ref a => simp only [cLen, lkQ_ref, e]; exact h
  | scr ns => cases e; simpa using h
  | _ => cases e
end DL
set_option Elab.async false
set_option linter.all false
set_option maxRecDepth 100000
set_option maxHeartbeats 4000000
namespace DL
open PySem PySem.Spec PyProof.Rows L2
def sqP : PyData → Option (List PyData)
  | .list xs => some xs
  | .tuple xs => some xs
  | _ => none
variable {K : PySem.W.Frag}
/-- x in xs, of any data -/
@[simp] def oInD (neg : Bool) : OD := fun x y G Q => match toPy G x, toPy G y with
  | some a, some b => match sqP b with
    | some ds => SeqAt.shaped a = true ∧ a.depth ≤ 60 ∧ SeqAt.shaped b = true ∧ Q (.bl (if neg then !(ds.any fun z => PyData.eqv z a) else ds.any fun z => PyData.eqv z a)) G
    | none => False
  | _, _ => False
@[simp] theorem sqP_list {xs : List PyData} : sqP (.list xs) = some xs := rfl
@[simp] theorem sqP_tuple {xs : List PyData} : sqP (.tuple xs) = some xs := rfl
end DL
set_option Elab.async false
set_option linter.all false
set_option maxRecDepth 100000
set_option maxHeartbeats 4000000
namespace DL
open PySem PySem.Spec PyProof.Rows L2 LN
theorem LnA.put {G : Gp} {x dx af ai at_ q : Addr} {o : GO} {S : LN.LS} (L : LnA G x dx af ai at_ S) (n0 : q ≠ x) (n1 : q ≠ af) (n2 : q ≠ ai) (n3 : q ≠ at_) : LnA (gput G q o) x dx af ai at_ S :=
  ⟨by rw [gput_ne (Ne.symm n0)]; exact L.ob, by rw [gput_ne (Ne.symm n1)]; exact L.fi, by rw [gput_ne (Ne.symm n2)]; exact L.id, by rw [gput_ne (Ne.symm n3)]; exact L.tk, L.n1, L.n2, L.n3, L.zn, L.zm⟩
end DL
set_option Elab.async false
set_option linter.all false
set_option maxRecDepth 100000
set_option maxHeartbeats 4000000
namespace DL
open PySem PySem.Spec PyProof.Rows L2 LN
end DL
set_option Elab.async false
set_option linter.all false
set_option maxRecDepth 100000
set_option maxHeartbeats 4000000
namespace DL
open PySem PySem.Spec PyProof.Rows L2
/-- sorted(xs, reverse=True) of ints -/
@[simp] def eSrtR (te td : EE) : EE := fun s G Q => te s G fun x G1 => td s G1 fun d G2 => match d with
  | .bl true => (match (lkL G2 x).bind intsD with
    | some ns => ∀ ms : List Int, ms.Perm ns → ms.Pairwise (· ≥ ·) → Q (.lst (ms.map D.int)) G2
    | none => False)
  | _ => False
end DL
set_option Elab.async false
set_option linter.all false
set_option maxRecDepth 100000
set_option maxHeartbeats 4000000
namespace DL
open PySem PySem.Spec PyProof.Rows L2 LN
end DL
set_option Elab.async false
set_option linter.all false
set_option maxRecDepth 100000
set_option maxHeartbeats 4000000
namespace DL
open PySem PySem.Spec PyProof.Rows L2 LN
def putF (f : Nat → Addr) (u : Nat) (a : Addr) : Nat → Addr := fun v => if v = u then a else f v
end DL
set_option Elab.async false
set_option linter.all false
set_option maxRecDepth 100000
set_option maxHeartbeats 4000000
namespace DL
open PySem PySem.Spec PyProof.Rows L2 LN
end DL
set_option Elab.async false
set_option linter.all false
set_option maxRecDepth 100000
set_option maxHeartbeats 4000000
namespace DL
open PySem PySem.Spec PyProof.Rows L2 LN
end DL
set_option Elab.async false
set_option linter.all false
set_option maxRecDepth 100000
set_option maxHeartbeats 4000000
namespace DL
open PySem PySem.Spec PyProof.Rows L2 LN
end DL
set_option Elab.async false
set_option linter.all false
set_option maxRecDepth 100000
set_option maxHeartbeats 4000000
namespace DL
open PySem PySem.Spec PyProof.Rows L2
section
variable {X : Cx} {K : PySem.W.Frag} {a b : Expr} {ea eb : EE} {pos : Pos}
@[simp] def oRepO : OD := fun x y G Q => match lkL G x, y with
  | some ds, .int k => (∀ ns, x ≠ .scr ns) ∧ -(2 ^ 63) ≤ k ∧ k < 2 ^ 63 ∧ ds.length * k.toNat ≤ sizeLine ∧ ∀ p, G p = none → Q (.ref p) (gput G p (.lst (List.replicate k.toNat ds).flatten))
  | _, _ => False
/-- list(d): its keys, ints; frozen -/
@[simp] def cListDI : CD := fun xs G Q => match xs with
  | [x] => (match (lkD G x).bind fun p => intKs p.1 with
    | some ns => ns.length ≤ 1000 ∧ Q (.lst (ns.map D.int)) G
    | none => False)
  | _ => False
/-- a, b = e, e's value a list -/
@[simp] def sAsgL (te : EE) (is : List Nat) : ES := fun N s G => te s G fun d G1 => match lkL G1 d with
  | some ds => (match setAll s is ds with
    | some s' => N.nx s' G1
    | none => False)
  | none => False
end
end DL
set_option Elab.async false
set_option linter.all false
set_option maxRecDepth 100000
set_option maxHeartbeats 4000000
namespace L2
open PySem PySem.Spec PyProof.Rows
end L2
namespace DL
open PySem PySem.Spec PyProof.Rows L2
@[simp] def oNeNil : OD := fun x y G Q => match lkL G x, lkL G y with
  | some ds, some [] => Q (.bl (!ds.isEmpty)) G
  | _, _ => False
end DL
set_option Elab.async false
set_option linter.all false
set_option maxRecDepth 100000
set_option maxHeartbeats 4000000
namespace L2
open PySem PySem.Spec PyProof.Rows
end L2
namespace DL
open PySem PySem.Spec PyProof.Rows L2
section
variable {K : PySem.W.Frag}
@[simp] def cListX : CD := fun xs G Q => match xs with
  | [.str z] => z.length ≤ sizeLine ∧ Q (.lst (sgnD z)) G
  | _ => False
@[simp] def cTupX : CD := fun xs G Q => match xs with
  | [.str z] => z.length ≤ sizeLine ∧ Q (.tup (sgnD z)) G
  | _ => False
end
end DL
set_option Elab.async false
set_option linter.all false
set_option maxRecDepth 100000
set_option maxHeartbeats 4000000
namespace DL
open PySem PySem.Spec PyProof.Rows L2
end DL
set_option Elab.async false
set_option linter.all false
set_option maxRecDepth 100000
set_option maxHeartbeats 4000000
namespace L2
open PySem PySem.Spec PyProof.Rows PySem.W
end L2
namespace DL
open PySem PySem.Spec PyProof.Rows L2 PySem.W
@[simp] def cRepr : CD := fun xs G Q => match xs with
  | [x] => (match toPy G x with
    | some p => p.showable = true ∧ p.hasDict = false ∧ p.depth ≤ 40 ∧ p.shown.length ≤ sizeLine ∧ Q (.str p.shown) G
    | none => False)
  | _ => False
@[simp] def boxD : D → Bool
  | .lst _ => true
  | .tup _ => true
  | .ref _ => true
  | .scr _ => true
  | _ => false
@[simp] def cStrD : CD := fun xs G Q => match xs with
  | [.int i] => i.natAbs.log2 < 1920 ∧ Q (.str (toString i)) G
  | [.str z] => Q (.str z) G
  | [x] => boxD x = true ∧ (match toPy G x with
    | some p => p.showable = true ∧ p.hasDict = false ∧ p.depth ≤ 40 ∧ p.shown.length ≤ sizeLine ∧ Q (.str p.shown) G
    | none => False)
  | _ => False
@[simp] def cStrI : CD := fun xs G Q => match xs with
  | [.int i] => i.natAbs.log2 < 1920 ∧ Q (.str (toString i)) G
  | _ => False
theorem lc_strI {K : PySem.W.Frag} : LC K (fun xs H Q => ∃ i, xs = [.int i] ∧ i.natAbs.log2 < 1920 ∧ Q (.str (toString i)) H) cStrI := fun P G H xs us Q R h w r k => by
  unfold cStrI at h
  split at h
  · obtain ⟨u, rfl, r1⟩ := reps1 r
    rw [rep_i r1]
    exact ⟨_, rfl, h.1, k _ G _ H (Step.refl _ _) w rep_str h.2⟩
  · exact h.elim
def Asc (t : Str) : Prop := ∀ c ∈ t.cps.toList, c < 1114112
theorem asc_of (s : String) : Asc (Str.ofString s) := fun c hc => by
  rw [Str.ofString_eq_toList] at hc
  simp at hc
  obtain ⟨a, _, rfl⟩ := hc
  have := a.valid
  unfold UInt32.isValidChar Nat.isValidChar at this
  show a.val.toNat < _
  omega
theorem asc_app {a b : Str} (h : Asc a) (k : Asc b) : Asc (a ++ b) := fun c hc => by
  have e : (a ++ b).cps = a.cps ++ b.cps := rfl
  rw [e, Array.toList_append] at hc
  have this := hc
  rcases List.mem_append.mp this with q | q
  · exact h c q
  · exact k c q
theorem len_app (a b : Str) : (a ++ b).length = a.length + b.length := strLen_append a b
structure Tx (n : Nat) (p : PyData) : Prop where
  sh : p.showable = true
  nd : p.hasDict = false
  asc : Asc p.shown
  len : p.shown.length ≤ n
theorem log_small {n : Nat} (h : n < 10 ^ 60) : n.log2 < 1920 := by
  by_cases z : n = 0
  · subst z; decide
  · rw [Nat.log2_lt z]
    exact Nat.lt_trans h (by decide +kernel)
theorem tx_int {i : Int} (h : i.natAbs < 10 ^ 60) : Tx 61 (.int i) := by
  refine ⟨?_, rfl, asc_of _, ?_⟩
  · simp only [PyData.showable]
    exact decide_eq_true (log_small h)
  · have := int_text_length_le10 (a := i) (k := 60) (by decide) h
    simp only [PyData.shown]
    rw [PySem.ofString_length]
    exact this
theorem Tx.mono {n m : Nat} {p : PyData} (h : Tx n p) (hm : n ≤ m) : Tx m p := ⟨h.sh, h.nd, h.asc, Nat.le_trans h.len hm⟩
end DL
set_option Elab.async false
set_option linter.all false
set_option maxRecDepth 100000
set_option maxHeartbeats 4000000
namespace L2
open PySem PySem.Spec PyProof.Rows PySem.W
def encK : Key → PyData
  | .inl i => .int i
  | .inr x => .str x
end L2
namespace DL
open PySem PySem.Spec PyProof.Rows L2 PySem.W
mutual
@[simp] def toPx (G : Gp) : D → Option PyData
  | .non => some .none
  | .bl b => some (.bool b)
  | .int i => some (.int i)
  | .str x => some (.str x)
  | .lst ds => (toPxs G ds).map .list
  | .tup ds => (toPxs G ds).map .tuple
  | .dct ks ds => (toPxs G ds).map fun ps => .dict ((ks.map encK).zip ps)
  | .scr ns => some (.list (ns.map .int))
  | .ref a => toPy G (.ref a)
  | _ => none
@[simp] def toPxs (G : Gp) : List D → Option (List PyData)
  | [] => some []
  | d :: ds => match toPx G d, toPxs G ds with
    | some a, some r => some (a :: r)
    | _, _ => none
end
end DL
set_option Elab.async false
set_option linter.all false
set_option maxRecDepth 100000
set_option maxHeartbeats 4000000
namespace DL
open PySem PySem.Spec PyProof.Rows L2 LN
theorem tx_i {i : Int} (h1 : -1000000000000000000000000000000 ≤ i) (h2 : i ≤ 1000000000000000000000000000000) : Tx 61 (.int i) := tx_int (by
  have e : (10 : Nat) ^ 60 = 1000000000000000000000000000000000000000000000000000000000000 := by decide
  rw [e]; omega)
theorem asc_name {x : Str} (h : NameOk x) : Asc x := fun c hc => by have := h.az c hc; omega
end DL
set_option Elab.async false
set_option linter.all false
set_option maxRecDepth 100000
set_option maxHeartbeats 4000000
namespace DL
open PySem PySem.Spec PyProof.Rows L2 LN
mutual
def anyD : D → Bool
  | .non => true
  | .bl _ => true
  | .int _ => true
  | .str _ => true
  | .lst ds => anyDs ds
  | .tup ds => anyDs ds
  | .dct _ ds => anyDs ds
  | _ => false
def anyDs : List D → Bool
  | [] => true
  | d :: ds => anyD d && anyDs ds
end
@[simp] def isI : D → Bool
  | .int _ => true
  | .bl _ => true
  | _ => false
@[simp] def isB : D → Bool
  | .bl _ => true
  | _ => false
@[simp] def isS : D → Bool
  | .str _ => true
  | _ => false
@[simp] def isL : D → Bool
  | .lst _ => true
  | _ => false
@[simp] def isT : D → Bool
  | .tup _ => true
  | _ => false
theorem isi_int {d : D} {G : Gp} {Q : DK} (h : anyD d = true) : cIsi [d, .ty "int"] G Q = Q (.bl (isI d)) G := by
  have k1 : kitB "NoneType" "int" = some false := by decide +kernel
  have k2 : kitB "bool" "int" = some true := by decide +kernel
  have k3 : kitB "str" "int" = some false := by decide +kernel
  have k4 : kitB "list" "int" = some false := by decide +kernel
  have k5 : kitB "tuple" "int" = some false := by decide +kernel
  have k6 : kitB "dict" "int" = some false := by decide +kernel
  cases d with
  | non => simp [tyD, k1]
  | bl b => simp [tyD, k2]
  | int b => simp [tyD]
  | str b => simp [tyD, k3]
  | lst b => simp [tyD, k4]
  | tup b => simp [tyD, k5]
  | dct b c => simp [tyD, k6]
  | _ => simp [anyD] at h
theorem isi_bool {d : D} {G : Gp} {Q : DK} (h : anyD d = true) : cIsi [d, .ty "bool"] G Q = Q (.bl (isB d)) G := by
  have k1 : kitB "NoneType" "bool" = some false := by decide +kernel
  have k3 : kitB "str" "bool" = some false := by decide +kernel
  have k4 : kitB "list" "bool" = some false := by decide +kernel
  have k5 : kitB "tuple" "bool" = some false := by decide +kernel
  have k6 : kitB "dict" "bool" = some false := by decide +kernel
  cases d with
  | non => simp [tyD, k1]
  | bl b => simp [tyD]
  | int b => simp [tyD]
  | str b => simp [tyD, k3]
  | lst b => simp [tyD, k4]
  | tup b => simp [tyD, k5]
  | dct b c => simp [tyD, k6]
  | _ => simp [anyD] at h
theorem isi_tuple {d : D} {G : Gp} {Q : DK} (h : anyD d = true) : cIsi [d, .ty "tuple"] G Q = Q (.bl (isT d)) G := by
  have k1 : kitB "NoneType" "tuple" = some false := by decide +kernel
  have k2 : kitB "bool" "tuple" = some false := by decide +kernel
  have k3 : kitB "int" "tuple" = some false := by decide +kernel
  have k4 : kitB "str" "tuple" = some false := by decide +kernel
  have k5 : kitB "list" "tuple" = some false := by decide +kernel
  have k6 : kitB "dict" "tuple" = some false := by decide +kernel
  cases d with
  | non => simp [tyD, k1]
  | bl b => simp [tyD, k2]
  | int b => simp [tyD, k3]
  | str b => simp [tyD, k4]
  | lst b => simp [tyD, k5]
  | tup b => simp [tyD]
  | dct b c => simp [tyD, k6]
  | _ => simp [anyD] at h
theorem isi_str {d : D} {G : Gp} {Q : DK} (h : anyD d = true) : cIsi [d, .ty "str"] G Q = Q (.bl (isS d)) G := by
  have k1 : kitB "NoneType" "str" = some false := by decide +kernel
  have k2 : kitB "bool" "str" = some false := by decide +kernel
  have k3 : kitB "int" "str" = some false := by decide +kernel
  have k4 : kitB "list" "str" = some false := by decide +kernel
  have k5 : kitB "tuple" "str" = some false := by decide +kernel
  have k6 : kitB "dict" "str" = some false := by decide +kernel
  have k7 : kitB "str" "str" = some true := by decide +kernel
  cases d with
  | non => simp [tyD, k1]
  | bl b => simp [tyD, k2]
  | int b => simp [tyD, k3]
  | str b => simp [tyD, k7]
  | lst b => simp [tyD, k4]
  | tup b => simp [tyD, k5]
  | dct b c => simp [tyD, k6]
  | _ => simp [anyD] at h
/-- is_whole of anything -/
@[simp] def whB : D → Bool
  | .int _ => true
  | _ => false
theorem whole_any {d : D} {G : Gp} {Q : DK} (h : anyD d = true) (q : Q (.bl (whB d)) G) : F_is_whole [d] G Q := by
  have e1 := isi_int (d := d) (G := G) (Q := fun x _ => x = .bl (isI d)) h
  have e2 := isi_bool (d := d) (G := G) (Q := fun x _ => x = .bl (isB d)) h
  simp only [cIsi, eq_iff_iff, iff_true] at e1 e2
  cases ty : tyD G d with
  | none => rw [ty] at e1; simp at e1
  | some m =>
    rw [ty] at e1 e2
    simp only [Option.bind_some] at e1 e2
    cases k1 : kitB m "int" with
    | none => rw [k1] at e1; simp at e1
    | some a =>
      cases k2 : kitB m "bool" with
      | none => rw [k2] at e2; simp at e2
      | some b =>
        rw [k1] at e1
        rw [k2] at e2
        have e1 : D.bl a = D.bl (isI d) := e1
        have e2 : D.bl b = D.bl (isB d) := e2
        refine ⟨d, m, a, b, rfl, ty, k1, k2, ?_⟩
        rw [D.bl.inj e1, D.bl.inj e2]
        have : (isI d && !isB d) = whB d := by cases d <;> rfl
        rw [this]; exact q
def Thg (k n : Nat) (d : D) : Prop := anyD d = true ∧ ∃ p, (∀ G, toPx G d = some p) ∧ p.showable = true ∧ p.depth ≤ k ∧ Asc p.shown ∧ p.shown.length ≤ n
theorem Thg.mono {k k' n n' : Nat} {d : D} (h : Thg k n d) (hk : k ≤ k') (hn : n ≤ n') : Thg k' n' d := by
  obtain ⟨h1, p, h2, h3, h4, h5, h6⟩ := h
  exact ⟨h1, p, h2, h3, by omega, h5, by omega⟩
theorem ix_at {L : List D} {i : Int} {d : D} {G : Gp} {Q : DK} (e : atI L i = some d) (q : Q d G) : oIx (.lst L) (.int i) G Q := by
  simp only [oIx, lkQ, lkL, e]; exact q
theorem add_ok {L M : List D} {G : Gp} {Q : DK} (h : L.length + M.length ≤ 16777216) (q : Q (.lst (L ++ M)) G) : oAdd (.lst L) (.lst M) G Q := by
  simp only [oAdd, lkL]; exact ⟨h, q⟩
theorem Thg.any {k n : Nat} {d : D} (h : Thg k n d) : anyD d = true := h.1
end DL
set_option Elab.async false
set_option linter.all false
set_option maxRecDepth 100000
set_option maxHeartbeats 4000000
namespace DL
open PySem PySem.Spec PyProof.Rows L2 LN
end DL
set_option Elab.async false
set_option linter.all false
set_option maxRecDepth 100000
set_option maxHeartbeats 4000000
namespace DL
open PySem PySem.Spec PyProof.Rows L2 LN
end DL
set_option Elab.async false
set_option linter.all false
set_option maxRecDepth 100000
set_option maxHeartbeats 4000000
namespace DL
open PySem PySem.Spec PyProof.Rows L2 LN
theorem gput_comm {G : Gp} {a p : Addr} {s l : GO} (h : p ≠ a) : gput (gput G p l) a s = gput (gput G a s) p l := by
  funext b
  unfold gput
  by_cases e : b = a
  · subst e; simp [Ne.symm h]
  · simp [e]
end DL
set_option Elab.async false
set_option linter.all false
set_option maxRecDepth 100000
set_option maxHeartbeats 4000000
namespace DL
open PySem PySem.Spec PyProof.Rows L2 LN
end DL
set_option Elab.async false
set_option linter.all false
set_option maxRecDepth 100000
set_option maxHeartbeats 4000000
namespace DL
open PySem PySem.Spec PyProof.Rows L2 LN
end DL
set_option Elab.async false
set_option linter.all false
set_option maxRecDepth 100000
set_option maxHeartbeats 4000000
namespace DL
open PySem PySem.Spec PyProof.Rows L2 LN
theorem enumD_at (es : List D) : enumD es = (List.range' 0 es.length).map fun (i : Nat) => D.tup [.int (i : Nat), es.getD i .non] := by
  apply List.ext_getElem (by rw [enumD_length]; simp)
  intro i h1 h2
  rw [enumD_length] at h1
  obtain ⟨d, e1, e2⟩ := enumD_get (ds := es) (i := i) (e := (enumD es)[i]'(by rw [enumD_length]; exact h1)) (List.getElem?_eq_getElem _)
  rw [e2]
  simp [List.getD_eq_getElem?_getD, e1]
theorem forW_enum {es : List D} {t : Tg} {tb : ES} {N : En} {s : Sd} {G : Gp} (I : Nat → Sd → Gp → Prop)
    (h : ∀ (j : Nat) (d : D) s G (W : Sd → Gp → Prop), es[j]? = some d → I j s G → (∀ s' G', I (j + 1) s' G' → W s' G') → match asg t (.tup [.int (j : Nat), d]) s with
      | some s' => tb { N with nx := W, ct := W, bk := N.nx } s' G
      | none => False) (k : ∀ s G, I es.length s G → N.nx s G) (h0 : I 0 s G) : forW t tb (fun _ => True) N (enumD es) s G := by
  rw [enumD_at]
  refine forW_ind (fun r s G => ∃ j, r = List.range' j (es.length - j) ∧ j ≤ es.length ∧ I j s G) (fun _ _ _ _ => trivial) ?_ ?_ _ _ _ ⟨0, by simp, Nat.zero_le _, h0⟩
  · rintro x r s G W ⟨j, e, hj, hI⟩ hW
    have hlt : j < es.length := by
      rcases Nat.lt_or_ge j es.length with q | q
      · exact q
      · rw [Nat.sub_eq_zero_of_le q] at e; simp at e
    rw [show es.length - j = (es.length - (j + 1)) + 1 by omega, List.range'_succ] at e
    cases e
    exact h x _ s G W (by rw [List.getD_eq_getElem?_getD, List.getElem?_eq_getElem hlt]; rfl) hI fun s' G' hI' => hW s' G' ⟨x + 1, rfl, hlt, hI'⟩
  · rintro s G ⟨j, e, hj, hI⟩
    have : j = es.length := by
      have := congrArg List.length e
      simp at this
      omega
    subst this
    exact k s G hI
end DL
set_option Elab.async false
set_option linter.all false
set_option maxRecDepth 100000
set_option maxHeartbeats 4000000
namespace DL
open PySem PySem.Spec PyProof.Rows L2
abbrev Ux := Xd → Gp → Prop
abbrev Sx := List D → Gp → DK → Ux → Prop
abbrev EX := Sd → Gp → DK → Ux → Prop
abbrev EAX := Sd → Gp → (List D → Gp → Prop) → Ux → Prop
def LfX (K : PySem.W.Frag) (n : Nat) (f : Sx) : Sp := fun vs H R E => vs.length = n ∧ ∃ (P : Addr → Prop) (ds : List D) (G : Gp) (Q : DK) (U : Ux), Wo K P G H ∧ Reps K H G P ds vs ∧ f ds G Q U ∧
  (∀ d G' v H', Step G H G' H' → Wo K P G' H' → Rep K H' G' P d v → Q d G' → R v H') ∧ (∀ x G' cls d H', Step G H G' H' → Wo K P G' H' → RepX K H' G' P x cls d → U x G' → E cls d H')
def LEx (K : PySem.W.Frag) (Y : Wx) (te : TE) (t : EX) : Prop := ∀ (P : Addr → Prop) (s : Sd) (G : Gp) (Q : DK) (U : Ux) (σ : L2.St) (H : Hp) (R : VK), t s G Q U → Rl K P s G σ H →
  (∀ d G' v H', Step G H G' H' → Wo K P G' H' → Rep K H' G' P d v → Q d G' → R v H') → (∀ x G' cls d H', Step G H G' H' → Wo K P G' H' → RepX K H' G' P x cls d → U x G' → Y.w cls d σ H') → te σ H R
def LAx (K : PySem.W.Frag) (Y : Wx) (n : Nat) (te : TA) (t : EAX) : Prop := ∀ (P : Addr → Prop) (s : Sd) (G : Gp) (Q : List D → Gp → Prop) (U : Ux) (σ : L2.St) (H : Hp) (R : List V → Hp → Prop), t s G Q U → Rl K P s G σ H →
  (∀ ds G' vs H', Step G H G' H' → Wo K P G' H' → Reps K H' G' P ds vs → ds.length = n → Q ds G' → R vs H') → (∀ x G' cls d H', Step G H G' H' → Wo K P G' H' → RepX K H' G' P x cls d → U x G' → Y.w cls d σ H') → te σ H R
inductive JEx (X : Cx) (Y : Wx) (e : Expr) (t : EX) : Prop where
  | mk {te : TE} (a : PE X e te) (b : LEx X.K Y te t) : JEx X Y e t
inductive JAx (X : Cx) (Y : Wx) (es : List Expr) (t : EAX) : Prop where
  | mk {te : TA} (a : PA X es te) (b : LAx X.K Y es.length te t) : JAx X Y es t
@[simp] def eXp (t : EE) : EX := fun s G Q _ => t s G Q
@[simp] def eXa (t : EA) : EAX := fun s G Q _ => t s G Q
@[simp] def eConsX (ta : EX) (tr : EAX) : EAX := fun s G Q U => ta s G (fun x G1 => tr s G1 (fun xs G2 => Q (x :: xs) G2) U) U
@[simp] def eCallX (F : Sx) (ta : EAX) : EX := fun s G Q U => ta s G (fun ds G1 => F ds G1 Q U) U
@[simp] def eCallN (F : Sf) (ta : EAX) : EX := fun s G Q U => ta s G (fun ds G1 => F ds G1 Q) U
@[simp] def eLstX (ta : EAX) : EX := fun s G Q U => ta s G (fun xs G1 => xs.length ≤ sizeLine ∧ Q (.lst xs) G1) U
@[simp] def eCBX (c : CD) (ta : EAX) : EX := fun s G Q U => ta s G (fun xs G1 => c xs G1 Q) U
section
variable {X : Cx} {Y : Wx} {K : PySem.W.Frag} {e : Expr} {es : List Expr} {pos : Pos}
theorem jax_of {t : EA} (h : JA X es t) : JAx X Y es (eXa t) := ⟨h.pa, fun P s G Q U σ H R h1 r k _ => h.la P s G Q σ H R h1 r k⟩
theorem lax_cons {n : Nat} {ta : TE} {tr : TA} {ea : EX} {er : EAX} (ha : LEx K Y ta ea) (hr : LAx K Y n tr er) : LAx K Y (n + 1) (tCons ta tr) (eConsX ea er) := fun P s G Q U σ H R h r k kx => by
  refine ha P s G _ U σ H _ h r (fun x G1 u H1 s1 w1 r1 h1 => ?_) kx
  exact hr P s G1 _ U σ H1 _ h1 (r.step s1 w1) (fun xs G2 us H2 s2 w2 r2 l2 h2 => k _ G2 _ H2 (s1.trans s2) w2 (reps_cons (r1.step s2) r2) (by rw [List.length_cons, l2]) h2) fun x G' cls d H' st w rx u => kx x G' cls d H' (s1.trans st) w rx u
theorem jax_cons {ee : EX} {ea : EAX} (ha : JEx X Y e ee) (hr : JAx X Y es ea) (hs : starEach (e :: es) X.env = (false, eval e X.env) :: starEach es X.env := by rfl) : JAx X Y (e :: es) (eConsX ee ea) := by
  obtain ⟨a1, b1⟩ := ha
  obtain ⟨a2, b2⟩ := hr
  exact ⟨pa_cons a1 a2 hs, lax_cons b1 b2⟩
theorem lex_call {n : Nat} {F : Sx} {t : TA} {ea : EAX} (ha : LAx K Y n t ea) : LEx K Y (tCallS (LfX K n F) (WE Y.w) t) (eCallX F ea) := fun P s G Q U σ H R h r k kx => by
  refine ha P s G _ U σ H _ h r (fun ds G1 vs H1 s1 w1 r1 l1 h1 => ?_) kx
  exact ⟨by rw [← r1.length]; exact l1, P, ds, G1, Q, U, w1, r1, h1, fun d G' v H' st w rp q => k d G' v H' (s1.trans st) w rp q, fun x G' cls d H' st w rx u => kx x G' cls d H' (s1.trans st) w rx u⟩
end
@[simp] def sDropX (te : EX) : ES := fun N s G => te s G (fun _ G1 => N.nx s G1) fun x G1 => N.xr x s G1
@[simp] def sRetX (te : EX) : ES := fun N s G => te s G N.rt fun x G1 => N.xr x s G1
@[simp] def sAsgX (te : EX) (t : Tg) : ES := fun N s G => te s G (fun d G1 => match asg t d s with
  | some s' => N.nx s' G1
  | none => False) fun x G1 => N.xr x s G1
@[simp] def sRaise (c : Str) : ES := fun N s G => N.xr ⟨c, none⟩ s G
@[simp] def sRaiseF (c f : Str) (te : EE) : ES := fun N s G => te s G fun d G1 => N.xr ⟨c, some (f, d)⟩ s G1
section
variable {X : Cx} {Y : Wx} {K : PySem.W.Frag} {e : Expr} {es : List Expr} {pos : Pos} {ee : EX}
theorem js_retX (he : JEx X Y e ee) : JS X Y (.Return (some e) pos) (sRetX ee) := by
  obtain ⟨a, b⟩ := he
  exact ⟨ps_ret a, fun P s G N σ H M h r k => b P s G _ _ σ H _ h r (fun d G' v H' st w rp q => k.rt d G' v H' st w rp q) fun x G' cls d H' st w rx u => k.xr x s G' cls d σ H' st (r.step st w) rx u⟩
theorem js_setX {i : Nat} {x : Str} {pos' : Pos} (hN : X.N.Nodup) (hi : X.N[i]? = some x) (hx : Loc X.env.scope x) (he : JEx X Y e ee) (hs : swapsWith e (some (.Name x pos')) pos.line X.env = pure false := by rfl)
    (hf : X.fn x = true ∨ X.env.scope.names.lookup x = some .local := by first | exact .inl rfl | exact .inr rfl | assumption) : JS X Y (.Assign [.Name x pos'] e pos) (sAsgX ee (.nm i)) := by
  obtain ⟨a, b⟩ := he
  refine ⟨ps_set hN hi hx a hs hf, fun P s G N σ H M h r k => b P s G _ _ σ H _ h r (fun d G' v H' st w rp q => ?_) fun x G' cls d H' st w rx u => k.xr x s G' cls d σ H' st (r.step st w) rx u⟩
  exact lg_nm P s _ G' σ H' d v _ rfl (r.step st w) rp fun σ' r' _ => k.nx _ G' σ' H' st r' q
def initSp (K : PySem.W.Frag) (f : Str) : Sp := fun vs H Q _ => ∃ (a C : Addr) (v : V), vs = [.ref a, v] ∧ OexC K C ∧ PySem.W.findIn K (.ref C) f = some none ∧ H a = some (exo a C none) ∧ ∀ dx, H dx = none → dx ≠ a → Q .non (upd (upd H dx (exd dx [(f, v)])) a (exo a C (some dx)))
/-- what is known of such a class -/
structure OxK (P : Program) (w : World) (K : PySem.W.Frag) (mg : Str → Option Value) (base : Heap) (c f : Str) : Prop where
  T : OexC K (He.ga K c)
  iC : PySem.W.findIn K (.ref (He.ga K c)) "__init__" = some (some (.ref (He.ma K (He.ga K c) "__init__")))
  tI : PySem.W.typeIn K (.ref (He.ma K (He.ga K c) "__init__")) = some (.type "function")
  nf : PySem.W.findIn K (.ref (He.ga K c)) f = some none
  gC : mg c = some (.ref (He.ga K c))
  fn : ∃ fd, FnOk P w K mg base CX0 1 (He.ma K (He.ga K c) "__init__") fd [("self" : Str), f] (initSp K f) ∧ Binds K fd [("self" : Str), f] []
theorem init_ok {P : Program} {w : World} {mg : Str → Option Value} {base : Heap} {C f q : Str} {st : Stmt} (D : DfM K C "__init__" q st) (S : FnScope [("self" : Str), f] [("self" : Str), f] (defScope st))
    (hb : ∀ (kV doc pm : Value) (an : Option Addr) (cdv ct : Value) (us : List Value), us.length = 2 → bindArgs (PySem.W.fnOf "__init__" q (defArgs st) (defBody st) (defScope st) .none kV doc pm an cdv ct) ⟨us, []⟩ = pure ([("self" : Str), f].zip us))
    (hp : ∀ (fA : Addr) (cdv : Value) (A : Around) (outer : List Env) (s : Shared) (H : Hp) (E : XK), PSs (cxOf CX0 P w K mg base [("self" : Str), f] q (defScope st) fA cdv A outer s H E) (defBody st) (tOst K f (tVar 0) (tVar 1))) :
    ∃ fd, FnOk P w K mg base CX0 1 (He.ma K (He.ga K C) "__init__") fd [("self" : Str), f] (initSp K f) ∧ Binds K fd [("self" : Str), f] [] := by
  obtain ⟨fd, h1⟩ := D.ex
  refine ⟨fd, h1.ok S (fun vs H Q E h => ?_) fun cdv A outer s H vs Q E hr h => ⟨_, hp _ cdv A outer s H E, ?_⟩, h1.bindsN hb⟩
  · obtain ⟨a, C, v, rfl, _⟩ := h
    rfl
  · obtain ⟨a, C, v, rfl, T, nf, e, k⟩ := h
    refine ⟨v, rfl, .ref a, rfl, a, C, rfl, T, nf, .inl ⟨e, fun dx h1 h2 => k dx h1 h2⟩⟩
end
end DL
set_option Elab.async false
set_option linter.all false
set_option maxRecDepth 100000
set_option maxHeartbeats 4000000
namespace DL
open PySem PySem.Spec PyProof.Rows L2
/-- of the refusals' names -/
def isSub (x c : Str) : Bool := decide (x = c) || decide (c = "BenchError") || decide (c = "ValueError")
def excD (a dd : Addr) (x : Xd) : D := match x.f with
  | none => .cl a
  | some (n, e) => .exc a dd n e
def dOf (dd : Addr) (x : Xd) : Option Addr := match x.f with
  | none => none
  | some _ => some dd
/-- behind a suite whose name goes -/
def behind (i : Nat) (N : En) : En := { nx := fun s G => N.nx (s.set i none) G, rt := N.rt, bk := fun s G => N.bk (s.set i none) G, ct := fun s G => N.ct (s.set i none) G }
/-- except x, in a suite that raises nothing -/
def quiet (N : En) : En := { nx := N.nx, rt := N.rt, bk := N.bk, ct := N.ct }
def sTryAs (ns : List Str) (c : Str) (i : Nat) (tb : ES) (ts : Addr → Addr → Xd → ES) : ES := fun N s G => tb { N with xr := fun x s' G' => x.c ∈ ns ∧ if isSub x.c c = true then ∀ a dd, ts a dd x (behind i N) (s'.set i (some (excD a dd x))) G' else N.xr x s' G' } s G
section
variable {K : PySem.W.Frag} {P : Addr → Prop} {s : Sd} {G : Gp} {σ : L2.St} {H : Hp}
theorem Rl.none (r : Rl K P s G σ H) (i : Nat) : Rl K P (s.set i none) G (σ.set i none) H := by
  refine ⟨r.wo, by rw [List.length_set, List.length_set]; exact r.len, fun j e q => ?_⟩
  by_cases hj : i = j
  · subst hj
    by_cases hi : i < s.length
    · rw [List.getElem?_set_self hi] at q
      cases q
    · rw [List.getElem?_eq_none (by rw [List.length_set]; omega)] at q; cases q
  · rw [List.getElem?_set_ne hj] at q
    obtain ⟨w, e1, e2⟩ := r.at_ j e q
    exact ⟨w, by rw [List.getElem?_set_ne hj]; exact e1, e2⟩
theorem repX_d {x : Xd} {cls : Value} {d : Option Addr} (h : RepX K H G P x cls d) : ∃ dd, d = dOf dd x ∧ ∀ a, Rep K H G P (excD a dd x) (.ref a) := by
  obtain ⟨_, h⟩ := h
  unfold dOf excD
  split at h
  · rename_i q
    rw [q]
    exact ⟨0, h, fun a => by unfold Rep; rfl⟩
  · rename_i n e q
    rw [q]
    obtain ⟨dd, v, e1, g, p, e2, r⟩ := h
    exact ⟨dd, e1, fun a => by unfold Rep; exact ⟨rfl, g, p, v, e2, r⟩⟩
/-- a suite's reading, over the heap -/
def tsUp (K : PySem.W.Frag) (ns : List Str) (ts : Addr → Addr → Xd → ES) (a : Addr) (cls : Value) (d : Option Addr) : TS := fun M σ H => ∃ (x : Xd) (dd : Addr), cls = .ref (He.ga K x.c) ∧ x.c ∈ ns ∧ d = dOf dd x ∧ upS K y0 (ts a dd x) M σ H
end
def FzX (G0 : Gp) (x : Xd) (G' G2 : Gp) : Prop := ∀ (K : PySem.W.Frag) (P : Addr → Prop) (H0 H : Hp) (cls : Value) (d : Option Addr), Wo K P G0 H0 → Step G0 H0 G' H → Wo K P G' H → RepX K H G' P x cls d → Step G0 H0 G2 H ∧ Wo K P G2 H ∧ RepX K H G2 P x cls d
theorem fzx_id {G0 G' : Gp} {x : Xd} : FzX G0 x G' G' := fun _ _ _ _ _ _ _ s w r => ⟨s, w, r⟩
def refX (G : Gp) (x : Xd) : Prop := match x.f with
  | none => True
  | some (_, e) => RefIn G e
theorem fzx_sub {G0 G' G2 : Gp} {x : Xd} (h1 : ∀ a o, G2 a = some o → G' a = some o) (h0 : ∀ a o, G0 a = some o → ∃ o', G2 a = some o') (hc : ∀ a o, G2 a = some o → RefO G2 o ∨ G0 a = some o) (hd : refX G2 x) : FzX G0 x G' G2 := fun K P H0 H cls d w0 st w r => by
  obtain ⟨b1, b2, _⟩ := fz_sub (d := .non) h1 h0 hc (by simp only [RefIn]) K P H0 H .non w0 st w rep_non
  refine ⟨b1, b2, r.1, ?_⟩
  have r2 := r.2
  unfold refX at hd
  split
  · rename_i q
    rw [q] at r2
    exact r2
  · rename_i n e q
    rw [q] at r2 hd
    obtain ⟨a, v, e1, g, p, e2, rp⟩ := r2
    have n2 : ∀ a, G' a = none → G2 a = none := fun a ha => by
      cases q2 : G2 a with
      | none => rfl
      | some o => rw [h1 a o q2] at ha; cases ha
    exact ⟨a, v, e1, n2 a g, p, e2, rp.less n2 hd⟩
theorem fzx_back {G0 G' : Gp} {x : Xd} (h : ∀ a o, G0 a = some o → G' a = some o) (hd : refX G0 x) : FzX G0 x G' G0 := fzx_sub h (fun a o e => ⟨o, e⟩) (fun a o e => .inr e) hd
def finX (G0 : Gp) (Q : DK) (U : Ux) : En := { fin G0 Q with xr := fun x _ G' => ∃ G2, FzX G0 x G' G2 ∧ U x G2 }
theorem finX_id {G0 G' : Gp} {Q : DK} {U : Ux} {x : Xd} {s : Sd} (h : U x G') : (finX G0 Q U).xr x s G' := ⟨G', fzx_id, h⟩
theorem finX_back {G0 G' : Gp} {Q : DK} {U : Ux} {x : Xd} {s : Sd} (h : ∀ a o, G0 a = some o → G' a = some o) (hd : refX G0 x) (q : U x G0) : (finX G0 Q U).xr x s G' := ⟨G0, fzx_back h hd, q⟩
/-- what a def wishes of what leaves it -/
def wE (E : XK) : Wx := ⟨fun cls d _ H => E cls d H⟩
@[simp] def eIsE (a dd : Addr) (x : Xd) (i : Nat) (b : Bool) : EE := fun s G Q => match s[i]? with
  | some (some (.cl a')) => a' = a ∧ dOf dd x = none ∧ Q (.bl b) G
  | some (some (.exc a' d' _ _)) => a' = a ∧ dOf dd x = some d' ∧ Q (.bl b) G
  | _ => False
@[simp] def eXf (a dd : Addr) (x : Xd) (i : Nat) (f : Str) : EE := fun s G Q => match s[i]? with
  | some (some (.exc a' d' n e)) => a' = a ∧ dOf dd x = some d' ∧ n = f ∧ Q e G
  | _ => False
def rIsX (K : PySem.W.Frag) (C a : Addr) (d : Option Addr) : List V → Hp → VK → Prop := fun xs H Q => ∃ (c : V) (cv : Value) (b : Bool), xs = [.ref a, c] ∧ (∀ u, RelV c u → u = cv) ∧ PySem.W.kitOne K (.ref C) cv = some b ∧ (∀ dd, d = some dd → ∃ fs, H dd = some (.xd fs)) ∧ Q (.bl b) H
theorem call_isX {X : Cx} {a C : Addr} {d : Option Addr} {oe : Obj} {pn : List (Addr × Obj)} (T : ExcC X.K C) (hz : Zc (.ref C) d oe) (hf : ∃ vs, oe.data = .fields vs) : CallR (X.suite a ((a, oe) :: pn)) (.builtin "isinstance") (rIsX X.K C a d) := by
  intro pins s σ H xs us Q I r h
  obtain ⟨c, cv, b, rfl, hcv, e, hd, q⟩ := h
  cases r with
  | cons rx rr =>
    cases rr with
    | cons rt rr =>
      cases rr
      cases rx
      have ec := hcv _ rt
      subst ec
      obtain ⟨hget, _⟩ := I.pin (a, oe) (List.mem_append.mpr (.inl List.mem_cons_self))
      obtain ⟨vs, hv⟩ := hf
      have J : ∃ od, PySem.W.InstAt s.heap a oe C od := by
        cases d with
        | none =>
          refine ⟨none, ?_⟩
          obtain ⟨oc, od, oda, osl⟩ := oe
          obtain ⟨h1, h2⟩ := hz
          dsimp only at h1 h2 hv
          subst h1 h2 hv
          exact ⟨hget, rfl, rfl, trivial⟩
        | some dd =>
          obtain ⟨fs, ea⟩ := hd dd rfl
          have hx : ObjOk X.prog X.w H s.heap dd (.xd fs) := I.hok dd _ ea
          obtain ⟨mA, hns, hr⟩ := hx
          obtain ⟨od, ho, hl⟩ := lookIn_ns hns
          exact ⟨some od, hget, hz.1, by unfold PySem.W.notCls; rw [hv] <;> rfl, by rw [hz.2]; exact ho⟩
      obtain ⟨od, J⟩ := J
      have hcl : (PySem.W.clsIn X.K C).isSome = true := by
        have := T.hd
        unfold PySem.W.hasDictIn at this
        cases q : PySem.W.clsIn X.K C with
        | none => rw [q] at this; cases this
        | some cd => rfl
      exact PySem.W.kia_one (PySem.W.kitx_exc hcl T.hg T.hk T.hs T.ha T.hn T.ht T.hm) I.kIn J e (fun z => nomatch z) fun tk => ⟨.bl b, H, I.kept (t' := tk) fun _ _ z => z, rfl, q⟩
section
variable {X : Cx} {a dd : Addr} {x : Xd} {oe : Obj} {pn : List (Addr × Obj)} {K : PySem.W.Frag} {i : Nat} {n : Str} {p p2 pos : Pos} {ce : Expr} {b : Bool}
theorem j_isE {c : V} {cv : Value} (T : ExcC K (He.ga K x.c)) (hz : Zc (.ref (He.ga K x.c)) (dOf dd x) oe) (hf : ∃ vs, oe.data = .fields vs) (hk : PySem.W.kitOne K (.ref (He.ga K x.c)) cv = some b) (hcv : ∀ u, RelV c u → u = cv)
    (hg : Gl (X.suite a ((a, oe) :: pn)) "isinstance") (hm : X.mg "isinstance" = none) (hi : PE (X.suite a ((a, oe) :: pn)) (.Name n p2) (tVar i)) (hce : PE (X.suite a ((a, oe) :: pn)) ce (tC c)) (hK : X.K = K := by rfl)
    (h1 : starEach [.Name n p2, ce] (X.suite a ((a, oe) :: pn)).env = (false, eval (.Name n p2) (X.suite a ((a, oe) :: pn)).env) :: starEach [ce] (X.suite a ((a, oe) :: pn)).env := by rfl)
    (h2 : starEach [ce] (X.suite a ((a, oe) :: pn)).env = (false, eval ce (X.suite a ((a, oe) :: pn)).env) :: starEach [] (X.suite a ((a, oe) :: pn)).env := by rfl)
    (hpl : (backTo pos (starEach [ce] (X.suite a ((a, oe) :: pn)).env)).any (·.1) = false := by rfl) :
    JE (X.suite a ((a, oe) :: pn)) (.Call (.Name "isinstance" p) [.Name n p2, ce] [] pos) (eIsE a dd x i b) := by
  subst hK
  refine ⟨pe_callB (call_isX T hz hf) hg hm (by decide +kernel) (pa_cons hi (pa_cons hce pa_nil h2) h1) (by decide) (by decide) h1 hpl, fun P s G Q σ H R h r k => ?_⟩
  unfold eIsE at h
  split at h
  · rename_i a' e
    obtain ⟨rfl, hd, h⟩ := h
    obtain ⟨v, e1, e2⟩ := r.at_ i _ e
    unfold Rep at e2
    subst e2
    exact ⟨_, e1, c, cv, b, rfl, hcv, hk, (fun d ed => by rw [hd] at ed; cases ed), k _ G _ H (Step.refl _ _) r.wo rep_bl h⟩
  · rename_i a' d' n' e' e
    obtain ⟨rfl, hd, h⟩ := h
    obtain ⟨v, e1, e2⟩ := r.at_ i _ e
    unfold Rep at e2
    obtain ⟨rfl, g, pp, u, e3, e4⟩ := e2
    exact ⟨_, e1, c, cv, b, rfl, hcv, hk, (fun d ed => by rw [hd] at ed; cases ed; exact ⟨_, e3⟩), k _ G _ H (Step.refl _ _) r.wo rep_bl h⟩
  · exact h.elim
end
def eqF (a b : Option (Option Value)) : Bool := decide (a = b)
def excB (K : PySem.W.Frag) (C : Addr) : Bool := eqF (PySem.W.findIn K (.ref C) "__getattribute__") (some (some (.builtin "BaseException.__getattribute__"))) && eqF (PySem.W.findIn K (.ref C) "__getattr__") (some none) && decide (PySem.W.subIn K (.ref C) (.type "BaseException") = some true) && PySem.W.hasDictIn K C
  && eqF (PySem.W.findIn K (.ref C) "__class__") (some (some (.builtin "object.__class__"))) && eqF (PySem.W.specialIn K (.builtin "object.__class__") "__get__") (some (some (.builtin "getset_descriptor.__get__"))) && decide (PySem.W.takesIn K (.builtin "object.__class__") = some true) && decide (PySem.W.mroIn K C (.type "object") = some true)
theorem excB_ok {K : PySem.W.Frag} {C : Addr} (h : excB K C = true) : ExcC K C := by
  unfold excB eqF at h
  simp only [Bool.and_eq_true, decide_eq_true_eq] at h
  obtain ⟨⟨⟨⟨⟨⟨⟨h1, h2⟩, h3⟩, h4⟩, h5⟩, h6⟩, h7⟩, h8⟩ := h
  exact ⟨h1, h2, h3, h4, h5, h6, h7, h8⟩
def oexB (K : PySem.W.Frag) (C : Addr) : Bool := (match K.lookup C with
  | some ⟨.type "type", _, .cls cd, sl⟩ => (match cd.mro, sl.toList with
    | .ref C' :: bm, [_, _, _, _, some (.builtin n), _] => C' == C && n == "ValueError.__new__" && !cd.hasDel && PySem.HandSPX.refsVE bm && cd.hasDict
    | _, _ => false)
  | _ => false) && eqF (PySem.W.findIn K (.ref C) "__setattr__") (some (some (.builtin "object.__setattr__"))) && decide (PySem.W.subIn K (.ref C) (.type "BaseException") = some true) && decide (PySem.W.typeIn K (.ref C) = some (.type "type")) && PySem.W.keepIn K (.ref C)
theorem oexB_ok {K : PySem.W.Frag} {C : Addr} (h : oexB K C = true) : OexC K C := by
  unfold oexB eqF at h
  simp only [Bool.and_eq_true, decide_eq_true_eq] at h
  obtain ⟨⟨⟨⟨h1, h2⟩, h3⟩, h4⟩, h5⟩ := h
  refine ⟨?_, h2, h3, h4, h5⟩
  split at h1
  · rename_i dd cd sl ho
    split at h1
    · rename_i C' bm k0 k1 k2 k3 n k5 hm hs
      simp only [Bool.and_eq_true, beq_iff_eq, Bool.not_eq_true'] at h1
      obtain ⟨⟨⟨⟨rfl, rfl⟩, hdel⟩, ht⟩, hdc⟩ := h1
      obtain ⟨nm, bs, mro, ns, qn, hd, sn, sub, ab, col, del⟩ := cd
      dsimp only at hm hdel hdc
      subst hm hdel hdc
      have hsl : sl = #[k0, k1, k2, k3, some (.builtin "ValueError.__new__"), k5] := by
        obtain ⟨l⟩ := sl
        simp only at hs
        rw [hs]
      subst hsl
      exact ⟨nm, qn, ns, bs, bm, sn, sub, ab, col, dd, k0, k1, k2, k3, k5, ho, ht⟩
    · cases h1
  · cases h1
/-- an exception class with a field -/
def oxB (K : PySem.W.Frag) (c f : Str) : Bool := oexB K (He.ga K c) && eqF (PySem.W.findIn K (.ref (He.ga K c)) "__init__") (some (some (.ref (He.ma K (He.ga K c) "__init__")))) && decide (PySem.W.typeIn K (.ref (He.ma K (He.ga K c) "__init__")) = some (.type "function")) && eqF (PySem.W.findIn K (.ref (He.ga K c)) f) (some none)
theorem oxB_ok {P : Program} {w : World} {K : PySem.W.Frag} {mg : Str → Option Value} {base : Heap} {c f : Str} (h : oxB K c f = true) (g : mg c = some (.ref (He.ga K c))) (fn : ∃ fd, FnOk P w K mg base CX0 1 (He.ma K (He.ga K c) "__init__") fd [("self" : Str), f] (initSp K f) ∧ Binds K fd [("self" : Str), f] []) : OxK P w K mg base c f := by
  unfold oxB eqF at h
  simp only [Bool.and_eq_true, decide_eq_true_eq] at h
  obtain ⟨⟨⟨h1, h2⟩, h3⟩, h4⟩ := h
  exact ⟨oexB_ok h1, h2, h3, h4, g, fn⟩
/-- of each of some classes -/
def allB (K : PySem.W.Frag) (ns : List Str) (t : PySem.W.Frag → Str → Bool) : Bool := ns.all (t K)
theorem allB_ok {K : PySem.W.Frag} {ns : List Str} {t : PySem.W.Frag → Str → Bool} (h : allB K ns t = true) {m : Str} (hm : m ∈ ns) : t K m = true := List.all_eq_true.mp h m hm
def tExc (K : PySem.W.Frag) (m : Str) : Bool := excB K (He.ga K m)
def tKit (c : Str) (K : PySem.W.Frag) (m : Str) : Bool := decide (PySem.W.kitOne K (.ref (He.ga K m)) (.ref (He.ga K c)) = some (isSub m c))
def tKitV (K : PySem.W.Frag) (m : Str) : Bool := decide (PySem.W.kitOne K (.ref (He.ga K m)) (.type "ValueError") = some true)
def tExm (c : Str) (K : PySem.W.Frag) (m : Str) : Bool := decide (PySem.W.exmOne K (.ref (He.ga K m)) (.ref (He.ga K c)) = some (isSub m c))
theorem tKit_ok {K : PySem.W.Frag} {c m : Str} (h : tKit c K m = true) : PySem.W.kitOne K (.ref (He.ga K m)) (.ref (He.ga K c)) = some (isSub m c) := of_decide_eq_true h
theorem tKitV_ok {K : PySem.W.Frag} {m : Str} (h : tKitV K m = true) : PySem.W.kitOne K (.ref (He.ga K m)) (.type "ValueError") = some true := of_decide_eq_true h
theorem tExm_ok {K : PySem.W.Frag} {c m : Str} (h : tExm c K m = true) : PySem.W.exmOne K (.ref (He.ga K m)) (.ref (He.ga K c)) = some (isSub m c) := of_decide_eq_true h
/-- a class of refusals without a field -/
structure XtK (K : PySem.W.Frag) (mg : Str → Option Value) (c : Str) : Prop where
  fe : PySem.W.excIn K (He.ga K c) He.veBase "ValueError.__new__" = true
  kC : PySem.W.keepIn K (.ref (He.ga K c)) = true
  bC : PySem.W.subIn K (.ref (He.ga K c)) (.type "BaseException") = some true
  tC : PySem.W.typeIn K (.ref (He.ga K c)) = some (.type "type")
  gC : mg c = some (.ref (He.ga K c))
end DL
set_option Elab.async false
set_option linter.all false
set_option maxRecDepth 100000
set_option maxHeartbeats 4000000
namespace DL
open PySem PySem.Spec PyProof.Rows L2
section
variable {X : Cx} {K : PySem.W.Frag} {pos : Pos}
@[simp] def eDispV (tk tv : EE) : EE := fun s G Q => tk s G fun a G1 => tv s G1 fun b G2 => match keyD a with
  | some k => Q (.dct [k] [b]) G2
  | none => False
/-- x in range(a, b), x not in range(a, b) -/
@[simp] def oInR (neg : Bool) : D → D → D → Gp → DK → Prop := fun x a b G Q => match x, a, b with
  | .int i, .int lo, .int hi => Q (.bl (if neg then !decide (lo ≤ i ∧ i < hi) else decide (lo ≤ i ∧ i < hi))) G
  | _, _, _ => False
@[simp] def eInR (neg : Bool) (tx ta tb : EE) : EE := fun s G Q => tx s G fun x G1 => ta s G1 fun a G2 => tb s G2 fun b G3 => oInR neg x a b G3 Q
end
end DL
set_option Elab.async false
set_option linter.all false
set_option maxRecDepth 100000
set_option maxHeartbeats 4000000
namespace DL
open PySem PySem.Spec PyProof.Rows L2 PySem.W
end DL
set_option Elab.async false
set_option linter.all false
set_option maxRecDepth 100000
set_option maxHeartbeats 4000000
namespace DL
open PySem PySem.Spec PyProof.Rows L2 PySem.W
def gdel (G : Gp) (p : Addr) : Gp := fun a => if a = p then none else G a
theorem gdel_put {G : Gp} {p : Addr} {o : GO} (h : G p = none) : gdel (gput G p o) p = G := by
  funext a
  unfold gdel
  by_cases q : a = p
  · rw [if_pos q, q, h]
  · rw [if_neg q, gput_ne q]
theorem gdel_ne {G : Gp} {p a : Addr} (h : a ≠ p) : gdel G p a = G a := by
  unfold gdel
  rw [if_neg h]
theorem gdel_same {G : Gp} {p : Addr} : gdel G p p = none := by
  unfold gdel
  rw [if_pos rfl]
mutual
theorem frz_off {G : Gp} {p : Addr} {ds : List D} (h : G p = none) : ∀ {d : D}, RefIn G d → frz p ds d = d
  | .non, _ => by simp only [frz]
  | .bl _, _ => by simp only [frz]
  | .int _, _ => by simp only [frz]
  | .str _, _ => by simp only [frz]
  | .ty _, _ => by simp only [frz]
  | .cl _, _ => by simp only [frz]
  | .scr _, _ => by simp only [frz]
  | .exc a dd f e, q => by simp only [RefIn] at q; simp only [frz, frz_off h q]
  | .ref a, q => by
    simp only [RefIn] at q
    obtain ⟨o, e⟩ := q
    simp only [frz]
    rw [if_neg fun z => by rw [z, h] at e; cases e]
  | .lst es, q => by simp only [RefIn] at q; simp only [frz, frzs_off h q]
  | .tup es, q => by simp only [RefIn] at q; simp only [frz, frzs_off h q]
  | .dct ks es, q => by simp only [RefIn] at q; simp only [frz, frzs_off h q]
theorem frzs_off {G : Gp} {p : Addr} {ds : List D} (h : G p = none) : ∀ {es : List D}, RefIns G es → frzs p ds es = es
  | [], _ => by simp only [frzs]
  | e :: es, q => by simp only [RefIns] at q; simp only [frzs, frz_off h q.1, frzs_off h q.2]
end
/-- t, then a list made in t is given up, then u -/
def sFz (t u : ES) : ES := fun N s G => t { N with nx := fun s' G' => ∃ p ds, G p = none ∧ G' p = some (.lst ds) ∧ plainDs ds = true ∧ (∀ a o, gdel G' p a = some o → RefO (gdel G' p) o ∨ G a = some o) ∧
  (∀ (i : Nat) (d : D), s'[i]? = some (some d) → s[i]? = some (some d) ∨ RefIn (gdel G' p) (frz p ds d)) ∧ u N (s'.map (Option.map (frz p ds))) (gdel G' p) } s G
section
variable {X : Cx} {Y : Wx} {K : PySem.W.Frag} {st st2 : Stmt} {rest : List Stmt} {t u : TS} {et eu e1 e2 : ES}
theorem ls_fz (h1 : LS K Y t et) (h2 : LS K Y u eu) : LS K Y (tSeq t u) (sFz et eu) := fun P s G N σ H M h r k =>
  h1 P s G _ σ H _ h r ⟨fun s' G' σ' H' st r' h' => by
    obtain ⟨p, ds, g0, g1, pl, hc, hs, q⟩ := h'
    have s1 : ∀ a o, gdel G' p a = some o → G' a = some o := fun a o e => by
      by_cases z : a = p
      · rw [z, gdel_same] at e; cases e
      · rw [gdel_ne z] at e; exact e
    have s0 : ∀ a o, G a = some o → ∃ o', gdel G' p a = some o' := fun a o e => by
      obtain ⟨o', e'⟩ := st.own a o e
      exact ⟨o', by rw [gdel_ne fun z => by rw [z, g0] at e; cases e]; exact e'⟩
    have s2 : ∀ a, G' a = none → gdel G' p a = none := fun a e => by
      by_cases z : a = p
      · rw [z, gdel_same]
      · rw [gdel_ne z]; exact e
    obtain ⟨a1, a2, a3⟩ := fz_lstS (p := p) s1 s0 hc g1 gdel_same (refIns_plain pl) K P H H' (.ref p) r.wo st r'.wo (by unfold Rep; exact ⟨rfl, _, g1⟩)
    refine h2 P _ (gdel G' p) N σ' H' M q ⟨a2, by rw [List.length_map]; exact r'.len, fun i d e => ?_⟩ (k.step a1)
    rw [List.getElem?_map] at e
    cases e' : s'[i]? with
    | none => rw [e'] at e; cases e
    | some od =>
      cases od with
      | none => rw [e'] at e; cases e
      | some d' =>
        rw [e'] at e
        simp only [Option.map_some, Option.some.injEq] at e
        obtain ⟨v, ev, rv⟩ := r'.at_ i d' e'
        refine ⟨v, ev, ?_⟩
        rw [← e]
        refine Rep.frz s2 a3 ?_ rv
        rcases hs i d' e' with z | z
        · obtain ⟨v0, _, r0⟩ := r.at_ i d' z
          have := ref_of r0
          rw [frz_off g0 this]
          exact refIn_mono s0 this
        · exact z, k.rt, k.bk, k.ct, k.xr⟩
theorem jss_fz1 (h1 : JS X Y st e1) (h2 : JSs X Y rest eu) : JSs X Y (st :: rest) (sFz e1 eu) := ⟨pss_cons h1.ps h2.ps, ls_fz h1.ls h2.ls⟩
end
end DL
set_option Elab.async false
set_option linter.all false
set_option maxRecDepth 100000
set_option maxHeartbeats 4000000
namespace DL
open PySem PySem.Spec PyProof.Rows L2 LN
def az : Str := "abcdefghijklmnopqrstuvwxyz"
def namB : D → Bool
  | .str z => decide (1 ≤ z.length ∧ z.length ≤ 8) && z.cps.toList.all fun c => decide (c ∈ az.cps.toList)
  | _ => false
def F_is_name : Sf := fun ds G Q => ∃ d, ds = [d] ∧ anyD d = true ∧ (∀ z, d = .str z → z.length ≤ 1000 ∧ Asc z) ∧ Q (.bl (namB d)) G
def r_is_name : ES :=
  (sSeq (sIf (eOr (eNot (eTru (eCB cIsi (eCons (eVar 0) (eCons (eC (.ty "str")) eNil))))) (eNot (eT (eChain oLe oLe (eC (.int 1)) (eCB cLen (eCons (eVar 0) eNil)) (eC (.int 8)))))) (sRet (eC (.bl false))) sNext)
  (sRet (eCB cAll (eCons (eLc (iS (eVar 0)) (.nm 1) eYes (eOp oInS (eVar 1) (eC (.str "abcdefghijklmnopqrstuvwxyz"))) [1]) eNil))))
theorem nam_str (z : Str) : namB (.str z) = (decide (1 ≤ z.length ∧ z.length ≤ 8) && z.cps.toList.all fun c => decide (c ∈ az.cps.toList)) := rfl
theorem d_is_name (ds : List D) (G : Gp) (Q : DK) (h : F_is_name ds G Q) : r_is_name (fin G Q) (startD 2 ds) G := by
  obtain ⟨d, rfl, ha, hz, k⟩ := h
  refine seq_gen fun W hW => ?_
  simp only [startD, sIf, eOr, eNot, eTru, eCB, eCons, eNil, eVar, eC, List.map_cons, List.map_nil, List.length_cons, List.length_nil, List.cons_append, List.nil_append, List.getElem?_cons_zero, List.getElem?_cons_succ]
  rw [isi_str ha]
  cases d with
  | str z =>
    obtain ⟨hz, hasc⟩ := hz z rfl
    simp
    refine ⟨by omega, ?_⟩
    by_cases h1 : 1 ≤ z.length
    · by_cases h8 : 8 < z.length
      · have e1 : (1 : Int) ≤ (z.length : Int) := by omega
        have e2 : (8 : Int) < (z.length : Int) := by omega
        have en : namB (.str z) = false := by simp [namB]; omega
        rw [en] at k
        rw [if_pos e1, if_pos e2]
        exact fin_id k
      · have e1 : (1 : Int) ≤ (z.length : Int) := by omega
        have e2 : ¬ (8 : Int) < (z.length : Int) := by omega
        rw [if_pos e1, if_neg e2]
        refine hW _ _ ?_
        simp
        refine ⟨by omega, ?_⟩
        unfold sgnD
        refine compW_all (f := fun c : Nat => D.bl (decide (c ∈ az.cps.toList))) True.intro z.cps.toList [] (fun c hc => ⟨_, rfl, fun R r => ?_⟩) ?_
        · simp
          have : decide (c ∈ az.cps.toList) = decide (c ∈ (Str.ofString "abcdefghijklmnopqrstuvwxyz").cps) := by
            rw [Bool.eq_iff_iff]
            simp [az]
          rw [← this]
          exact r
        · rw [List.nil_append]
          have eb : ∀ l : List Nat, blsD (l.map fun c => D.bl (decide (c ∈ az.cps.toList))) = some (l.map fun c => decide (c ∈ az.cps.toList)) := fun l => by
            induction l with
            | nil => rfl
            | cons c l ih => rw [List.map_cons, blsD, ih]; rfl
          rw [eb]
          refine fin_id ?_
          have en : (List.map (fun c => decide (c ∈ az.cps.toList)) z.cps.toList).all id = namB (.str z) := by
            rw [nam_str, List.all_map, decide_eq_true (⟨h1, by omega⟩ : 1 ≤ z.length ∧ z.length ≤ 8), Bool.true_and]
            rfl
          rw [en]
          exact k
    · have e1 : ¬ (1 : Int) ≤ (z.length : Int) := by omega
      have en : namB (.str z) = false := by simp [namB]; omega
      rw [en] at k
      rw [if_neg e1]
      exact fin_id k
  | _ => simp; exact fin_id k
theorem asc_one {c : Nat} (h : c < 1114112) : Asc ⟨#[c]⟩ := fun d hd => by simp at hd; subst hd; exact h
theorem asc_cat {x y : Str} (h1 : Asc x) (h2 : Asc y) : Asc (x ++ y) := fun c hc => by
  have e : (x ++ y).cps.toList = x.cps.toList ++ y.cps.toList := by show (x.cps ++ y.cps).toList = _; simp
  rw [e] at hc
  rcases List.mem_append.mp hc with q | q
  · exact h1 c q
  · exact h2 c q
theorem JE.imp {X : Cx} {e : Expr} {t t' : EE} (h : JE X e t) (k : ∀ s G Q, t' s G Q → t s G Q) : JE X e t' := by
  obtain ⟨a, b⟩ := h
  exact ⟨a, fun P s G Q σ H R q r kk => b P s G Q σ H R (k s G Q q) r kk⟩
mutual
def okT : D → Bool
  | .non => true
  | .bl _ => true
  | .int _ => true
  | .str z => decide (z.length ≤ 1000) && z.cps.toList.all fun c => decide (c < 1114112)
  | .lst ds => okTs ds
  | .tup ds => okTs ds
  | .dct _ ds => okTs ds
  | _ => false
def okTs : List D → Bool
  | [] => true
  | d :: ds => okT d && okTs ds
end
theorem okTs_mem : ∀ {ds : List D}, okTs ds = true ↔ ∀ d ∈ ds, okT d = true
  | [] => by simp [okTs]
  | d :: ds => by simp [okTs, okTs_mem (ds := ds)]
mutual
theorem okT_any : ∀ {d : D}, okT d = true → anyD d = true
  | .non, _ => rfl
  | .bl _, _ => rfl
  | .int _, _ => rfl
  | .str _, _ => rfl
  | .lst ds, h => by simp only [anyD]; exact okTs_any (by simpa [okT] using h)
  | .tup ds, h => by simp only [anyD]; exact okTs_any (by simpa [okT] using h)
  | .dct _ ds, h => by simp only [anyD]; exact okTs_any (by simpa [okT] using h)
  | .ty _, h => by simp [okT] at h
  | .ref _, h => by simp [okT] at h
  | .cl _, h => by simp [okT] at h
  | .exc _ _ _ _, h => by simp [okT] at h
  | .scr _, h => by simp [okT] at h
theorem okTs_any : ∀ {ds : List D}, okTs ds = true → anyDs ds = true
  | [], _ => rfl
  | d :: ds, h => by
    simp only [okTs, Bool.and_eq_true] at h
    simp only [anyDs, Bool.and_eq_true]
    exact ⟨okT_any h.1, okTs_any h.2⟩
end
theorem okT_str {z : Str} (h : okT (.str z) = true) : z.length ≤ 1000 ∧ Asc z := by
  simp only [okT, Bool.and_eq_true, decide_eq_true_eq, List.all_eq_true] at h
  exact ⟨h.1, fun c hc => h.2 c hc⟩
theorem okT_of {z : Str} (h1 : z.length ≤ 1000) (h2 : Asc z) : okT (.str z) = true := by
  simp only [okT, Bool.and_eq_true, decide_eq_true_eq, List.all_eq_true]
  exact ⟨h1, fun c hc => h2 c hc⟩
theorem okT_tup {ds : List D} : okT (.tup ds) = true ↔ ∀ d ∈ ds, okT d = true := by rw [← okTs_mem]; simp [okT]
theorem is_name_ok {d : D} {G : Gp} {Q : DK} (h : okT d = true) (q : Q (.bl (namB d)) G) : F_is_name [d] G Q := ⟨d, rfl, okT_any h, fun z e => by subst e; exact okT_str h, q⟩
def intOf : D → Option Int
  | .int i => some i
  | _ => none
theorem intOf_eq {d : D} {i : Int} (h : intOf d = some i) : d = .int i := by
  cases d <;> simp [intOf] at h
  subst h; rfl
theorem wh_int (d : D) : whB d = (intOf d).isSome := by cases d <;> rfl
def strB : D → Bool
  | .tup [n, b, e, w] => namB n && (match intOf b, intOf e, intOf w with
    | some b, some e, some w => decide (-1000000000000 ≤ b ∧ b < e ∧ e ≤ 1000000000000 ∧ 0 ≤ w ∧ w ≤ 1000000000000)
    | _, _, _ => false)
  | _ => false
theorem strB_4 {n b e w : D} : strB (.tup [n, b, e, w]) = (namB n && (match intOf b, intOf e, intOf w with
    | some b, some e, some w => decide (-1000000000000 ≤ b ∧ b < e ∧ e ≤ 1000000000000 ∧ 0 ≤ w ∧ w ≤ 1000000000000)
    | _, _, _ => false)) := rfl
theorem strB_len {es : List D} (h : es.length ≠ 4) : strB (.tup es) = false := by
  match es, h with
  | [], _ => rfl
  | [_], _ => rfl
  | [_, _], _ => rfl
  | [_, _, _], _ => rfl
  | [_, _, _, _], h => simp at h
  | _ :: _ :: _ :: _ :: _ :: _, _ => rfl
def F_is_stretch : Sf := fun ds G Q => ∃ d, ds = [d] ∧ okT d = true ∧ Q (.bl (strB d)) G
def r_is_stretch : ES :=
  (sSeq (sIf (eOr (eNot (eTru (eCB cIsi (eCons (eVar 0) (eCons (eC (.ty "tuple")) eNil))))) (eOr (eT (eOp oNe (eCB cLen (eCons (eVar 0) eNil)) (eC (.int 4)))) (eNot (eTru (eCall F_is_name (eCons (eOp oIx (eVar 0) (eC (.int 0))) eNil)))))) (sRet (eC (.bl false))) sNext)
  (sSeq (sIf (eNot (eTru (eCB cAll (eCons (eLc (iT (eSlT (eVar 0) (ePart (eC (.int 1))) eNoPart)) (.nm 4) eYes (eCall F_is_whole (eCons (eVar 4) eNil)) [4]) eNil)))) (sRet (eC (.bl false))) sNext)
  (sSeq (sAsg (eSlT (eVar 0) (ePart (eC (.int 1))) eNoPart) (.tp [1, 2, 3]))
  (sRet (eAndT (eChain3 oLe oLt oLe (eOp oSub (eC (.int 0)) (eC (.int 1000000000000))) (eVar 1) (eVar 2) (eC (.int 1000000000000))) (eChain oLe oLe (eC (.int 0)) (eVar 3) (eC (.int 1000000000000))))))))
theorem cut4 (a b c d : D) : cutD [a, b, c, d] (some 1) none = [b, c, d] := rfl
theorem ixt_0 {ds : List D} {d : D} {G : Gp} {Q : DK} {i : Int} (e : atI ds i = some d) (q : Q d G) : oIx (.tup ds) (.int i) G Q := by
  simp only [oIx, lkQ_tup, e]
  exact q
theorem len_tup {ds : List D} {G : Gp} {Q : DK} (q : Q (.int ds.length) G) : cLen [.tup ds] G Q := by
  simp only [cLen, lkQ_tup]
  exact q
theorem len_lst {ds : List D} {G : Gp} {Q : DK} (q : Q (.int ds.length) G) : cLen [.lst ds] G Q := by
  simp only [cLen, lkQ_lst]
  exact q
theorem ne_ii {a b : Int} {G : Gp} {Q : DK} (q : Q (.bl (!decide (a = b))) G) : oNe (.int a) (.int b) G Q := by
  simp only [oNe, toPy, sh_int, eqv_ii, true_and]
  exact q
theorem eq_ii {a b : Int} {G : Gp} {Q : DK} (q : Q (.bl (decide (a = b))) G) : oEq (.int a) (.int b) G Q := by
  simp only [oEq, toPy, sh_int, eqv_ii, true_and]
  exact q
theorem len4 : (!decide (((0 + 1 + 1 + 1 + 1 : Nat) : Int) = 4)) = false := by decide
theorem is_stretch_4 {n b e w : D} {G : Gp} {Q : DK} (hn : okT n = true) (hb : okT b = true) (he : okT e = true) (hw : okT w = true) (k : Q (.bl (strB (.tup [n, b, e, w]))) G) :
    r_is_stretch (fin G Q) (startD 5 [.tup [n, b, e, w]]) G := by
  refine seq_gen fun W hW => ?_
  (try dsimp only [startD, List.length_cons, List.length_nil, sIf, eOr, eNot, eTru, eCB, eCons, eVar, sRet, eC, sNext, eT, eOp, eCall, eNil]); (try simp only [List.map_cons, List.map_nil, Nat.reduceAdd, List.cons_append, List.nil_append, if_true]); (try dsimp only [List.getElem?_cons_zero])
  rw [isi_tuple (by simp [anyD, anyDs, okT_any hn, okT_any hb, okT_any he, okT_any hw])]
  (try dsimp only [isT, truD_bl]); (try simp only [Bool.not_true, Bool.false_eq_true, if_false]); (skip)
  refine len_tup (ne_ii ?_)
  (try dsimp only); (try simp only [List.length_cons, List.length_nil, Nat.reduceAdd, len4, Bool.false_eq_true, if_false]); (skip)
  refine ixt_0 (d := n) rfl (is_name_ok hn ?_)
  rw [strB_4] at k
  cases qn : namB n with
  | false =>
    rw [qn] at k
    (try dsimp only [truD_bl]); (try simp only [Bool.not_false, if_true]); (skip)
    exact fin_id k
  | true =>
    rw [qn] at k
    (try dsimp only [truD_bl]); (try simp only [Bool.not_true, Bool.false_eq_true, if_false]); (skip)
    refine hW _ _ (seq_gen fun W2 hW2 => ?_)
    (try dsimp only [sIf, eNot, eTru, eCB, eCons, eLc, iT, eSlT, eVar, List.getElem?_cons_zero, sRet, eC, sNext, eNil, eNoPart, ePart]); (try simp only [List.length_cons, List.length_nil, Nat.reduceAdd, List.replicate]); (skip)
    refine ⟨by decide, ?_⟩
    rw [cut4]
    simp only [compW, wipeD]
    (try dsimp only [List.set_cons_succ, List.set_cons_zero, asg, eCall, eCons, eVar, eNil, eYes, List.getElem?_cons_succ, List.getElem?_cons_zero]); (try simp only [true_and, if_true]); (skip)
    refine whole_any (okT_any hb) (whole_any (okT_any he) (whole_any (okT_any hw) ?_))
    simp only [List.nil_append, List.cons_append, cAll, lkL_lst, Option.bind_some, blsD, Option.map_some, List.all_cons, List.all_nil, id]
    rw [wh_int, wh_int, wh_int]
    cases q1 : intOf b with
    | none => rw [q1] at k; simp; exact fin_id (by simpa using k)
    | some ib =>
      cases q2 : intOf e with
      | none => rw [q1, q2] at k; simp; exact fin_id (by simpa using k)
      | some ie =>
        cases q3 : intOf w with
        | none => rw [q1, q2, q3] at k; simp; exact fin_id (by simpa using k)
        | some iw =>
          rw [q1, q2, q3] at k
          have := intOf_eq q1
          subst this
          have := intOf_eq q2
          subst this
          have := intOf_eq q3
          subst this
          (try dsimp only [Option.isSome_some, truD_bl]); (try simp only [Bool.and_self, Bool.not_true, Bool.false_eq_true, if_false]); (skip)
          refine hW2 _ _ (seq_gen fun W3 hW3 => ?_)
          (try dsimp only [sAsg, eSlT, eVar, List.getElem?_cons_zero, asg, eNoPart, ePart, eC]); (try simp only [List.length_cons, List.length_nil, Nat.reduceAdd]); (skip)
          refine ⟨by decide, ?_⟩
          rw [cut4]
          (try dsimp only [setAll, List.set_cons_succ, List.set_cons_zero]); (skip); (skip)
          refine hW3 _ _ ?_
          (try dsimp only [oLe, oLt, oSub, sRet, eAndT, eChain3, eOp, eC, oI0, eVar, List.getElem?_cons_succ, List.getElem?_cons_zero, eChain, truD_bl]); (try simp only [Bool.false_eq_true, if_false]); (skip)
          simp only [Bool.true_and] at k
          by_cases c1 : (0 : Int) - 1000000000000 ≤ ib
          · by_cases c2 : ib < ie
            · by_cases c3 : ie ≤ 1000000000000
              · by_cases c4 : 0 ≤ iw
                · by_cases c5 : iw ≤ 1000000000000
                  · (skip); (try simp only [c1, decide_true, c2, c3, c4, c5, if_true]); (skip)
                    rw [decide_eq_true (by omega)] at k
                    exact fin_id k
                  · (skip); (try simp only [c1, decide_true, c2, c3, c4, c5, decide_false, if_true]); (skip)
                    rw [decide_eq_false (by omega)] at k
                    exact fin_id k
                · (skip); (try simp only [c1, decide_true, c2, c3, c4, decide_false, Bool.false_eq_true, if_false, if_true]); (skip)
                  rw [decide_eq_false (by omega)] at k
                  exact fin_id k
              · (skip); (try simp only [c1, decide_true, c2, c3, decide_false, Bool.false_eq_true, if_false, if_true]); (skip)
                rw [decide_eq_false (by omega)] at k
                exact fin_id k
            · (skip); (try simp only [c1, decide_true, c2, decide_false, Bool.false_eq_true, if_false, if_true]); (skip)
              rw [decide_eq_false (by omega)] at k
              exact fin_id k
          · (skip); (try simp only [c1, decide_false, Bool.false_eq_true, if_false]); (skip)
            rw [decide_eq_false (by omega)] at k
            exact fin_id k
theorem d_is_stretch (ds : List D) (G : Gp) (Q : DK) (h : F_is_stretch ds G Q) : r_is_stretch (fin G Q) (startD 5 ds) G := by
  obtain ⟨d, rfl, ha, k⟩ := h
  cases d with
  | tup es =>
    by_cases l4 : es.length = 4
    · match es, l4 with
      | [n, b, e, w], _ =>
        have hm := okT_tup.mp ha
        exact is_stretch_4 (hm n (by simp)) (hm b (by simp)) (hm e (by simp)) (hm w (by simp)) k
    · rw [strB_len l4] at k
      refine seq_gen fun W hW => ?_
      (try dsimp only [startD, List.length_cons, List.length_nil, sIf, eOr, eNot, eTru, eCB, eCons, eVar, sRet, eC, sNext, eT, eOp, eCall, eNil]); (try simp only [List.map_cons, List.map_nil, Nat.reduceAdd, List.cons_append, List.nil_append, if_true]); (try dsimp only [List.getElem?_cons_zero])
      rw [isi_tuple (okT_any ha)]
      (try dsimp only [isT, truD_bl]); (try simp only [Bool.not_true, Bool.false_eq_true, if_false]); (skip)
      refine len_tup (ne_ii ?_)
      rw [decide_eq_false (by omega)]
      (try dsimp only); (try simp only [Bool.not_false, if_true]); (skip)
      exact fin_id k
  | _ =>
    refine seq_gen fun W hW => ?_
    (try dsimp only [startD, List.length_cons, List.length_nil, sIf, eOr, eNot, eTru, eCB, eCons, eVar, sRet, eC, sNext, eT, eOp, eCall, eNil]); (try simp only [List.map_cons, List.map_nil, Nat.reduceAdd, List.cons_append, List.nil_append, if_true]); (try dsimp only [List.getElem?_cons_zero])
    rw [isi_tuple (okT_any ha)]
    (try dsimp only [isT, truD_bl]); (try simp only [Bool.not_false, if_true]); (skip)
    exact fin_id k
end DL
set_option Elab.async false
set_option linter.all false
set_option maxRecDepth 100000
set_option maxHeartbeats 4000000
namespace DL
open PySem PySem.Spec PyProof.Rows L2 LN
end DL
set_option Elab.async false
set_option linter.all false
set_option maxRecDepth 100000
set_option maxHeartbeats 4000000
namespace DL
open PySem PySem.Spec PyProof.Rows L2 LN
theorem add_ii {a b : Int} {G : Gp} {Q : DK} (q : Q (.int (a + b)) G) : oAdd (.int a) (.int b) G Q := q
theorem add_ss {a b : Str} {G : Gp} {Q : DK} (h : a.length + b.length ≤ 16777216) (q : Q (.str (a ++ b)) G) : oAdd (.str a) (.str b) G Q := by
  simp only [oAdd]
  exact ⟨by rw [sizeLine_eq]; exact h, q⟩
theorem eqv_ss (a b : Str) : PyData.eqv (.str a) (.str b) = decide (a = b) := by
  simp only [PyData.eqv]
  rw [Bool.eq_iff_iff]; simp
theorem eq_ss {a b : Str} {G : Gp} {Q : DK} (ha : Asc a) (hb : Asc b) (q : Q (.bl (decide (a = b))) G) : oEq (.str a) (.str b) G Q := by
  simp only [oEq, toPy, (shp_str (n := 0) ha).shaped (by decide), (shp_str (n := 0) hb).shaped (by decide), eqv_ss, true_and]
  exact q
theorem ne_ss {a b : Str} {G : Gp} {Q : DK} (ha : Asc a) (hb : Asc b) (q : Q (.bl (!decide (a = b))) G) : oNe (.str a) (.str b) G Q := by
  simp only [oNe, toPy, (shp_str (n := 0) ha).shaped (by decide), (shp_str (n := 0) hb).shaped (by decide), eqv_ss, true_and]
  exact q
end DL
set_option Elab.async false
set_option linter.all false
set_option maxRecDepth 100000
set_option maxHeartbeats 4000000
namespace DL
open PySem PySem.Spec PyProof.Rows L2 LN
end DL
set_option Elab.async false
set_option linter.all false
set_option maxRecDepth 100000
set_option maxHeartbeats 4000000
namespace DL
open PySem PySem.Spec PyProof.Rows L2 LN
end DL
set_option Elab.async false
set_option linter.all false
set_option maxRecDepth 100000
set_option maxHeartbeats 4000000
namespace DL
open PySem PySem.Spec PyProof.Rows L2 LN
end DL
set_option Elab.async false
set_option linter.all false
set_option maxRecDepth 100000
set_option maxHeartbeats 4000000
namespace DL
open PySem PySem.Spec PyProof.Rows L2 LN
theorem range_cut {n i : Nat} (h : i < n) : List.range n = List.range i ++ i :: List.range' (i + 1) (n - i - 1) := by
  rw [List.range_eq_range', List.range_eq_range', show n = i + (1 + (n - i - 1)) from by omega, ← List.range'_append_1, ← List.range'_append_1]
  simp
theorem map_take {bk : List Stretch} {i : Nat} (h : i < bk.length) : (List.range i).map (st bk) = bk.take i ∧ (List.range' (i + 1) (bk.length - i - 1)).map (st bk) = bk.drop (i + 1) := by
  have e := map_range_st bk
  rw [range_cut h, List.map_append, List.map_cons] at e
  have l1 : ((List.range i).map (st bk)).length = (bk.take i).length := by simp; omega
  have e3 := List.append_inj (e.trans (bk_split h)) l1
  exact ⟨e3.1, (List.cons.inj e3.2).2⟩
end DL
set_option Elab.async false
set_option linter.all false
set_option maxRecDepth 100000
set_option maxHeartbeats 4000000
namespace DL
open PySem PySem.Spec PyProof.Rows L2 LN
theorem ne_self {x y : D} {u : PyData} {n : Nat} {G : Gp} {Q : DK} (sh : Shp n u) (e1 : toPy G x = some u) (e2 : toPy G y = some u) (q : Q (.bl false) G) (hn : n ≤ 64 := by decide) : oNe x y G Q := by
  simp only [oNe, e1, e2, sh.shaped hn, eqv_self sh, true_and]
  exact q
theorem eq_self {x y : D} {u : PyData} {n : Nat} {G : Gp} {Q : DK} (sh : Shp n u) (e1 : toPy G x = some u) (e2 : toPy G y = some u) (q : Q (.bl true) G) (hn : n ≤ 64 := by decide) : oEq x y G Q := by
  simp only [oEq, e1, e2, sh.shaped hn, eqv_self sh, true_and]
  exact q
end DL
set_option Elab.async false
set_option linter.all false
set_option maxRecDepth 100000
set_option maxHeartbeats 4000000
namespace DL
open PySem PySem.Spec PyProof.Rows L2 LamX
def lePB (bs : Nat → Int) : Nat → Nat → Bool := fun p q => decide (bs p < bs q ∨ (bs p = bs q ∧ (p : Int) ≤ (q : Int)))
def begins (bk : List Stretch) (l : List Nat) : List Nat := l.mergeSort (lePB fun j => (st bk j).b)
@[simp] def eBeg (i : Nat) (f q : Str) (ea : EE) : EE := fun s G Q => ea s G fun x G1 => ∃ (bk : List Stretch) (l : List Nat) (tab : Addr), s[i]? = some (some (.lst (bk.map Stretch.d))) ∧ lkL G1 x = some (nD l) ∧ l.length ≤ 1000000 ∧ bk.length ≤ 1000000 ∧ (∀ j ∈ l, j < bk.length) ∧ G1 tab = some (.tbl f q tab) ∧ Q (.lst (nD (begins bk l))) G1
/-- what of the ghost heap tells the tables of some defs -/
def Tbs (fs : List Str) (G : Gp) : Prop := ∀ f ∈ fs, ∃ tab, G tab = some (.tbl f (f ++ ".<locals>.<lambda>") tab)
/-- the law's promise, where defs make lambdas -/
def lawT (n : Nat) (fs : List Str) : Sf := fun ds G Q => ∃ ns : List Int, ds = [.scr ns] ∧ ns.length ≤ n ∧ Tbs fs G ∧ ∀ G', Q (.bl true) G'
theorem law_spT {K : PySem.W.Frag} {n : Nat} {fs : List Str} (hn : n ≤ sizeLine) {H : Hp} {a : Addr} {ns : List Int} (hl : ns.length ≤ n) (hT : ∀ f ∈ fs, H (He.cT K (f, none)).2 = some (.tbl #[])) (hi : ∀ f ∈ fs, ∀ g ∈ fs, (He.cT K (f, none)).2 = (He.cT K (g, none)).2 → f = g) (hS : SqL K H a (ns.map V.int)) {E : XK} : Lf K 1 (lawT n fs) [.ref a] H (fun v _ => v = .bl true) E := by
  classical
  let G : Gp := fun b => if h : ∃ f, f ∈ fs ∧ b = (He.cT K (f, none)).2 then some (.tbl h.choose (h.choose ++ ".<locals>.<lambda>") b) else none
  have gT : ∀ f ∈ fs, G (He.cT K (f, none)).2 = some (.tbl f (f ++ ".<locals>.<lambda>") (He.cT K (f, none)).2) := fun f hf => by
    have h : ∃ g, g ∈ fs ∧ (He.cT K (f, none)).2 = (He.cT K (g, none)).2 := ⟨f, hf, rfl⟩
    have e : h.choose = f := (hi f hf _ h.choose_spec.1 h.choose_spec.2).symm
    show dite _ _ _ = _
    rw [dif_pos h, e]
  have gN : ∀ b, (∀ f ∈ fs, b ≠ (He.cT K (f, none)).2) → G b = none := fun b hb => dif_neg fun ⟨f, hf, e⟩ => hb f hf e
  have wo : Wo K (fun _ => False) G H := by
    refine ⟨fun b o e => ?_, fun _ q => q.elim⟩
    by_cases hb : ∃ f, f ∈ fs ∧ b = (He.cT K (f, none)).2
    · obtain ⟨f, hf, rfl⟩ := hb
      rw [gT f hf] at e
      cases e
      exact ⟨_, hT f hf, rfl, #[], rfl, True.intro, fun pos cv hc => by
        have z : codeAmong pos [] = some cv := hc
        simp [codeAmong] at z⟩
    · rw [gN b fun f hf e => hb ⟨f, hf, e⟩] at e
      cases e
  refine ⟨rfl, fun _ => False, [.scr ns], G, fun d _ => d = .bl true, wo, reps_cons ?_ reps_nil, ⟨ns, rfl, hl, fun f hf => ⟨_, gT f hf⟩, fun _ => rfl⟩, fun d G' v H' _ _ r q => by subst q; exact rep_b r⟩
  have nb : ∀ o, H a = some o → (∀ ps, o ≠ .tbl ps) → G a = none := fun o ho no => gN a fun f hf e => by
    subst e
    rw [hT f hf] at ho
    cases ho
    exact no _ rfl
  unfold Rep
  refine ⟨a, rfl, Nat.le_trans hl hn, ?_⟩
  rcases hS with (h | ⟨o, h⟩) | h
  · exact .inr (.inl ⟨h, nb _ h (fun ps z => by cases z), fun x => x⟩)
  · exact .inl ⟨⟨o, h⟩, nb _ h (fun ps z => by cases z)⟩
  · exact .inr (.inr h)
end DL
set_option Elab.async false
set_option linter.all false
set_option maxRecDepth 100000
set_option maxHeartbeats 4000000
namespace DL
open PySem PySem.Spec PyProof.Rows L2 LN
/-- a promise whose exceptions are never met -/
def nev (F : Sx) : Sf := fun ds G Q => F ds G Q fun _ _ => False
end DL
set_option Elab.async false
set_option linter.all false
set_option maxRecDepth 100000
set_option maxHeartbeats 4000000
namespace DL
open PySem PySem.Spec PyProof.Rows L2 LN
end DL
set_option Elab.async false
set_option linter.all false
set_option maxRecDepth 100000
set_option maxHeartbeats 4000000
namespace DL
open PySem PySem.Spec PyProof.Rows L2 LN
theorem len_ref {q : Addr} {ds : List D} {G : Gp} {Q : DK} (h : G q = some (.lst ds)) (k : Q (.int ds.length) G) : cLen [.ref q] G Q := len_of (by simp [h]) k
end DL
set_option Elab.async false
set_option linter.all false
set_option maxRecDepth 100000
set_option maxHeartbeats 4000000
namespace DL
open PySem PySem.Spec PyProof.Rows L2 LN
end DL
set_option Elab.async false
set_option linter.all false
set_option maxRecDepth 100000
set_option maxHeartbeats 4000000
namespace DL
open PySem PySem.Spec PyProof.Rows L2 LN
end DL
set_option Elab.async false
set_option linter.all false
set_option maxRecDepth 100000
set_option maxHeartbeats 4000000
namespace DL
open PySem PySem.Spec PyProof.Rows L2 LN
end DL
set_option Elab.async false
set_option linter.all false
set_option maxRecDepth 100000
set_option maxHeartbeats 4000000
namespace DL
open PySem PySem.Spec PyProof.Rows L2 LN
end DL
set_option Elab.async false
set_option linter.all false
set_option maxRecDepth 100000
set_option maxHeartbeats 4000000
namespace DL
open PySem PySem.Spec PyProof.Rows L2 LN
end DL
set_option Elab.async false
set_option linter.all false
set_option maxRecDepth 100000
set_option maxHeartbeats 4000000
namespace DL
open PySem PySem.Spec PyProof.Rows L2 LN
end DL
set_option Elab.async false
set_option linter.all false
set_option maxRecDepth 100000
set_option maxHeartbeats 4000000
namespace DL
open PySem PySem.Spec PyProof.Rows L2 LN
end DL
set_option Elab.async false
set_option linter.all false
set_option maxRecDepth 100000
set_option maxHeartbeats 4000000
namespace DL
open PySem PySem.Spec PyProof.Rows L2 LamX
abbrev RowI := Int × Int × Int
def rowI (r : RowI) : D := .tup [.int r.1, .int r.2.1, .int r.2.2]
def leRI : RowI → RowI → Bool := fun p q => decide (p.1 < q.1 ∨ (p.1 = q.1 ∧ p.2.1 ≤ q.2.1))
@[simp] def eRows (f q : Str) (ea : EE) : EE := fun s G Q => ea s G fun x G1 => ∃ (l : List RowI) (tab : Addr), x = .lst (l.map rowI) ∧ l.length ≤ 1000000 ∧ G1 tab = some (.tbl f q tab) ∧ Q (.lst ((l.mergeSort leRI).map rowI)) G1
end DL
set_option Elab.async false
set_option linter.all false
set_option maxRecDepth 100000
set_option maxHeartbeats 4000000
namespace DL
open PySem PySem.Spec PyProof.Rows L2 LN
end DL
set_option Elab.async false
set_option linter.all false
set_option maxRecDepth 100000
set_option maxHeartbeats 4000000
namespace DL
open PySem PySem.Spec PyProof.Rows L2
end DL
set_option Elab.async false
set_option linter.all false
set_option maxRecDepth 100000
set_option maxHeartbeats 4000000
namespace DL
open PySem PySem.Spec PyProof.Rows L2 LN
instance : DecidableEq Stretch := fun s t => decidable_of_iff (s.name = t.name ∧ s.b = t.b ∧ s.e = t.e ∧ s.w = t.w) (by cases s; cases t; simp)
end DL
set_option Elab.async false
set_option linter.all false
set_option maxRecDepth 100000
set_option maxHeartbeats 4000000
namespace DL
open PySem PySem.Spec PyProof.Rows L2 LN
section
variable {G : Gp} {a p1 p2 p3 : Addr}
/-- the lists at hand, the state -/
def g4 (G : Gp) (a p1 p2 p3 : Addr) (r1 r2 acc : List Stretch) (o : GO) : Gp := gput (gput (gput (gput G p1 (.lst (r1.map Stretch.d))) p2 (.lst (r2.map Stretch.d))) p3 (.lst (acc.map Stretch.d))) a o
variable {r1 r2 acc : List Stretch} {o : GO}
end
end DL
set_option Elab.async false
set_option linter.all false
set_option maxRecDepth 100000
set_option maxHeartbeats 4000000
namespace DL
open PySem PySem.Spec PyProof.Rows L2 LN
end DL
set_option Elab.async false
set_option linter.all false
set_option maxRecDepth 100000
set_option maxHeartbeats 4000000
namespace DL
open PySem PySem.Spec PyProof.Rows L2
@[simp] def sPar (i j : Nat) (ea : EA) : ES := fun N s G => ea s G fun ds G1 => match ds with
  | [v, w] => N.nx ((s.set i (some v)).set j (some w)) G1
  | _ => False
end DL
set_option Elab.async false
set_option linter.all false
set_option maxRecDepth 100000
set_option maxHeartbeats 4000000
namespace DL
open PySem PySem.Spec PyProof.Rows L2 LN
end DL
set_option Elab.async false
set_option linter.all false
set_option maxRecDepth 100000
set_option maxHeartbeats 4000000
namespace L2
open PySem PySem.Spec PyProof.Rows
section
variable {X : Cx}
def rRepT : R2 := fun x y H Q => ∃ (z : Str) (k : Int), x = .str z ∧ y = .int k ∧ 1 ≤ k ∧ k ≤ 1000 ∧ 0 < z.length ∧ z.length ≤ 1000 ∧ Q (.str (repS z k.toNat)) H
theorem repS_one (z : Str) : repS z 1 = z := by
  obtain ⟨c⟩ := z
  simp [repS]
theorem op_repT : OpR X (binaryOp .Mult) rRepT := by
  intro pins s σ H x y v u Q I rx ry h
  obtain ⟨z, k, rfl, rfl, k1, k2, z1, z2, q⟩ := h
  by_cases c : 2 ≤ k
  · exact op_repS pins s σ H _ _ v u Q I rx ry ⟨z, k, rfl, rfl, c, k2, z1, z2, q⟩
  · have ek : k = 1 := by omega
    subst ek
    obtain ⟨t, rfl⟩ := rx
    obtain ⟨t', rfl⟩ := ry
    refine PySem.P.mul_str (by decide) (fun _ h => by simp at h) (fun _ h => by simp at h) ?_
    rw [if_neg (by decide), if_pos (by simp)]
    have e : repS z (1 : Int).toNat = z := repS_one z
    rw [e] at q
    exact ⟨.str z, H, I, ⟨_, rfl⟩, q⟩
end
end L2
namespace DL
open PySem PySem.Spec PyProof.Rows L2
@[simp] def oRepT : OD := fun x y G Q => match x, y with
  | .str z, .int k => 1 ≤ k ∧ k ≤ 1000 ∧ 0 < z.length ∧ z.length ≤ 1000 ∧ Q (.str (repS z k.toNat)) G
  | _, _ => False
section
variable {X : Cx} {K : PySem.W.Frag} {a b : Expr} {ea eb : EE} {pos : Pos}
theorem lo_repT : LO K rRepT oRepT := fun P G H x y u v Q R h w rx ry k => by
  unfold oRepT at h
  split at h
  · rename_i z kk
    rw [rep_s rx, rep_i ry]
    obtain ⟨h1, h2, h3, h4, h5⟩ := h
    exact ⟨z, kk, rfl, rfl, h1, h2, h3, h4, k _ G _ H (Step.refl _ _) w rep_str h5⟩
  · exact h.elim
theorem j_repT (ha : JE X a ea) (hb : JE X b eb) : JE X (.BinOp a .Mult b pos) (eOp oRepT ea eb) := j_bin op_repT lo_repT ha hb
end
end DL
set_option Elab.async false
set_option linter.all false
set_option maxRecDepth 100000
set_option maxHeartbeats 4000000
namespace DL
open PySem L2
end DL
set_option Elab.async false
set_option linter.all false
set_option maxRecDepth 100000
set_option maxHeartbeats 4000000
namespace DL
open PySem PySem.Spec PyProof.Rows L2 LN
def All (P : D → Prop) (L : List D) : Prop := ∀ d ∈ L, P d
theorem all_nil {P : D → Prop} : All P [] := fun d h => by simp at h
theorem all_cons {P : D → Prop} {d : D} {L : List D} (h : P d) (hl : All P L) : All P (d :: L) := fun e he => by
  rcases List.mem_cons.mp he with rfl | q
  · exact h
  · exact hl e q
/-- sorted(list of pairs of numbers) -/
def q2 (x : Int × Int) : PyData := .tuple [.int x.1, .int x.2]
theorem len_scr {ns : List Int} {G : Gp} {Q : DK} (q : Q (.int ns.length) G) : cLen [.scr ns] G Q := by
  have := len_of (x := .scr ns) (ds := ns.map D.int) (G := G) (Q := Q) (by simp) (by rw [List.length_map]; exact q)
  exact this
end DL
set_option Elab.async false
set_option linter.all false
set_option maxRecDepth 100000
set_option maxHeartbeats 4000000
namespace DL
open PySem PySem.Spec PyProof.Rows L2
/-- texts in a list -/
def strsD : List D → Option (List Str)
  | [] => some []
  | .str x :: ds => (strsD ds).map (x :: ·)
  | _ => none
theorem strsD_map (l : List Str) : strsD (l.map D.str) = some l := by
  induction l with
  | nil => rfl
  | cons x l ih => simp only [List.map_cons, strsD, ih, Option.map_some]
theorem strsD_eq : ∀ {ds : List D} {l : List Str}, strsD ds = some l → ds = l.map D.str
  | [], l, h => by simp only [strsD] at h; cases h; rfl
  | d :: ds, l, h => by
    cases d with
    | str x =>
      simp only [strsD] at h
      obtain ⟨r, e, rfl⟩ := Option.map_eq_some_iff.mp h
      rw [strsD_eq e]; rfl
    | _ => cases h
theorem reps_strs {K : PySem.W.Frag} {H : Hp} {G : Gp} {P : Addr → Prop} : ∀ {l : List Str} {vs : List V}, Reps K H G P (l.map D.str) vs → vs = l.map V.str
  | [], vs, h => by simp only [List.map_nil] at h; unfold Reps at h; exact h
  | n :: l, vs, h => by
    simp only [List.map_cons] at h
    unfold Reps at h
    obtain ⟨x, r, rfl, h1, h2⟩ := h
    rw [rep_s h1, reps_strs h2]; rfl
theorem reps_of_strs {K : PySem.W.Frag} {H : Hp} {G : Gp} {P : Addr → Prop} : ∀ {l : List Str}, Reps K H G P (l.map D.str) (l.map V.str)
  | [] => reps_nil
  | n :: l => reps_cons rep_str reps_of_strs
@[simp] def isStr : D → Prop
  | .str _ => True
  | _ => False
/-- o.m(), o.m(y) of a text -/
@[simp] def eM0 (r : UD) (to : EE) : EE := fun s G Q => to s G fun x G1 => isStr x ∧ r x G1 Q
@[simp] def eM1 (r : OD) (to te : EE) : EE := fun s G Q => to s G fun x G1 => isStr x ∧ te s G1 fun y G2 => r x y G2 Q
def LM1 (K : PySem.W.Frag) (r : V → List V → Hp → VK → Prop) (o : OD) : Prop := LO K (fun x y H Q => r x [y] H Q) o
section
variable {X : Cx} {K : PySem.W.Frag} {o e : Expr} {to te : TE} {eo ee : EE} {r : V → List V → Hp → VK → Prop} {apos pos : Pos}
theorem isStr_v {H : Hp} {G : Gp} {P : Addr → Prop} {x : D} {u : V} (h : isStr x) (rx : Rep K H G P x u) : ∃ a, u = .str a := by
  cases x with
  | str a => exact ⟨a, rep_s rx⟩
  | _ => exact h.elim
theorem le_m1 {u : OD} (lm : LM1 K r u) (ho : LE K to eo) (he : LE K te ee) : LE K (tM1 r to te) (eM1 u eo ee) := fun P s G Q σ H R h rl k => by
  refine ho P s G _ σ H _ h rl fun x G1 v H1 s1 w1 r1 h1 => ?_
  refine ⟨isStr_v h1.1 r1, ?_⟩
  refine he P s G1 _ σ H1 _ h1.2 (rl.step s1 w1) fun y G2 w H2 s2 w2 r2 h2 => ?_
  exact lm P G2 H2 x y v w Q R h2 w2 (r1.step s2) r2 fun d G3 w H3 s3 w3 r3 q3 => k d G3 w H3 ((s1.trans s2).trans s3) w3 r3 q3
theorem j_m1 {u : OD} {id : String} {name : Str} (slot : Slot "str" name id) (ty : typeOf (.builtin id) = pure (.type "method_descriptor")) (rule : MtR X id r) (lm : LM1 X.K r u) (ho : JE X o eo) (he : JE X e ee)
    (hs : starEach [e] X.env = [(false, eval e X.env)] := by rfl) (hbase : attributeBase o name X.env (eval o X.env) = eval o X.env := by rfl) (hline : (apos.endLine == pos.line) = true := by rfl) : JE X (.Call (.Attribute o name apos) [e] [] pos) (eM1 u eo ee) := ⟨pe_m1 slot ty rule ho.pe he.pe hs hbase hline, le_m1 lm ho.le he.le⟩
end
def mSplit : OD := fun x y G Q => match x, y with
  | .str a, .str b => (b.length == 0) = false ∧ a.length + 2 ≤ 16777216 ∧ Q (.lst ((Txt.split a b).map D.str)) G
  | _, _ => False
def mPart : OD := fun x y G Q => match x, y with
  | .str a, .str b => (b.length == 0) = false ∧ a.length ≤ 16777216 ∧ Q (.tup [.str (Txt.partition a b).1, .str (Txt.partition a b).2.1, .str (Txt.partition a b).2.2]) G
  | _, _ => False
def mStarts : OD := fun x y G Q => match x, y with
  | .str a, .str b => Q (.bl (Txt.startswith a b)) G
  | _, _ => False
def mJoin : OD := fun x y G Q => match x with
  | .str a => (∃ ds l, lkL G y = some ds ∧ (∀ ns, y ≠ .scr ns) ∧ strsD ds = some l ∧ (l.map (·.length)).sum + l.length * a.length ≤ 16777216 ∧ Q (.str (Txt.join a l)) G)
  | _ => False
section
variable {X : Cx} {K : PySem.W.Frag}
theorem lm_split : LM1 K (fun x xs H Q => ∃ a b, x = .str a ∧ xs = [.str b] ∧ (b.length == 0) = false ∧ a.length + 2 ≤ sizeLine ∧ rNewStrs (Txt.split a b) H Q) mSplit := fun P G H x y u v Q R h w rx ry k => by
  unfold mSplit at h
  split at h
  · rename_i a b
    rw [rep_s rx, rep_s ry]
    refine ⟨a, b, rfl, rfl, h.1, by rw [sizeLine_eq]; exact h.2.1, fun p hp => ?_⟩
    obtain ⟨f1, f2⟩ := w.fresh hp
    have st : Step G H G (upd H p (.lst ((Txt.split a b).map V.str))) := Step.new hp
    refine k _ G _ _ st (w.new hp) (rep_lst f1 f2 upd_same ?_ reps_of_strs) h.2.2
    rw [List.length_map]
    have := PyProof.Rows.split_le a b
    have := h.2.1
    rw [sizeLine_eq]
    omega
  · exact h.elim
theorem lm_part : LM1 K (fun x xs H Q => ∃ a b, x = .str a ∧ xs = [.str b] ∧ (b.length == 0) = false ∧ a.length ≤ sizeLine ∧ ∀ p, H p = none → Q (.ref p) (upd H p (.tup [.str (Txt.partition a b).1, .str (Txt.partition a b).2.1, .str (Txt.partition a b).2.2]))) mPart := fun P G H x y u v Q R h w rx ry k => by
  unfold mPart at h
  split at h
  · rename_i a b
    rw [rep_s rx, rep_s ry]
    refine ⟨a, b, rfl, rfl, h.1, by rw [sizeLine_eq]; exact h.2.1, fun p hp => ?_⟩
    obtain ⟨f1, f2⟩ := w.fresh hp
    have st : Step G H G (upd H p (.tup [.str (Txt.partition a b).1, .str (Txt.partition a b).2.1, .str (Txt.partition a b).2.2])) := Step.new hp
    exact k _ G _ _ st (w.new hp) (rep_tup f1 f2 upd_same (by rw [sizeLine_eq]; simp) (reps_cons rep_str (reps_cons rep_str (reps_cons rep_str reps_nil)))) h.2.2
  · exact h.elim
theorem lm_starts : LM1 K (fun x xs H Q => ∃ a b, x = .str a ∧ xs = [.str b] ∧ Q (.bl (Txt.startswith a b)) H) mStarts := fun P G H x y u v Q R h w rx ry k => by
  unfold mStarts at h
  split at h
  · rename_i a b
    rw [rep_s rx, rep_s ry]
    exact ⟨a, b, rfl, rfl, k _ G _ _ (Step.refl _ _) w rep_bl h⟩
  · exact h.elim
theorem lm_join : LM1 K (fun x xs H Q => ∃ a p, ∃ ys : List Str, x = .str a ∧ xs = [.ref p] ∧ (SqL K H p (ys.map V.str) ∨ SqT K H p (ys.map V.str)) ∧ (ys.map (·.length)).sum + ys.length * a.length ≤ 16777216 ∧ Q (.str (Txt.join a ys)) H) mJoin := fun P G H x y u v Q R h w rx ry k => by
  unfold mJoin at h
  split at h
  · rename_i a
    obtain ⟨ds, l, e1, n1, e2, h1, h2⟩ := h
    rw [rep_s rx]
    obtain ⟨p, xs, rfl, e3, q1, z1⟩ := lk_hp w ry e1 n1
    rw [strsD_eq e2] at q1
    rw [reps_strs q1] at e3
    exact ⟨a, p, l, rfl, rfl, .inl (SqL.of e3), h1, k _ G _ _ (Step.refl _ _) w rep_str h2⟩
  · exact h.elim
end
def cIntS : CD := fun xs G Q => match xs with
  | [.str a] => ∃ n, PySem.intText? a = some n ∧ a.length ≤ 640 ∧ Q (.int n) G
  | _ => False
theorem lc_intS {K : PySem.W.Frag} : LC K (fun xs H Q => ∃ a n, xs = [.str a] ∧ PySem.intText? a = some n ∧ a.length ≤ 640 ∧ Q (.int n) H) cIntS := fun P G H xs us Q R h w r k => by
  unfold cIntS at h
  split at h
  · obtain ⟨u, rfl, r1⟩ := reps1 r
    rw [rep_s r1]
    obtain ⟨n, h1, h2, h3⟩ := h
    exact ⟨_, n, rfl, h1, h2, k _ G _ H (Step.refl _ _) w rep_int h3⟩
  · exact h.elim
@[simp] def eFmt (te : EE) : EE := fun s G Q => te s G fun x G1 => match x with
  | .str y => y.length ≤ 16777216 ∧ Q (.str y) G1
  | .int i => i.natAbs.log2 < 1920 ∧ Q (.str (toString i)) G1
  | _ => False
@[simp] def eJs : List EE → Str → EE
  | [], acc => fun _ G Q => Q (.str acc) G
  | t :: ts, acc => fun s G Q => t s G fun x G1 => match x with
    | .str y => (acc ++ y).length ≤ 16777216 ∧ eJs ts (acc ++ y) s G1 Q
    | _ => False
inductive JJ (X : Cx) : List Expr → List EE → Prop where
  | nil : JJ X [] []
  | cons {e : Expr} {t : EE} {es : List Expr} {ts : List EE} (h : JE X e t) (r : JJ X es ts) : JJ X (e :: es) (t :: ts)
section
variable {X : Cx} {e : Expr} {es : List Expr} {ee : EE} {ts : List EE} {pos : Pos}
theorem j_fmt (he : JE X e ee) : JE X (.FormattedValue e (-1) none pos) (eFmt ee) := ⟨pe_fmt he.pe, fun P s G Q σ H R h rl k => by
  refine he.le P s G _ σ H _ h rl fun x G1 v H1 s1 w1 r1 h1 => ?_
  split at h1
  · rw [rep_s r1]
    exact .inl ⟨_, rfl, by rw [sizeLine_eq]; exact h1.1, k _ G1 _ H1 s1 w1 rep_str h1.2⟩
  · rw [rep_i r1]
    exact .inr ⟨_, rfl, h1.1, k _ G1 _ H1 s1 w1 rep_str h1.2⟩
  · exact h1.elim⟩
theorem JJ.pj (h : JJ X es ts) : PJ X es (ts.map (upE X.K)) := by
  induction h with
  | nil => exact .nil
  | cons h r ih => exact .cons h.pe ih
theorem le_js {K : PySem.W.Frag} : ∀ (ts : List EE) (acc : Str) (P : Addr → Prop) (s : Sd) (G : Gp) (Q : DK) (σ : L2.St) (H : Hp) (R : Str → Hp → Prop), eJs ts acc s G Q → Rl K P s G σ H →
    (∀ out G' H', Step G H G' H' → Wo K P G' H' → Q (.str out) G' → R out H') → tJs (ts.map (upE K)) acc σ H R
  | [], acc, P, s, G, Q, σ, H, R, h, rl, k => k acc G H (Step.refl _ _) rl.wo h
  | t :: ts, acc, P, s, G, Q, σ, H, R, h, rl, k => by
    simp only [List.map_cons, tJs]
    refine ⟨P, s, G, _, h, rl, fun x G1 v H1 s1 w1 r1 h1 => ?_⟩
    split at h1
    · rename_i y
      rw [rep_s r1]
      refine ⟨y, rfl, by rw [sizeLine_eq]; exact h1.1, ?_⟩
      exact le_js ts _ P s G1 Q σ H1 R h1.2 (rl.step s1 w1) fun out G' H' st w q => k out G' H' (s1.trans st) w q
    · exact h1.elim
theorem j_joined {e1 e2 : Expr} {rest : List Expr} (h : JJ X (e1 :: e2 :: rest) ts) : JE X (.JoinedStr (e1 :: e2 :: rest) pos) (eJs ts Str.empty) := ⟨pe_joined h.pj, fun P s G Q σ H R h rl k =>
  le_js ts Str.empty P s G Q σ H _ h rl fun out G' H' st w q => k _ G' _ H' st w rep_str q⟩
end
@[simp] def cMax3 : CD := fun xs G Q => match xs with
  | [.int i, .int j, .int k] => Q (.int (max i (max j k))) G
  | _ => False
end DL
set_option Elab.async false
set_option linter.all false
set_option maxRecDepth 100000
set_option maxHeartbeats 4000000
namespace L2N
open PySem PySem.Spec PyProof.Rows L2
section
variable {X : Cx} {e : Expr} {es : List Expr} {ta : TA} {p pos : Pos}
theorem mk_endN {pins : List (Addr × Obj)} {σ : L2.St} {H1 H2 : Hp} {Q : XK} {hp hp2 h2 : Heap} {g1 g2 : Array GenState} {d1 d2 : Drawn} {t1 t2 : Nat} {os1 os2 : OsState} {a C d : Addr} {fs : List (Str × V)} (T : Raises X (.ref C)) (I1 : Inv X pins σ H1 ⟨hp, g1, d1, t1, os1⟩)
    (ha : hp.objs.size ≤ a) (k : ∀ b o, hp.get? b = some o → hp2.get? b = some o) (un : Un (frs X.stack) [] (upd H1 a (exo a C none)) H2 hp2 h2) (hok : HOk X.prog X.w H2 h2) (ho : os2 = os1) (hb : AllBare g2)
    (ea : H2 a = some (exo a C (some d))) (ed : H2 d = some (exd d fs)) (hd1 : H1 d = none) (q : Q (.ref C) (some d) (upd (del H2 a) d (.xd fs))) : L2N.MkP X pins σ Q (.ref a) ⟨h2, g2, d2, t2, os2⟩ := by
  obtain ⟨t0, G, J, kG, ge, hoe, na⟩ := L2.mk_end0 (d2 := d2) (t2 := t2) I1 ha k un hok ho hb ea ed hd1
  exact ⟨a, _, _, ⟨G, g2, d2, t2, os2⟩, _, .ref C, some d, rfl, J, kG, ge, hoe, ⟨rfl, rfl, fun vs q => by cases q; rfl⟩, rfl, rfl, na, rfl, hb, T, q⟩
theorem pmk_oexN {CX : CXT} {x : Str} {C fI : Addr} {k : Nat} {fd : FuncData} {ps : List Str} {sp : Sp} {ds : List Value} {dvs : List V} (T : OexC X.K C) (iC : PySem.W.findIn X.K (.ref C) "__init__" = some (some (.ref fI))) (tI : PySem.W.typeIn X.K (.ref fI) = some (.type "function"))
    (F1 : FnOk X.prog X.w X.K X.mg X.base CX k fI fd ps sp) (hr : Room (k + 1) X.A) (hb : Binds X.K fd ps ds) (hd : Vals dvs ds) (hx : Passes CX X (fun _ _ _ => False)) (hg : Gl X x) (hm : X.mg x = some (.ref C)) (ha : PA X (e :: es) ta)
    (hdb : (x == ("__debug__" : Str)) = false := by decide) (he : starEach (e :: es) X.env = (false, eval e X.env) :: starEach es X.env := by rfl) (hpl : (backTo pos (starEach es X.env)).any (·.1) = false := by rfl) :
    L2N.PMk X (.Call (.Name x p) (e :: es) [] pos) (tMkO C sp dvs ta) := by
  intro pins s σ H Q I h
  obtain ⟨nm, q, N, bs, bm, sn, sub, ab, col, dd, k0, k1, k2, k3, k5, hC, hbm⟩ := T.cls
  refine wpAny_Call_Name_kw (ld_glob I hg hm ?_ hdb)
  refine PySem.W.callWith_K (h₀ := X.base) I.ok.mod.kin T.kC (thn (ha.run pos pins s σ H _ I h) fun us s1 ⟨vs, H1, I1, r1, hz, q1⟩ => ⟨I1.kIn, ?_⟩) he hpl
  show wpAny _ _ (call (.ref C) us) _ _ _
  obtain ⟨hp, g, dr, tk, os⟩ := s1
  have hsz : hp.objs.size ≤ hp.objs.size + 1 := Nat.le_succ _
  have hn : H1 (hp.objs.size + 1) = none := I1.hok.fresh hsz
  have hq := q1 (hp.objs.size + 1) hn
  have kk : ∀ b o, hp.get? b = some o → ((hp.push (PySem.W.kdv_tup us)).push (PySem.HandSPX.excO C hp.objs.size)).get? b = some o := fun b o e => Heap.get?_push_of_some _ (Heap.get?_push_of_some _ e)
  have hget : ((hp.push (PySem.W.kdv_tup us)).push (PySem.HandSPX.excO C hp.objs.size)).get? (hp.objs.size + 1) = some (PySem.HandSPX.excO C hp.objs.size) := by heap_get
  have I2 : Inv X pins σ (upd H1 (hp.objs.size + 1) (exo (hp.objs.size + 1) C none)) ⟨(hp.push (PySem.W.kdv_tup us)).push (PySem.HandSPX.excO C hp.objs.size), g, dr, tk, os⟩ :=
    I1.laid (t' := tk) (a := hp.objs.size + 1) (o := exo (hp.objs.size + 1) C none) (h' := (hp.push (PySem.W.kdv_tup us)).push (PySem.HandSPX.excO C hp.objs.size)) kk hsz (exo_ok hget)
  have r2 : Vals (V.ref (hp.objs.size + 1) :: (vs ++ dvs)) (Value.ref (hp.objs.size + 1) :: (us ++ ds)) := .cons rfl (r1.append hd)
  have hl : (Value.ref (hp.objs.size + 1) :: us ++ ds).length = ps.length := by
    have e := r2.length
    rw [F1.len _ _ _ _ hq] at e
    exact e.symm
  have hus : us.length ≤ sizeLine := by
    rw [← Paired.length r1, sizeLine_eq]
    omega
  refine wpAny_call (PySem.HandSPX.call_own F.excBase_ValueError (fun Y => PySem.HandSPX.refsVE_contains Y bm hbm) (I1.kIn _ _ hC) (PySem.W.looks_findIn I1.kIn iC) (fun self => PySem.W.bind_fn I1.kIn self tI) hus
    (codeAny_mono (F1.run _ X.stack _ _ ⟨Value.ref (hp.objs.size + 1) :: us, []⟩ (Value.ref (hp.objs.size + 1) :: (us ++ ds)) _ _ (fun _ _ _ => False) (hr.make C us []) (I2.env0.make C us []) (hb _ (Value.ref (hp.objs.size + 1) :: us) I2.kIn hl) r2 hq) fun r s' hq' => ?_))
  cases r with
  | error er => exact hx pins σ _ _ er s' I2 hq'
  | ok fl =>
    cases fl with
    | ret u =>
      obtain ⟨v, H2, os2, bare2, un2, hok2, rv, ev, d, fs, ea, ed, hd1, q2⟩ := hq'
      subst ev
      obtain ⟨h2, g2, d2, t2, os'⟩ := s'
      exact ⟨rv, mk_endN (raises_own T.exC T.tyC) I1 hsz kk un2 hok2 os2 bare2 ea ed hd1 q2⟩
    | next => exact False.elim hq'
    | brk => exact False.elim hq'
    | cont => exact False.elim hq'
end
end L2N
namespace L2H
open PySem PySem.Spec PyProof.Rows L2
theorem pmk5_own {X : Cx} {C : Addr} {bmB : List Value} {B newId initId : String} {x m : Str} {j : Nat} {p p2 pos : Pos} (F : ExcBaseFacts B newId initId bmB) (q : PySem.W.excIn X.K C bmB newId = true) (gC : X.mg x = some (.ref C)) (kC : PySem.W.keepIn X.K (.ref C) = true) (r : Raises X (.ref C)) (hg : Gl X x)
    (hdb : (x == ("__debug__" : Str)) = false := by decide) : PMk5 X (.Call (.Name x p) [.Constant (.str m) j p2] [] pos) (fun _ H Q => Q (.ref C) none H) := by
  intro pins s σ H Q I h
  refine wpAny_Call_Name_kw (ld_glob I hg gC ?_ hdb)
  have ha : PA X [.Constant (.str m) j p2] (tCons (tC (.str m)) tNil) := pa_cons pe_str pa_nil
  refine PySem.W.callWith_K (h₀ := X.base) I.ok.mod.kin kC (thn (ha.run pos pins s σ H (fun vs H1 => vs = [V.str m] ∧ H = H1) I ⟨rfl, rfl⟩) fun us s1 hh => ?_)
  obtain ⟨vs, H1, I1, r1, ev, eH⟩ := hh
  subst ev
  rw [← eH] at I1
  refine ⟨I1.kIn, ?_⟩
  cases r1 with
  | cons ru rn =>
    rename_i u us'
    cases rn
    show wpAny _ _ (call (.ref C) [u]) _ _ _
    obtain ⟨bm, N, nm, qn, bs, hdct, sn, sub, ab, col, dd, k0, k1, k2, k3, k5, mN, hC, hN, hni, T⟩ := exc_obj I1.kIn q
    refine wpAny_call_exc_subT F T hC hN hni (fun h' e hm => ?_) (by show 1 ≤ sizeLine; rw [sizeLine_eq]; omega)
    exact mk_of5 I1 hm r h (I1.hok.gone hm.new)
end L2H
namespace DL
open PySem PySem.Spec PyProof.Rows L2
section
variable {X : Cx} {Y : Wx} {K : PySem.W.Frag} {e : Expr} {es : List Expr} {pos : Pos}
theorem js_raiseFN {x f : Str} {p pos2 : Pos} {k : Nat} {te : EE} (tk : L2N.Takes X Y.w) (o : OxK X.prog X.w K X.mg X.base x f) (hr : Room k X.A) (hk : 2 ≤ k) (hg : Gl X x) (hc : X.calm = true) (he : JE X e te) (hK : X.K = K := by rfl) (hdb : (x == ("__debug__" : Str)) = false := by decide)
    (hs : starEach (e :: []) X.env = (false, eval e X.env) :: starEach [] X.env := by rfl) (hpl : (backTo pos (starEach [] X.env)).any (·.1) = false := by rfl) :
    JS X Y (.Raise (some (.Call (.Name x p) [e] [] pos)) none pos2) (sRaiseF x f te) := by
  subst hK
  obtain ⟨fd, F1, B1⟩ := o.fn
  have ha : JA X [e] (eCons te eNil) := ja_cons he ja_nil hs
  refine ⟨L2N.ps_raise hc tk (L2N.pmk_oexN o.T o.iC o.tI F1 (hr.mono hk) B1 .nil pass0 hg o.gC ha.pa hdb hs hpl), fun P s G N σ H M h r k => ?_⟩
  refine ha.la P s G (fun ds G1 => match ds with
    | [d] => N.xr ⟨x, some (f, d)⟩ s G1
    | _ => False) σ H _ h r fun ds G1 vs H1 s1 w1 r1 l1 h1 => ?_
  obtain ⟨d, rfl⟩ : ∃ d, ds = [d] := by
    match ds, l1 with
    | [d], _ => exact ⟨d, rfl⟩
  have h1 : N.xr ⟨x, some (f, d)⟩ s G1 := h1
  obtain ⟨v, rfl, rv⟩ := reps1 r1
  refine ⟨by simp, fun a ha => ?_⟩
  refine ⟨a, _, v, rfl, o.T, o.nf, upd_same, fun dx hd1 hd2 => ⟨rfl, dx, [(f, v)], upd_same, by rw [upd_ne hd2]; exact upd_same, ?_, ?_⟩⟩
  · rw [upd_ne hd2] at hd1
    exact hd1
  · have hd0 : H1 dx = none := by rw [upd_ne hd2] at hd1; exact hd1
    have eq : upd (del (upd (upd (upd H1 a (exo a (He.ga X.K x) none)) dx (exd dx [(f, v)])) a (exo a (He.ga X.K x) (some dx))) a) dx (.xd [(f, v)]) = upd H1 dx (.xd [(f, v)]) := by
      funext b
      by_cases q1 : b = dx
      · subst q1; rw [upd_same, upd_same]
      · rw [upd_ne q1, upd_ne q1]
        by_cases q2 : b = a
        · subst q2; rw [del_same, ha]
        · rw [del_ne q2, upd_ne q2, upd_ne q1, upd_ne q2]
    rw [eq]
    have st : Step G1 H1 G1 (upd H1 dx (.xd [(f, v)])) := Step.new hd0
    obtain ⟨f1, f2⟩ := w1.fresh hd0
    exact k.xr ⟨x, some (f, d)⟩ s G1 _ _ σ _ (s1.trans st) (r.step (s1.trans st) (w1.new hd0)) ⟨rfl, dx, v, rfl, f1, f2, upd_same, rv.step st⟩ h1
end
end DL
set_option Elab.async false
set_option linter.all false
set_option maxRecDepth 100000
set_option maxHeartbeats 4000000
namespace DL
open PySem PySem.Spec PyProof.Rows L2 LN
theorem valD_has : ∀ {ks : List Key} {ds : List D} {k : Key}, ks.length = ds.length → (valD ks ds k).isSome = hasK ks k
  | [], [], k, _ => by simp [valD, hasK]
  | [], _ :: _, _, h => by simp at h
  | _ :: _, [], _, h => by simp at h
  | k' :: ks, d :: ds, k, h => by
    have e : hasK (k' :: ks) k = (decide (k' = k) || hasK ks k) := by simp [hasK]
    simp only [valD]
    by_cases c : k' = k
    · rw [if_pos c, e, decide_eq_true c]; rfl
    · rw [if_neg c, valD_has (by simpa using h), e, decide_eq_false c]; rfl
theorem hasK_inr {ns : List Str} {z : Str} : hasK (ns.map Sum.inr) (Sum.inr z) = decide (z ∈ ns) := by
  unfold hasK
  rw [Bool.eq_iff_iff, List.any_eq_true, decide_eq_true_iff]
  constructor
  · rintro ⟨x, h1, h2⟩
    have := of_decide_eq_true h2
    subst this
    simpa using h1
  · intro h
    exact ⟨Sum.inr z, by simpa using h, decide_eq_true rfl⟩
theorem put_freshK {ks : List Key} {ds : List D} {k : Key} {d : D} (h : hasK ks k = false) : putKs ks k = ks ++ [k] ∧ putVs ks ds k d = ds ++ [d] := by
  unfold putKs putVs
  rw [h]
  exact ⟨rfl, rfl⟩
theorem din_has {z : Str} {q : Addr} {ns : List Str} {ds : List D} {G : Gp} {Q : DK} (h : G q = some (.dct (ns.map Sum.inr) ds)) (hl : ns.length = ds.length) (k : Q (.bl (decide (z ∈ ns))) G) : oDIn (.str z) (.ref q) G Q := by
  simp only [oDIn, lkD_ref, h, keyD]
  rw [valD_has (by simpa using hl), hasK_inr]
  exact k
end DL
set_option Elab.async false
set_option linter.all false
set_option maxRecDepth 100000
set_option maxHeartbeats 4000000
namespace DL
open PySem PySem.Spec PyProof.Rows L2 LN
theorem name_in_az {c : Nat} (h : 97 ≤ c ∧ c ≤ 122) : c ∈ az.cps.toList := by
  have e : az.cps.toList = [97, 98, 99, 100, 101, 102, 103, 104, 105, 106, 107, 108, 109, 110, 111, 112, 113, 114, 115, 116, 117, 118, 119, 120, 121, 122] := by decide +kernel
  rw [e]
  simp
  omega
theorem az_name {c : Nat} (h : c ∈ az.cps.toList) : 97 ≤ c ∧ c ≤ 122 := by
  have e : az.cps.toList = [97, 98, 99, 100, 101, 102, 103, 104, 105, 106, 107, 108, 109, 110, 111, 112, 113, 114, 115, 116, 117, 118, 119, 120, 121, 122] := by decide +kernel
  rw [e] at h
  simp at h
  omega
theorem namB_iff {z : Str} : namB (.str z) = true ↔ NameOk z := by
  rw [nam_str, Bool.and_eq_true, decide_eq_true_iff, List.all_eq_true]
  constructor
  · rintro ⟨⟨h1, h2⟩, h3⟩
    exact ⟨h1, h2, fun c hc => az_name (of_decide_eq_true (h3 c hc))⟩
  · rintro ⟨h1, h2, h3⟩
    exact ⟨⟨h1, h2⟩, fun c hc => decide_eq_true (name_in_az (h3 c hc))⟩
theorem strB_iff {s : Stretch} : strB s.d = true ↔ SOk s := by
  show strB (.tup [.str s.name, .int s.b, .int s.e, .int s.w]) = true ↔ _
  rw [strB_4, Bool.and_eq_true, namB_iff]
  simp only [intOf, decide_eq_true_iff]
  constructor
  · rintro ⟨h1, h2⟩
    exact ⟨h1, by omega, by omega, by omega, by omega, by omega⟩
  · rintro ⟨h1, h2, h3, h4, h5, h6⟩
    exact ⟨h1, by omega⟩
end DL
set_option Elab.async false
set_option linter.all false
set_option maxRecDepth 100000
set_option maxHeartbeats 4000000
namespace DL
open PySem PySem.Spec PyProof.Rows L2 LN
end DL
set_option Elab.async false
set_option linter.all false
set_option maxRecDepth 100000
set_option maxHeartbeats 4000000
namespace DL
open PySem PySem.Spec PyProof.Rows L2 LN
abbrev iSt (i : Int) : Str := Str.ofString (toString i)
abbrev bl : Str := Str.ofString " "
abbrev lf : Str := Str.ofString "\n"
def FarI (i : Int) : Prop := -1000000000000000000000000000000 ≤ i ∧ i ≤ 1000000000000000000000000000000
theorem iS_ok {i : Int} (h : FarI i) : (Str.ofString (toString i)).length ≤ 61 ∧ Asc (Str.ofString (toString i)) ∧ i.natAbs.log2 < 1920 := by
  obtain ⟨h1, h2, h3, h4⟩ := tx_i h.1 h.2
  rw [PyData.shown_int] at h3 h4
  exact ⟨h4, h3, by simpa [PyData.showable] using h1⟩
def glue (ws : List Str) : Str := Txt.join bl ws
def textOf (rows : List (List Str)) : Str := Txt.join lf (rows.map glue)
def wS (s : Stretch) : List Str := [Str.ofString "stretch", s.name, iSt s.b, iSt s.e, iSt s.w]
theorem join_two (a x y : Str) (r : List Str) : Txt.join a (x :: y :: r) = x ++ a ++ Txt.join a (y :: r) := by
  show Builtin.Str.glued a (x :: y :: r) = x ++ a ++ Builtin.Str.glued a (y :: r)
  rw [StrLaws.glued_eq_join, StrLaws.glued_eq_join]
  rfl
theorem join_one (a x : Str) : Txt.join a [x] = x := by
  show Builtin.Str.glued a [x] = x
  rw [StrLaws.glued_eq_join]
  rfl
theorem join_nil (a : Str) : Txt.join a [] = Str.empty := by
  show Builtin.Str.glued a [] = _
  rw [StrLaws.glued_eq_join]
  rfl
theorem join_le (a : Str) (l : List Str) : (Txt.join a l).length ≤ (l.map (·.length)).sum + l.length * a.length := by
  show (Builtin.Str.glued a l).length ≤ _
  rw [StrLaws.glued_eq_join]
  exact StrLaws.join_length_le a l
theorem sumS_le {B : Nat} : ∀ l : List Str, (∀ y ∈ l, y.length ≤ B) → (l.map (·.length)).sum ≤ l.length * B := StrLaws.sumLen_le
theorem glue_le {l : List Str} {B : Nat} (h : ∀ y ∈ l, y.length ≤ B) : (glue l).length ≤ l.length * (B + 1) := by
  have h1 := join_le bl l
  have h2 := sumS_le l h
  have e : (Str.ofString " ").length = 1 := by decide +kernel
  rw [e] at h1
  have e2 : l.length * (B + 1) = l.length * B + l.length := Nat.mul_succ _ _
  unfold glue
  omega
theorem app_assoc (a b c : Str) : a ++ b ++ c = a ++ (b ++ c) := PySem.Str.append_assoc a b c
theorem em_app (a : Str) : Str.empty ++ a = a := PySem.Str.empty_append a
theorem fs5 {w wb u v x y : Str} (h : wb = w ++ bl) : (((((((Str.empty ++ wb) ++ u) ++ bl) ++ v) ++ bl) ++ x) ++ bl) ++ y = glue [w, u, v, x, y] := by
  unfold glue
  rw [join_two, join_two, join_two, join_two, join_one, h, em_app]
  simp only [app_assoc]
theorem strsD_f {α : Type} {f : α → Str} : ∀ l : List α, strsD (l.map fun x => D.str (f x)) = some (l.map f)
  | [] => rfl
  | x :: l => by rw [List.map_cons, strsD, strsD_f l]; rfl
theorem mj {α : Type} {f : α → Str} {l : List α} {a : Str} {B : Nat} {G : Gp} {Q : DK} (hB : ∀ x ∈ l, (f x).length ≤ B) (h : l.length * B + l.length * a.length ≤ 16777216) (q : Q (.str (Txt.join a (l.map f))) G) :
    mJoin (.str a) (.lst (l.map fun x => D.str (f x))) G Q := by
  refine ⟨_, _, rfl, (fun _ e => by cases e), strsD_f l, ?_, q⟩
  have := sumS_le (B := B) (l.map f) (fun y hy => by
    obtain ⟨x, hx, rfl⟩ := List.mem_map.mp hy
    exact hB x hx)
  rw [List.length_map] at this ⊢
  omega
def F_write_book : Sf := fun ds G Q => ∃ (y : D) (bk : List Stretch), ds = [y] ∧ lkL G y = some (bk.map Stretch.d) ∧ bk.length ≤ 1000 ∧ (∀ s ∈ bk, SOk s) ∧ Q (.str (textOf (bk.map wS))) G
def r_write_book : ES :=
  (sRet (eM1 mJoin (eC (.str "\n")) (eLc (iL (eVar 0)) (.tp [1, 2, 3, 4]) eYes (eJs [(eC (.str "stretch ")), (eFmt (eVar 1)), (eC (.str " ")), (eFmt (eVar 2)), (eC (.str " ")), (eFmt (eVar 3)), (eC (.str " ")), (eFmt (eVar 4))] Str.empty) [1, 2, 3, 4])))
theorem len_bl : (Str.ofString " ").length = 1 := by decide +kernel
theorem len_em : Str.empty.length = 0 := rfl
theorem far_sok {s : Stretch} (h : SOk s) : FarI s.b ∧ FarI s.e ∧ FarI s.w := by
  obtain ⟨h1, h2, h3, h4, h5, h6⟩ := h
  unfold FarI
  omega
theorem glueS_le {s : Stretch} (h : SOk s) : (glue (wS s)).length ≤ 505 := by
  obtain ⟨f1, f2, f3⟩ := far_sok h
  have a1 := (iS_ok f1).1
  have a2 := (iS_ok f2).1
  have a3 := (iS_ok f3).1
  have a4 := h.nm.l8
  have := glue_le (l := wS s) (B := 100) (fun y hy => by
    simp [wS] at hy
    rcases hy with rfl | rfl | rfl | rfl | rfl
    · decide +kernel
    · omega
    · exact Nat.le_trans a1 (by decide)
    · exact Nat.le_trans a2 (by decide)
    · exact Nat.le_trans a3 (by decide))
  simpa [wS] using this
theorem d_write_book (ds : List D) (G : Gp) (Q : DK) (h : F_write_book ds G Q) : r_write_book (fin G Q) (startD 5 ds) G := by
  obtain ⟨y, bk, rfl, hy, hn, hb, k⟩ := h
  unfold r_write_book
  (try dsimp only [startD, sRet, eM1, eC, isStr, eLc, iL, eVar]); (try simp only [List.map_cons, List.map_nil, List.length_cons, List.length_nil, Nat.reduceAdd, List.replicate, List.cons_append, List.nil_append, true_and]); (try dsimp only [List.getElem?_cons_zero])
  rw [hy]
  (try dsimp only); (skip); (skip)
  refine compW_all (g := Stretch.d) (f := fun s => D.str (glue (wS s))) (stays_of hy) bk [] (fun s hs => ⟨_, rfl, fun R r => ?_⟩) ?_
  · have h := hb s hs
    obtain ⟨f1, f2, f3⟩ := far_sok h
    obtain ⟨a1, a2, a3⟩ := iS_ok f1
    obtain ⟨b1, b2, b3⟩ := iS_ok f2
    obtain ⟨e1, e2, e3⟩ := iS_ok f3
    have c1 := len_bl
    have c2 := len_em
    have c3 := h.nm.l8
    have c4 : (Str.ofString "stretch ").length = 8 := by decide +kernel
    (try dsimp only [wipeD, List.set_cons_succ, List.set_cons_zero, eJs, eC, eFmt, eVar, List.getElem?_cons_succ, List.getElem?_cons_zero]); (skip); (skip)
    refine ⟨by rw [len_app]; omega, by omega, by simp only [len_app]; omega, by simp only [len_app]; omega, a3, by simp only [len_app]; omega, by simp only [len_app]; omega, b3, by simp only [len_app]; omega, by simp only [len_app]; omega, e3, by simp only [len_app]; omega, ?_⟩
    rw [show wS s = [Str.ofString "stretch", s.name, iSt s.b, iSt s.e, iSt s.w] from rfl, ← fs5 (wb := Str.ofString "stretch ") (by decide +kernel)] at r
    exact r
  rw [List.nil_append]
  refine mj (B := 505) (fun x hx => glueS_le (hb x hx)) ?_ ?_
  · have : (Str.ofString "\n").length = 1 := by decide +kernel
    rw [this]
    omega
  · refine fin_id ?_
    unfold textOf at k
    rw [List.map_map] at k
    exact k
theorem asc_joinT {a : Str} (ha : Asc a) : ∀ {l : List Str}, (∀ y ∈ l, Asc y) → Asc (Txt.join a l)
  | [], _ => by rw [join_nil]; intro c hc; simp [Str.empty] at hc
  | [x], h => by rw [join_one]; exact h x List.mem_cons_self
  | x :: y :: r, h => by
    rw [join_two]
    exact asc_cat (asc_cat (h x List.mem_cons_self) ha) (asc_joinT ha fun z hz => h z (List.mem_cons_of_mem _ hz))
theorem asc_text {rows : List (List Str)} (h : ∀ r ∈ rows, ∀ y ∈ r, Asc y) : Asc (textOf rows) := asc_joinT (asc_of _) fun y hy => by
  obtain ⟨r, hr, rfl⟩ := List.mem_map.mp hy
  exact asc_joinT (asc_of _) (h r hr)
theorem asc_wS {s : Stretch} (h : SOk s) : ∀ y ∈ wS s, Asc y := fun y hy => by
  obtain ⟨f1, f2, f3⟩ := far_sok h
  simp only [wS, List.mem_cons, List.not_mem_nil, or_false] at hy
  rcases hy with rfl | rfl | rfl | rfl | rfl
  · exact asc_of _
  · exact asc_name h.nm
  · exact (iS_ok f1).2.1
  · exact (iS_ok f2).2.1
  · exact (iS_ok f3).2.1
end DL
set_option Elab.async false
set_option linter.all false
set_option maxRecDepth 100000
set_option maxHeartbeats 4000000
namespace DL
open PySem PySem.Spec PyProof.Rows L2
abbrev EIX := Sd → Gp → (List D → (Gp → Prop) → Gp → Prop) → Ux → Prop
def LIx (K : PySem.W.Frag) (Y : Wx) (wi : TI) (t : EIX) : Prop := ∀ (P : Addr → Prop) (s : Sd) (G : Gp) (Q : List D → (Gp → Prop) → Gp → Prop) (U : Ux) (σ : L2.St) (H : Hp) (R : It → Hp → Prop), t s G Q U → Rl K P s G σ H →
  (∀ ds Kp G' J H', Step G H G' H' → Wo K P G' H' → Wk K P G' H' Kp J ds → Q ds Kp G' → R J H') → (∀ x G' cls d H', Step G H G' H' → Wo K P G' H' → RepX K H' G' P x cls d → U x G' → Y.w cls d σ H') → wi σ H R
inductive JIx (X : Cx) (Y : Wx) (tg iter : Expr) (t : EIX) : Prop where
  | mk {wi : TI} (a : PI X tg iter wi) (b : LIx X.K Y wi t) : JIx X Y tg iter t
@[simp] def iLX (te : EX) : EIX := fun s G Q U => te s G (fun x G1 => match lkL G1 x with
  | some ds => Q ds (stays x ds) G1
  | none => False) U
@[simp] def iEX (ta : EAX) : EIX := fun s G Q U => ta s G (fun xs G1 => match xs with
  | [x] => (match lkL G1 x with
    | some ds => Q (enumD ds) (stays x ds) G1
    | none => False)
  | _ => False) U
@[simp] def sForX (ti : EIX) (t : Tg) (tb : ES) : ES := fun N s G => ti s G (fun ds Kp G1 => forW t tb Kp N ds s G1) fun x G1 => N.xr x s G1
section
variable {X : Cx} {Y : Wx} {K : PySem.W.Frag} {tg l e : Expr} {pos tpos : Pos}
theorem ji_enumX {ea : EAX} {p : Pos} {elts : List Expr} {kk : Nat} (hg : Gl X "enumerate") (hm : X.mg "enumerate" = none) (ha : JAx X Y [e] ea) (hs : starEach [e] X.env = [(false, eval e X.env)] := by rfl) : JIx X Y (.Tuple elts kk tpos) (.Call (.Name "enumerate" p) [e] [] pos) (iEX ea) := by
  obtain ⟨a0, b0⟩ := ha
  refine ⟨pi_enum hg hm a0 hs, fun P s G Q U σ H R h r k kx => ?_⟩
  refine b0 P s G _ _ σ H _ h r (fun xs G1 us H1 s1 w1 r1 ll h1 => ?_) kx
  clear ll
  split at h1
  · rename_i x
    obtain ⟨u, rfl, r2⟩ := reps1 r1
    cases e : lkL G1 x with
    | none => rw [e] at h1; exact h1.elim
    | some ds =>
      rw [e] at h1
      obtain ⟨a, ys, rfl, s, q, z⟩ := lk_sq w1 r2 e
      refine ⟨a, ys, rfl, s, k _ _ G1 _ H1 s1 w1 ⟨by rw [enumD_length]; exact z, fun P' G H i hP st w kp => ?_⟩ h1⟩
      obtain ⟨zs, s', q'⟩ := lk_later r2 e hP st w kp
      refine ⟨fun d hd => ?_, fun hi => ⟨zs, s', by rw [← q'.length]; rw [enumD_length] at hi; exact hi⟩⟩
      obtain ⟨d1, e1, rfl⟩ := enumD_get hd
      obtain ⟨v, e2, r3⟩ := q'.get e1
      refine ⟨⟨zs, v, s', e2⟩, fun y H' hy => ?_⟩
      obtain ⟨T, y1, rfl, hT, rfl, f⟩ := hy
      have := f zs s'
      rw [e2] at this
      cases this
      exact rep_pair w hT rep_int r3
  · exact h1.elim
theorem ls_forX {wi : TI} {ei : EIX} {g : TG} {tg : Tg} {tb : TS} {eb : ES} (hi : LIx K Y wi ei) (hg : LG K g tg) (hb : LS K Y tb eb) : LS K Y (tFor wi g tb) (sForX ei tg eb) := fun P s G N σ H M h r k => by
  refine hi P s G _ _ σ H _ h r (fun ds Kp G1 J H1 s1 w1 wk h1 => ?_) (fun x G' cls d H' st w rx u => k.xr x s G' cls d σ H' st (r.step st w) rx u)
  obtain ⟨hz, wk⟩ := wk
  refine ⟨fun i m σ H => ∃ s G, Step G1 H1 G H ∧ Rl K P s G σ H ∧ i ≤ ds.length ∧ m = ds.length - i ∧ forW tg eb Kp N (ds.drop i) s G, ⟨_, s, G1, Step.refl _ _, r.step s1 w1, Nat.zero_le _, rfl, h1⟩, fun i m σ H hW => ?_⟩
  obtain ⟨s, G, st, rl, hi, rfl, hc⟩ := hW
  by_cases hlt : i < ds.length
  · have hd : ds[i]? = some ds[i] := List.getElem?_eq_getElem hlt
    rw [List.drop_eq_getElem_cons hlt, forW] at hc
    obtain ⟨kp, hc⟩ := hc
    obtain ⟨go, yl⟩ := (wk P G H i (fun _ _ q => q) st rl.wo kp).1 _ hd
    refine .inr ⟨go, fun σ' H' => ∃ s G, Step G1 H1 G H' ∧ Rl K P s G σ' H' ∧ forW tg eb Kp N (ds.drop (i + 1)) s G, fun σ' H' hN => ?_, fun x H' hy => ?_⟩
    · obtain ⟨s, G, a1, a2, a3⟩ := hN
      exact ⟨ds.length - (i + 1), by omega, s, G, a1, a2, hlt, rfl, a3⟩
    · obtain ⟨s2, w2, rx⟩ := yl x H' hy
      cases ea : asg tg ds[i] s with
      | none => rw [ea] at hc; exact hc.elim
      | some s' =>
        rw [ea] at hc
        refine hg P s s' G σ H' _ x _ ea (rl.step s2 w2) rx fun σ2 r2 _ => ?_
        have sA := st.trans s2
        exact hb P s' G _ σ2 H' _ hc r2 ⟨fun a b c d x y z => ⟨a, b, sA.trans x, y, z⟩, fun a b c d x y z w => k.rt a b c d ((s1.trans sA).trans x) y z w, fun a b c d x y z => k.nx a b c d ((s1.trans sA).trans x) y z, fun a b c d x y z => ⟨a, b, sA.trans x, y, z⟩, (k.step (s1.trans sA)).xr⟩
  · have hi2 : ds.length ≤ i := by omega
    rw [List.drop_eq_nil_of_le hi2, forW] at hc
    exact .inl ⟨(wk P G H i (fun _ _ q => q) st rl.wo hc.1).2 hi2, k.nx s G σ H (s1.trans st) rl hc.2⟩
theorem js_forX {iter : Expr} {body : List Stmt} {ei : EIX} {t : Tg} {eb : ES} (hp : PassesOwn (model X.prog X.w) X.A X.env X.xe) (hc : X.calm = true) (hi : JIx X Y tg iter ei) (hg : JG X tg t) (hb : JSs X Y body eb) (hs : ∀ x, foldedSetIterable iter X.env x = pure x := by intro _; rfl) :
    JS X Y (.For tg iter body [] pos) (sForX ei t eb) := by
  obtain ⟨a, b⟩ := hi
  exact ⟨ps_for hp hc a hg.pg hb.ps hs, ls_forX b hg.lg hb.ls⟩
end
end DL
set_option Elab.async false
set_option linter.all false
set_option maxRecDepth 100000
set_option maxHeartbeats 4000000
namespace DL
open PySem PySem.Spec PyProof.Rows L2 LN
open NumText (AllDigits digitsVal)
theorem S_eta (z : Str) : SX.S z.cps.toList = z := SX.S_tl z
theorem S_eqd (a b : List Nat) : decide (SX.S a = SX.S b) = decide (a = b) := by
  rw [Bool.eq_iff_iff, decide_eq_true_iff, decide_eq_true_iff]
  exact ⟨fun h => SX.S_inj h, fun h => by rw [h]⟩
def digC (cs : List Nat) : Bool := cs.all fun c => decide (48 ≤ c ∧ c ≤ 57)
theorem digC_iff {cs : List Nat} : digC cs = true ↔ AllDigits cs := by
  unfold digC AllDigits
  rw [List.all_eq_true]
  exact ⟨fun h c hc => of_decide_eq_true (h c hc), fun h c hc => decide_eq_true (h c hc)⟩
/-- the number that some signs write -/
def numC (l : List Nat) : Option Int := match l with
  | 45 :: cs => if cs ≠ [] ∧ digC cs = true ∧ cs.head? ≠ some 48 then some (-((digitsVal cs : Nat) : Int)) else none
  | cs => if cs ≠ [] ∧ digC cs = true ∧ (cs.head? ≠ some 48 ∨ cs = [48]) then some ((digitsVal cs : Nat) : Int) else none
theorem numC_neg (cs : List Nat) : numC (45 :: cs) = if cs ≠ [] ∧ digC cs = true ∧ cs.head? ≠ some 48 then some (-((digitsVal cs : Nat) : Int)) else none := rfl
theorem numC_pos {cs : List Nat} (h : cs.head? ≠ some 45) : numC cs = if cs ≠ [] ∧ digC cs = true ∧ (cs.head? ≠ some 48 ∨ cs = [48]) then some ((digitsVal cs : Nat) : Int) else none := by
  cases cs with
  | nil => rfl
  | cons c cs =>
    unfold numC
    split
    · rename_i e
      cases e
      simp at h
    · rfl
def numW (z : Str) : Option Int := numC z.cps.toList
def oiD : Option Int → D
  | some i => .int i
  | none => .non
def F_number_of : Sf := fun ds G Q => ∃ z : Str, ds = [.str z] ∧ z.length ≤ 640 ∧ Asc z ∧ Q (oiD (numW z)) G
def r_number_of : ES :=
  (sSeq (sAsg (eVar 0) (.nm 1))
  (sSeq (sIf (eT (eOp oEq (eSlS (eVar 0) eNoPart (ePart (eC (.int 1)))) (eC (.str "-")))) (sAsg (eSlS (eVar 0) (ePart (eC (.int 1))) eNoPart) (.nm 1)) sNext)
  (sSeq (sIf (eOr (eT (eOp oEq (eVar 1) (eC (.str "")))) (eNot (eTru (eCB cAll (eCons (eLc (iS (eVar 1)) (.nm 2) eYes (eOp oInS (eVar 2) (eC (.str "0123456789"))) [2]) eNil))))) (sRet (eC .non)) sNext)
  (sSeq (sIf (eAnd (eT (eOp oEq (eOp oIx (eVar 1) (eC (.int 0))) (eC (.str "0")))) (eT (eOp oNe (eVar 0) (eC (.str "0"))))) (sRet (eC .non)) sNext)
  (sRet (eCB cIntS (eCons (eVar 0) eNil)))))))
theorem dig_in {c : Nat} : decide (c ∈ (Str.ofString "0123456789").cps.toList) = decide (48 ≤ c ∧ c ≤ 57) := by
  have e : (Str.ofString "0123456789").cps.toList = [48, 49, 50, 51, 52, 53, 54, 55, 56, 57] := by decide +kernel
  rw [e, Bool.eq_iff_iff, decide_eq_true_iff, decide_eq_true_iff]
  simp
  omega
theorem blsD_f {α : Type} {f : α → Bool} : ∀ l : List α, blsD (l.map fun x => D.bl (f x)) = some (l.map f)
  | [] => rfl
  | x :: l => by rw [List.map_cons, blsD, blsD_f l]; rfl
theorem d_number_of (ds : List D) (G : Gp) (Q : DK) (h : F_number_of ds G Q) : r_number_of (fin G Q) (startD 3 ds) G := by
  obtain ⟨z, rfl, hz, ha, k⟩ := h
  obtain ⟨l, rfl⟩ : ∃ l, z = SX.S l := ⟨_, (S_eta z).symm⟩
  have hl : l.length ≤ 640 := by rw [← SX.S_len]; exact hz
  have hd : Str.ofString "-" = SX.S [45] := by decide +kernel
  have h0 : Str.ofString "0" = SX.S [48] := by decide +kernel
  have hn : Str.ofString "" = SX.S [] := by decide +kernel
  have ad : Asc (Str.ofString "-") := asc_of _
  have a0 : Asc (Str.ofString "0") := asc_of _
  have an : Asc (Str.ofString "") := asc_of _
  refine seq_gen fun W hW => ?_
  (try dsimp only [startD, sAsg, eVar, asg]); (try simp only [List.map_cons, List.map_nil, List.length_cons, List.length_nil, Nat.reduceAdd, List.replicate, List.cons_append, List.nil_append]); (try dsimp only [List.getElem?_cons_zero, List.set_cons_succ, List.set_cons_zero])
  refine hW _ _ ?_
  refine seq_gen fun W2 hW2 => ?_
  have tail : ∀ cs, ((l = 45 :: cs) ∨ (l.head? ≠ some 45 ∧ l = cs)) → W2 [some (.str (SX.S l)), some (.str (SX.S cs)), none] G := by
    intro cs hc
    have ac : Asc (SX.S cs) := by
      rcases hc with e | ⟨_, e⟩
      · subst e; exact fun c hc => ha c (List.mem_cons_of_mem _ hc)
      · subst e; exact ha
    have hcl : cs.length ≤ 640 := by
      rcases hc with e | ⟨_, e⟩
      · subst e; simp at hl; omega
      · subst e; exact hl
    have key : numC l = if cs ≠ [] ∧ digC cs = true ∧ (cs.head? ≠ some 48 ∨ l = [48]) then some (if l.head? = some 45 then -((digitsVal cs : Nat) : Int) else ((digitsVal cs : Nat) : Int)) else none := by
      rcases hc with e | ⟨e1, e⟩
      · subst e
        rw [numC_neg]
        have : ¬ (45 :: cs = [48]) := by simp
        simp [this]
      · subst e
        rw [numC_pos e1]
        simp [e1]
    have k : Q (oiD (numC l)) G := k
    rw [key] at k
    refine hW2 _ _ ?_
    refine seq_gen fun W3 hW3 => ?_
    (try dsimp only [sIf, eOr, eT, eOp, eVar, List.getElem?_cons_succ, List.getElem?_cons_zero, sRet, eC, sNext, eNot, eTru, eCB, eCons, eNil]); (try simp only [if_true]); (skip)
    refine eq_ss ac an ?_
    rw [hn, S_eqd]
    by_cases c0 : cs = []
    · rw [decide_eq_true c0]
      (try dsimp only); (try simp only [if_true]); (skip)
      rw [if_neg (by simp [c0])] at k
      exact fin_id k
    · rw [decide_eq_false c0]
      (try dsimp only [eLc, iS, eVar, List.getElem?_cons_succ, List.getElem?_cons_zero, wipeD, List.set_cons_succ, List.set_cons_zero]); (try simp only [Bool.false_eq_true, sizeLine_eq, if_false]); (skip)
      refine ⟨by rw [SX.S_len]; omega, ?_⟩
      unfold sgnD
      refine compW_all (g := fun c => D.str ⟨#[c]⟩) (f := fun c : Nat => D.bl (decide (48 ≤ c ∧ c ≤ 57))) trivial cs [] (fun c hc => ⟨_, rfl, fun R r => ?_⟩) ?_
      · (try dsimp only [List.set_cons_succ, List.set_cons_zero, eOp, eVar, List.getElem?_cons_succ, List.getElem?_cons_zero, oInS, eC]); (skip); (skip)
        rw [dig_in]
        exact r
      (try dsimp only [cAll, lkL_lst, Option.bind_some, truD_bl, List.nil_append]); (skip); (skip)
      rw [blsD_f]
      (try dsimp only); (skip); (skip)
      have ed : (cs.map fun c => decide (48 ≤ c ∧ c ≤ 57)).all id = digC cs := by unfold digC; rw [List.all_map]; rfl
      rw [ed]
      cases cd : digC cs with
      | false =>
        (skip); (try simp only [Bool.not_false, if_true]); (skip)
        rw [if_neg (by simp [cd])] at k
        exact fin_id k
      | true =>
        have AD := digC_iff.mp cd
        (skip); (try simp only [Bool.not_true, Bool.false_eq_true, if_false]); (skip)
        refine hW3 _ _ ?_
        refine seq_gen fun W4 hW4 => ?_
        have fin' : (cs.head? ≠ some 48 ∨ l = [48]) → W4 [some (.str (SX.S l)), some (.str (SX.S cs)), none] G := fun c => by
          rw [if_pos ⟨c0, cd, c⟩] at k
          refine hW4 _ _ ?_
          (try dsimp only [sRet, eCB, eCons, eVar, List.getElem?_cons_zero, cIntS, eNil]); (skip); (skip)
          refine ⟨_, ?_, by rw [SX.S_len]; exact hl, fin_id k⟩
          rcases hc with e | ⟨e1, e⟩
          · subst e
            rw [if_pos (by simp)]
            exact intText_neg (x := SX.S (45 :: cs)) rfl AD c0 (by rw [SX.S_len]; omega)
          · subst e
            rw [if_neg e1]
            exact intText_digits (x := SX.S l) AD c0 (by rw [SX.S_len]; omega)
        cases cs with
        | nil => exact absurd rfl c0
        | cons c r =>
          (try dsimp only [sIf, eAnd, eT, eOp, eVar, List.getElem?_cons_succ, List.getElem?_cons_zero, sRet, eC, sNext, oIx]); (try simp only [sizeLine_eq, Bool.false_eq_true, if_false]); (skip)
          refine ⟨by rw [SX.S_len]; omega, ?_⟩
          have e0 : atI (SX.S (c :: r)).cps.toList 0 = some c := atI_nat (j := 0) rfl
          rw [e0]
          (try dsimp only); (skip); (skip)
          refine eq_ss (asc_one (ac c List.mem_cons_self)) a0 ?_
          rw [h0, show (⟨#[c]⟩ : Str) = SX.S [c] from rfl, S_eqd]
          by_cases c1 : c = 48
          · rw [decide_eq_true (by rw [c1])]
            (try dsimp only); (try simp only [if_true]); (skip)
            refine ne_ss ha a0 ?_
            rw [S_eqd]
            by_cases c2 : l = [48]
            · rw [decide_eq_true c2]
              (try dsimp only); (try simp only [Bool.not_true, Bool.false_eq_true, if_false]); (skip)
              exact fin' (.inr c2)
            · rw [decide_eq_false c2]
              (try dsimp only); (try simp only [Bool.not_false, if_true]); (skip)
              rw [if_neg (by
                rintro ⟨_, _, q | q⟩
                · exact q (by simp [c1])
                · exact c2 q)] at k
              exact fin_id k
          · rw [decide_eq_false (by simp [c1])]
            (try dsimp only); (try simp only [Bool.false_eq_true, if_false]); (skip)
            exact fin' (.inl (by simp [c1]))
  (try dsimp only [sIf, eT, eOp, eSlS, eVar, List.getElem?_cons_zero, sAsg, asg, List.set_cons_succ, List.set_cons_zero, eNoPart, ePart, eC, sNext]); (try simp only [sizeLine_eq]); (skip)
  rw [SX.S_len]
  refine ⟨by omega, ?_⟩
  rw [SX.slice_to (by decide)]
  refine eq_ss (fun c hc => ha c (List.mem_of_mem_take hc)) ad ?_
  rw [hd, S_eqd]
  cases l with
  | nil => 
    rw [decide_eq_false (by simp)]
    (try dsimp only); (try simp only [Bool.false_eq_true, List.length_nil, Nat.reduceLeDiff, true_and, if_false]); (skip)
    exact tail [] (.inr ⟨by simp, rfl⟩)
  | cons c r =>
    have et : (c :: r).take (Int.toNat 1) = [c] := rfl
    rw [et]
    by_cases c1 : c = 45
    · subst c1
      rw [decide_eq_true rfl]
      (try dsimp only); (try simp only [List.length_cons, Nat.reduceLeDiff, if_true]); (skip)
      refine ⟨by simp at hl; omega, ?_⟩
      rw [SX.slice_from (by decide)]
      exact tail r (.inl rfl)
    · rw [decide_eq_false (by simp [c1])]
      (try dsimp only); (try simp only [Bool.false_eq_true, List.length_cons, Nat.reduceLeDiff, if_false]); (skip)
      exact tail (c :: r) (.inr ⟨by simp [c1], rfl⟩)
theorem numL_head {n : Nat} (h : n ≠ 0) : (TL.numL n).head? ≠ some 48 := by
  induction n using Nat.strongRecOn with
  | _ n ih =>
    by_cases c : n < 10
    · rw [TL.numL_lt c]
      simp
      omega
    · rw [TL.numL_step (by omega)]
      have h1 := ih (n / 10) (by omega) (by omega)
      have h2 := TL.numL_ne (n / 10)
      cases e : TL.numL (n / 10) with
      | nil => exact (h2 e).elim
      | cons a r => rw [e] at h1; simpa using h1
theorem tl_neg (n : Nat) : (iSt (-((n + 1 : Nat) : Int))).cps.toList = 45 :: TL.numL (n + 1) := by
  have e : toString (-((n + 1 : Nat) : Int)) = "-" ++ toString ((n + 1 : Nat) : Int) := rfl
  unfold iSt
  have e1 := TL.tl_ofString (toString (-((n + 1 : Nat) : Int)))
  have e2 := TL.tl_ofString (toString ((n + 1 : Nat) : Int))
  have e3 := TL.tl_num (n + 1)
  rw [e2] at e3
  unfold TL.tl at e1
  rw [e1, e, String.toList_append, List.map_append, e3]
  rfl
theorem numW_int (i : Int) : numW (iSt i) = some i := by
  unfold numW
  rcases Int.lt_or_le i 0 with c | c
  · obtain ⟨n, rfl⟩ : ∃ n : Nat, i = -((n + 1 : Nat) : Int) := ⟨(-i - 1).toNat, by omega⟩
    rw [tl_neg, numC_neg, if_pos ⟨TL.numL_ne _, digC_iff.mpr (TL.numL_digits _), numL_head (by omega)⟩, TL.numL_val]
  · obtain ⟨n, rfl⟩ : ∃ n : Nat, i = (n : Int) := ⟨i.toNat, by omega⟩
    have e : (iSt (n : Int)).cps.toList = TL.numL n := TL.tl_num n
    have hd := TL.numL_digits n
    have hh : (TL.numL n).head? ≠ some 45 := by
      cases q : TL.numL n with
      | nil => simp
      | cons a r =>
        have := hd a (by rw [q]; simp)
        simp
        omega
    have hz : (TL.numL n).head? ≠ some 48 ∨ TL.numL n = [48] := by
      by_cases c0 : n = 0
      · subst c0
        exact .inr (TL.numL_lt (by decide))
      · exact .inl (numL_head c0)
    rw [e, numC_pos hh, if_pos ⟨TL.numL_ne _, digC_iff.mpr hd, hz⟩, TL.numL_val]
def rowsT (z : Str) : List (List Str) := if z = Str.ofString "" then [] else (Txt.split z lf).map fun r => Txt.split r bl
def wsD (ws : List Str) : D := .lst (ws.map D.str)
def rowsD (rows : List (List Str)) : D := .lst (rows.map wsD)
structure TextOk (z : Str) : Prop where
  len : z.length ≤ 1000000
  asc : Asc z
  row : ∀ r ∈ Txt.split z lf, r.length ≤ 640
theorem mem_join_len {y : Str} : ∀ {l : List Str} {p : Str}, p ∈ l → p.length ≤ (Str.join y l).length ∧ ∀ c ∈ p.cps.toList, c ∈ (Str.join y l).cps.toList
  | [x], p, h => by
    simp at h
    subst h
    exact ⟨Nat.le_refl _, fun c hc => hc⟩
  | x :: z :: r, p, h => by
    have e : Str.join y (x :: z :: r) = x ++ y ++ Str.join y (z :: r) := rfl
    rw [e]
    rcases List.mem_cons.mp h with rfl | q
    · exact ⟨by rw [len_app, len_app]; omega, fun c hc => by
        have e1 := TL.tl_append (p ++ y) (Str.join y (z :: r))
        have e2 := TL.tl_append p y
        unfold TL.tl at e1 e2
        rw [e1, e2]
        simp [hc]⟩
    · obtain ⟨h1, h2⟩ := mem_join_len (y := y) q
      exact ⟨by rw [len_app, len_app]; omega, fun c hc => by
        have e1 := TL.tl_append (x ++ y) (Str.join y (z :: r))
        unfold TL.tl at e1
        rw [e1]
        exact List.mem_append_right _ (h2 c hc)⟩
theorem mem_split {z y p : Str} (h : p ∈ Txt.split z y) : p.length ≤ z.length ∧ ∀ c ∈ p.cps.toList, c ∈ z.cps.toList := by
  have := mem_join_len (y := y) h
  rw [StrLaws.join_split] at this
  exact this
theorem TextOk.word {z : Str} (h : TextOk z) : ∀ ws ∈ rowsT z, ∀ w ∈ ws, w.length ≤ 640 ∧ Asc w := fun ws hws w hw => by
  unfold rowsT at hws
  split at hws
  · cases hws
  · obtain ⟨r, hr, rfl⟩ := List.mem_map.mp hws
    have h1 := mem_split hw
    have h2 := mem_split hr
    exact ⟨Nat.le_trans h1.1 (h.row r hr), fun c hc => h.asc c (h2.2 c (h1.2 c hc))⟩
theorem rowsT_len {z : Str} : (rowsT z).length ≤ z.length + 2 := by
  unfold rowsT
  split
  · simp
  · rw [List.length_map]
    exact PyProof.Rows.split_le z lf
def F_rows_of : Sx := fun ds G Q U => ∃ d, ds = [d] ∧ anyD d = true ∧ ((∀ z, d ≠ .str z) → U ⟨"NoText", some ("row", .int 0)⟩ G) ∧ ∀ z, d = .str z → z.length ≤ 1000000 ∧ Asc z ∧ Q (rowsD (rowsT z)) G
def r_rows_of : ES :=
  (sSeq (sIf (eNot (eTru (eCB cIsi (eCons (eVar 0) (eCons (eC (.ty "str")) eNil))))) (sRaiseF "NoText" "row" (eC (.int 0))) sNext)
  (sSeq (sIf (eT (eOp oEq (eVar 0) (eC (.str "")))) (sRet (eLst eNil)) sNext)
  (sRet (eLc (iL (eM1 mSplit (eVar 0) (eC (.str "\n")))) (.nm 1) eYes (eM1 mSplit (eVar 1) (eC (.str " "))) [1]))))
theorem d_rows_of (ds : List D) (G : Gp) (Q : DK) (U : Ux) (h : F_rows_of ds G Q U) : r_rows_of (finX G Q U) (startD 2 ds) G := by
  obtain ⟨d, rfl, ha, u, k⟩ := h
  refine seq_gen fun W hW => ?_
  (try dsimp only [startD, sIf, eNot, eTru, eCB, eCons, eVar, sRaiseF, eC, sNext, eNil]); (try simp only [List.map_cons, List.map_nil, List.length_cons, List.length_nil, Nat.reduceAdd, List.replicate, List.cons_append, List.nil_append]); (try dsimp only [List.getElem?_cons_zero])
  rw [isi_str ha]
  cases d with
  | str z =>
    obtain ⟨hl, hz, k⟩ := k z rfl
    (try dsimp only [isS, truD_bl]); (try simp only [Bool.not_true, Bool.false_eq_true, if_false]); (skip)
    refine hW _ _ ?_
    refine seq_gen fun W2 hW2 => ?_
    (try dsimp only [sIf, eT, eOp, eVar, List.getElem?_cons_zero, sRet, eLst, eNil, sNext, eC]); (try simp only [List.length_nil, sizeLine_eq, Nat.reduceLeDiff, true_and]); (skip)
    refine eq_ss hz (asc_of _) ?_
    unfold rowsT at k
    by_cases c : z = Str.ofString ""
    · rw [decide_eq_true c]
      (try dsimp only); (try simp only [if_true]); (skip)
      rw [if_pos c] at k
      exact fin_id k
    · rw [decide_eq_false c]
      (try dsimp only); (try simp only [Bool.false_eq_true, if_false]); (skip)
      refine hW2 _ _ ?_
      rw [if_neg c] at k
      (try dsimp only [sRet, eLc, iL, eM1, eVar, List.getElem?_cons_zero, isStr, mSplit, eC]); (try simp only [Nat.reduceLeDiff, true_and]); (skip)
      refine ⟨by decide +kernel, by omega, ?_⟩
      (try dsimp only [lkL_lst, stays]); (skip); (skip)
      refine compW_all (g := D.str) (f := fun r => wsD (Txt.split r bl)) trivial _ [] (fun r hr => ⟨_, rfl, fun R q => ?_⟩) ?_
      · have := (mem_split hr).1
        (try dsimp only [wipeD, List.set_cons_succ, List.set_cons_zero, eM1, eVar, List.getElem?_cons_succ, List.getElem?_cons_zero, isStr, mSplit, eC]); (try simp only [Nat.reduceLeDiff, true_and]); (skip)
        exact ⟨by decide +kernel, by omega, q⟩
      · rw [List.nil_append]
        refine fin_id ?_
        unfold rowsD at k
        rw [List.map_map] at k
        exact k
  | _ => (try dsimp only [isS, truD_bl]); (try simp only [Bool.not_false, if_true]); (skip); exact finX_id (u fun z e => by cases e)
theorem cut_one (L : List D) : cutD L (some 1) none = L.drop 1 := by
  unfold cutD
  rw [show (1 : Int) = ((1 : Nat) : Int) from rfl, HT.sIx_nat, HT.sIx_none]
  cases L with
  | nil => rfl
  | cons a r => simp
end DL
set_option Elab.async false
set_option linter.all false
set_option maxRecDepth 100000
set_option maxHeartbeats 4000000
namespace DL
open PySem PySem.Spec PyProof.Rows L2 LN
/-- the stretch of a row -/
def stW (ws : List Str) : Option Stretch := match ws with
  | [w0, n, b, e, w] => if w0 = Str.ofString "stretch" then (match numW b, numW e, numW w with
    | some b, some e, some w => if strB (⟨n, b, e, w⟩ : Stretch).d = true then some ⟨n, b, e, w⟩ else none
    | _, _, _ => none) else none
  | _ => none
def readB : List (List Str) → List Stretch → Sum Nat (List Stretch)
  | [], acc => .inr acc
  | ws :: r, acc => match stW ws with
    | some s => if acc.length = 24 ∨ s.name ∈ acc.map Stretch.name then .inl acc.length else readB r (acc ++ [s])
    | none => .inl acc.length
def F_read_book : Sx := fun ds G Q U => ∃ d, ds = [d] ∧ anyD d = true ∧ ((∀ z, d ≠ .str z) → U ⟨"NoText", some ("row", .int 0)⟩ G) ∧
  ∀ z, d = .str z → TextOk z ∧ (∀ k : Nat, readB (rowsT z) [] = .inl k → U ⟨"NoText", some ("row", .int (k : Int))⟩ G) ∧ ∀ bk, readB (rowsT z) [] = .inr bk → ∀ p, G p = none → Q (.ref p) (gput G p (.lst (bk.map Stretch.d)))
def r_read_book_L1 : ES :=
  (sSeq (sIf (eOr (eT (eOp oNe (eCB cLen (eCons (eVar 4) eNil)) (eC (.int 5)))) (eOr (eT (eOp oNe (eOp oIx (eVar 4) (eC (.int 0))) (eC (.str "stretch")))) (eT (eOp oEq (eCB cLen (eCons (eVar 1) eNil)) (eC (.int 24)))))) (sRaiseF "NoText" "row" (eVar 3)) sNext)
  (sSeq (sAsg (eTup (eCons (eOp oIx (eVar 4) (eC (.int 1))) (eCons (eCall F_number_of (eCons (eOp oIx (eVar 4) (eC (.int 2))) eNil)) (eCons (eCall F_number_of (eCons (eOp oIx (eVar 4) (eC (.int 3))) eNil)) (eCons (eCall F_number_of (eCons (eOp oIx (eVar 4) (eC (.int 4))) eNil)) eNil))))) (.nm 5))
  (sSeq (sIf (eOr (eNot (eTru (eCall F_is_stretch (eCons (eVar 5) eNil)))) (eT (eOp oDIn (eOp oIx (eVar 5) (eC (.int 0))) (eVar 2)))) (sRaiseF "NoText" "row" (eVar 3)) sNext)
  (sSeq (sPutD (eC (.bl true)) (eVar 2) (eOp oIx (eVar 5) (eC (.int 0))))
  (sDrop (eBm mApp (eVar 1) (eCons (eVar 5) eNil)))))))
def r_read_book : ES :=
  (sSeq (sAsg (eLstO eNil) (.nm 1))
  (sSeq (sAsg eDnewO (.nm 2))
  (sSeq (sForX (iEX (eConsX (eCallX F_rows_of (eXa (eCons (eVar 0) eNil))) (eXa eNil))) (.tp [3, 4]) r_read_book_L1)
  (sRet (eVar 1)))))
theorem okT_w {z : Str} (h : z.length ≤ 640 ∧ Asc z) : okT (.str z) = true := okT_of (by omega) h.2
theorem okT_oi (o : Option Int) : okT (oiD o) = true := by cases o <;> rfl
theorem intOf_oi (o : Option Int) : intOf (oiD o) = o := by cases o <;> rfl
theorem strB_oi (n : Str) (b e w : Option Int) : strB (.tup [.str n, oiD b, oiD e, oiD w]) = (match b, e, w with
    | some b, some e, some w => strB (⟨n, b, e, w⟩ : Stretch).d
    | _, _, _ => false) := by
  rw [strB_4, intOf_oi, intOf_oi, intOf_oi]
  cases b with
  | none => simp
  | some b =>
    cases e with
    | none => simp
    | some e =>
      cases w with
      | none => simp
      | some w => rfl
/-- the owned list and the names at hand -/
def gB (G : Gp) (p q : Addr) (acc : List Stretch) : Gp := gput (gput G p (.lst (acc.map Stretch.d))) q (.dct ((acc.map Stretch.name).map Sum.inr) (List.replicate acc.length (.bl true)))
theorem ws_at {ws : List Str} {k : Nat} {w : Str} {G : Gp} {Q : DK} (h : ws[k]? = some w) (q : Q (.str w) G) : oIx (wsD ws) (.int (k : Int)) G Q :=
  ix_at (atI_nat (by rw [List.getElem?_map, h]; rfl)) q
theorem d_read_book (ds : List D) (G : Gp) (Q : DK) (U : Ux) (h : F_read_book ds G Q U) : r_read_book (finX G Q U) (startD 6 ds) G := by
  obtain ⟨d, rfl, ha, u, k⟩ := h
  refine seq_gen fun W hW => ?_
  (try dsimp only [startD, sAsg, eLstO, eNil, asg]); (try simp only [List.length_nil, sizeLine_eq, Nat.reduceLeDiff, List.map_cons, List.map_nil, List.length_cons, Nat.reduceAdd, List.replicate, List.cons_append, List.nil_append, true_and]); (try dsimp only [List.set_cons_succ, List.set_cons_zero])
  intro p hp
  refine hW _ _ ?_
  refine seq_gen fun W2 hW2 => ?_
  (try dsimp only [sAsg, eDnewO, asg, List.set_cons_succ, List.set_cons_zero]); (skip); (skip)
  intro q hq
  refine hW2 _ _ ?_
  have hqp : q ≠ p := fun e => by rw [e, gput_same] at hq; cases hq
  have hGq : G q = none := by rw [gput_ne hqp] at hq; exact hq
  have keep : ∀ acc a o, G a = some o → gB G p q acc a = some o := fun acc a o e => by
    unfold gB
    rw [gput_ne (fun z => by rw [z, hGq] at e; cases e), gput_ne (fun z => by rw [z, hp] at e; cases e)]
    exact e
  refine seq_gen fun W3 hW3 => ?_
  (try dsimp only [sForX, iEX, eConsX, eCallX, eXa, eCons, eVar, List.getElem?_cons_zero, eNil]); (skip); (skip)
  refine ⟨d, rfl, ha, fun h => finX_back (fun a o e => keep [] a o e) (by simp [refX, RefIn]) (u h), fun z hz => ?_⟩
  obtain ⟨tk, k1, k2⟩ := k z hz
  refine ⟨tk.len, tk.asc, ?_⟩
  have hwords := tk.word
  have hrl := rowsT_len (z := z)
  have hzl := tk.len
  generalize rowsT z = rows at k1 k2 hwords hrl
  (try dsimp only [stays, rowsD, lkL_lst]); (skip); (skip)
  refine forW_enum (fun j s G' => ∃ (acc : List Stretch) (o3 o4 o5 : Option D), s = [some d, some (.ref p), some (.ref q), o3, o4, o5] ∧ acc.length = j ∧ G' = gB G p q acc ∧ readB rows [] = readB (rows.drop j) acc) ?_ ?_ ⟨[], _, _, _, rfl, rfl, rfl, rfl⟩
  · rintro j x s G' W4 hx ⟨acc, o3, o4, o5, rfl, hj, rfl, hb⟩ hW4
    rw [List.getElem?_map] at hx
    obtain ⟨ws, hws, rfl⟩ := Option.map_eq_some_iff.mp hx
    have hjl := (List.getElem?_eq_some_iff.mp hws).1
    have ejl := (List.getElem?_eq_some_iff.mp hws).2
    rw [List.drop_eq_getElem_cons hjl, ejl] at hb
    have hw := hwords ws (List.mem_of_getElem? hws)
    have gp : gB G p q acc p = some (.lst (acc.map Stretch.d)) := by unfold gB; rw [gput_ne (Ne.symm hqp), gput_same]
    have gq : gB G p q acc q = some (.dct ((acc.map Stretch.name).map Sum.inr) (List.replicate acc.length (.bl true))) := by unfold gB; rw [gput_same]
    have bad : readB (ws :: rows.drop (j + 1)) acc = .inl acc.length → ∀ o3 o4 o5, (finX G Q U).xr ⟨"NoText", some ("row", .int (j : Int))⟩ [some d, some (.ref p), some (.ref q), o3, o4, o5] (gB G p q acc) := fun e o3 o4 o5 => by
      refine finX_back (keep acc) (by simp [refX, RefIn]) (k1 j ?_)
      rw [hb, e, hj]
    have badS : stW ws = none → ∀ o3 o4 o5, (finX G Q U).xr ⟨"NoText", some ("row", .int (j : Int))⟩ [some d, some (.ref p), some (.ref q), o3, o4, o5] (gB G p q acc) := fun e => bad (by
      unfold readB
      rw [e])
    (try dsimp only [asg, setAll, List.set_cons_succ, List.set_cons_zero]); (skip); (skip)
    unfold r_read_book_L1
    refine seq_gen fun W5 hW5 => ?_
    (try dsimp only [wsD, sIf, eOr, eT, eOp, eCB, eCons, eVar, List.getElem?_cons_succ, List.getElem?_cons_zero, sRaiseF, sNext, eC, eNil]); (try simp only [if_true]); (skip)
    refine len_lst (ne_ii ?_)
    rw [List.length_map]
    by_cases c1 : ws.length = 5
    · rw [decide_eq_true (by omega)]
      (try dsimp only); (try simp only [Bool.not_true, Bool.false_eq_true, if_false]); (skip)
      match ws, c1 with
      | [w0, n, b, e, w], _ =>
        refine ix_at (d := .str w0) (atI_nat (j := 0) rfl) (ne_ss (hw w0 (by simp)).2 (asc_of _) ?_)
        by_cases c2 : w0 = Str.ofString "stretch"
        · rw [decide_eq_true c2]
          (try dsimp only); (try simp only [Bool.not_true, Bool.false_eq_true, if_false]); (skip)
          refine len_ref gp (eq_ii ?_)
          rw [List.length_map]
          have est : stW [w0, n, b, e, w] = (match numW b, numW e, numW w with
            | some b, some e, some w => if strB (⟨n, b, e, w⟩ : Stretch).d = true then some ⟨n, b, e, w⟩ else none
            | _, _, _ => none) := by
            show (if w0 = Str.ofString "stretch" then _ else _) = _
            rw [if_pos c2]
          by_cases c3 : acc.length = 24
          · rw [decide_eq_true (by omega)]
            (try dsimp only); (try simp only [if_true]); (skip)
            refine bad ?_ _ _ _
            unfold readB
            split
            · rw [if_pos (.inl c3)]
            · rfl
          · rw [decide_eq_false (by omega)]
            (try dsimp only); (try simp only [Bool.false_eq_true, if_false]); (skip)
            refine hW5 _ _ ?_
            refine seq_gen fun W6 hW6 => ?_
            (try dsimp only [sAsg, eTup, eCons, eOp, eVar, List.getElem?_cons_succ, List.getElem?_cons_zero, asg, List.set_cons_succ, List.set_cons_zero, eCall, eNil, eC]); (try simp only [List.length_cons, List.length_nil, Nat.reduceAdd, sizeLine_eq, Nat.reduceLeDiff, true_and]); (skip)
            refine ix_at (d := .str n) (atI_nat (j := 1) rfl) (ix_at (d := .str b) (atI_nat (j := 2) rfl) ⟨b, rfl, (hw b (by simp)).1, (hw b (by simp)).2, ix_at (d := .str e) (atI_nat (j := 3) rfl) ⟨e, rfl, (hw e (by simp)).1, (hw e (by simp)).2, ix_at (d := .str w) (atI_nat (j := 4) rfl) ⟨w, rfl, (hw w (by simp)).1, (hw w (by simp)).2, ?_⟩⟩⟩)
            (try dsimp only); (skip); (skip)
            refine hW6 _ _ ?_
            refine seq_gen fun W7 hW7 => ?_
            (try dsimp only [sIf, eOr, eNot, eTru, eCall, eCons, eVar, List.getElem?_cons_succ, List.getElem?_cons_zero, sRaiseF, sNext, eT, eOp, eC, eNil]); (try simp only [if_true]); (skip)
            refine ⟨_, rfl, okT_tup.mpr fun d hd => ?_, ?_⟩
            · simp only [List.mem_cons, List.not_mem_nil, or_false] at hd
              rcases hd with rfl | rfl | rfl | rfl
              · exact okT_w (hw n (by simp))
              all_goals exact okT_oi _
            rw [strB_oi]
            cases eb : numW b with
            | none => (try dsimp only [truD_bl]); (try simp only [Bool.not_false, if_true]); (skip); exact badS (by rw [est, eb]) _ _ _
            | some bi =>
              cases ee : numW e with
              | none => (try dsimp only [truD_bl]); (try simp only [Bool.not_false, if_true]); (skip); exact badS (by rw [est, eb, ee]) _ _ _
              | some ei =>
                cases ew : numW w with
                | none => (try dsimp only [truD_bl]); (try simp only [Bool.not_false, if_true]); (skip); exact badS (by rw [est, eb, ee, ew]) _ _ _
                | some wi =>
                  rw [eb, ee, ew] at est
                  (try dsimp only [truD_bl]); (skip); (skip)
                  cases c4 : strB (⟨n, bi, ei, wi⟩ : Stretch).d with
                  | false =>
                    (skip); (try simp only [Bool.not_false, if_true]); (skip)
                    exact badS (by rw [est]; simp [c4]) _ _ _
                  | true =>
                    (skip); (try simp only [Bool.not_true, Bool.false_eq_true, if_false]); (skip)
                    refine ixt_0 (d := .str n) rfl (din_has gq (by simp) ?_)
                    have est2 : stW [w0, n, b, e, w] = some ⟨n, bi, ei, wi⟩ := by rw [est]; simp [c4]
                    by_cases c5 : n ∈ acc.map Stretch.name
                    · rw [decide_eq_true c5]
                      (try dsimp only); (try simp only [if_true]); (skip)
                      refine bad ?_ _ _ _
                      unfold readB
                      rw [est2]
                      exact if_pos (.inr c5)
                    · rw [decide_eq_false c5]
                      (try dsimp only); (try simp only [Bool.false_eq_true, if_false]); (skip)
                      refine hW7 _ _ ?_
                      refine seq_gen fun W8 hW8 => ?_
                      (try dsimp only [oiD, sPutD, eC, eVar, List.getElem?_cons_succ, List.getElem?_cons_zero, eOp]); (try simp only [sizeLine_eq]); (skip)
                      refine ixt_0 (d := .str n) rfl ?_
                      (try dsimp only [keyD]); (skip); (skip)
                      rw [gq]
                      have c4' : hasK ((acc.map Stretch.name).map Sum.inr) (Sum.inr n) = false := by rw [hasK_inr, decide_eq_false c5]
                      (try dsimp only); (skip); (skip)
                      refine ⟨by rw [List.length_map, List.length_map]; omega, hW8 _ _ ?_⟩
                      rw [(put_freshK (ds := List.replicate acc.length (.bl true)) (d := .bl true) c4').1, (put_freshK c4').2]
                      (try dsimp only [sDrop, eBm, eVar, List.getElem?_cons_succ, List.getElem?_cons_zero, isLst, eCons, eNil]); (skip); (skip)
                      have gp2 : ∀ o, gput (gB G p q acc) q o p = some (.lst (acc.map Stretch.d)) := fun o => by rw [gput_ne (Ne.symm hqp)]; exact gp
                      refine ⟨⟨_, gp2 _⟩, ?_⟩
                      (try dsimp only [mApp]); (try simp only [sizeLine_eq]); (skip)
                      rw [gp2]
                      (try dsimp only); (skip); (skip)
                      refine ⟨by rw [List.length_map]; omega, hW4 _ _ ⟨acc ++ [⟨n, bi, ei, wi⟩], _, _, _, rfl, by simp [hj], ?_, ?_⟩⟩
                      · unfold gB
                        rw [gput_gput, gput_comm (Ne.symm hqp), gput_gput, List.map_append, List.map_append, List.map_append, List.length_append, List.length_singleton, List.replicate_succ', gput_comm hqp]
                        rfl
                      · rw [hb]
                        conv => lhs; unfold readB
                        rw [est2]
                        exact if_neg (by
                          rintro (z | z)
                          · exact c3 z
                          · exact c5 z)
        · rw [decide_eq_false c2]
          (try dsimp only); (try simp only [Bool.not_false, if_true]); (skip)
          exact badS (by show (if w0 = Str.ofString "stretch" then _ else _) = _; rw [if_neg c2]) _ _ _
    · rw [decide_eq_false (by omega)]
      (try dsimp only); (try simp only [Bool.not_false, if_true]); (skip)
      refine badS ?_ _ _ _
      unfold stW
      split
      · simp at c1
      · rfl
  · rintro s G' ⟨acc, o3, o4, o5, rfl, hj, rfl, hb⟩
    rw [List.length_map, List.drop_length] at hb
    refine hW3 _ _ ?_
    (try dsimp only [sRet, eVar, List.getElem?_cons_succ, List.getElem?_cons_zero]); (skip); (skip)
    have gp : gB G p q acc p = some (.lst (acc.map Stretch.d)) := by unfold gB; rw [gput_ne (Ne.symm hqp), gput_same]
    exact fin_own (keep acc) gp hp (by show RefIns _ _; exact refIns_plain (plain_book _)) (k2 acc hb p hp)
def gN (G : Gp) (q : Addr) (ns : List Str) : Gp := gput G q (.dct (ns.map Sum.inr) ((List.range' 0 ns.length).map fun (i : Nat) => D.int (i : Int)))
end DL
set_option Elab.async false
set_option linter.all false
set_option maxRecDepth 100000
set_option maxHeartbeats 4000000
namespace DL
open PySem PySem.Spec PyProof.Rows L2 LN
theorem mem_joinT {y : Str} {c : Nat} : ∀ {l : List Str}, c ∈ (Txt.join y l).cps.toList → c ∈ y.cps.toList ∨ ∃ p ∈ l, c ∈ p.cps.toList
  | [], h => by rw [join_nil] at h; simp [Str.empty] at h
  | [x], h => by rw [join_one] at h; exact .inr ⟨x, by simp, h⟩
  | x :: z :: r, h => by
    rw [join_two] at h
    have e1 := TL.tl_append (x ++ y) (Txt.join y (z :: r))
    have e2 := TL.tl_append x y
    unfold TL.tl at e1 e2
    rw [e1, e2] at h
    rcases List.mem_append.mp h with q | q
    · rcases List.mem_append.mp q with q | q
      · exact .inr ⟨x, by simp, q⟩
      · exact .inl q
    · rcases mem_joinT q with q | ⟨p, hp, q⟩
      · exact .inl q
      · exact .inr ⟨p, List.mem_cons_of_mem _ hp, q⟩
theorem tl_bl : bl.cps.toList = [32] := by decide +kernel
theorem tl_lf : lf.cps.toList = [10] := by decide +kernel
/-- words that stand apart -/
structure RowOk (r : List Str) : Prop where
  ne : r ≠ []
  pos : 1 ≤ (glue r).length
  le : (glue r).length ≤ 640
  bl : ∀ w ∈ r, 32 ∉ w.cps.toList ∧ 10 ∉ w.cps.toList
  asc : ∀ w ∈ r, Asc w
theorem split_glue {r : List Str} (h : RowOk r) : Txt.split (glue r) bl = r := TL.split_join (s := 32) (S := []) tl_bl (by decide +kernel) h.ne fun p hp => (h.bl p hp).1
theorem glue_lf {r : List Str} (h : RowOk r) : 10 ∉ (glue r).cps.toList := fun c => by
  rcases mem_joinT c with q | ⟨p, hp, q⟩
  · rw [tl_bl] at q; simp at q
  · exact (h.bl p hp).2 q
theorem split_text {rows : List (List Str)} (hne : rows ≠ []) (h : ∀ r ∈ rows, RowOk r) : Txt.split (textOf rows) lf = rows.map glue := TL.split_join (s := 10) (S := []) tl_lf (by decide +kernel) (by simpa using hne) fun p hp => by
  obtain ⟨r, hr, rfl⟩ := List.mem_map.mp hp
  exact glue_lf (h r hr)
theorem text_pos {rows : List (List Str)} (hne : rows ≠ []) (h : ∀ r ∈ rows, RowOk r) : textOf rows ≠ Str.ofString "" := fun e => by
  cases rows with
  | nil => exact hne rfl
  | cons r rows =>
    have h1 := (h r List.mem_cons_self).pos
    have h2 := (mem_join_len (y := lf) (l := (r :: rows).map glue) (p := glue r) (by simp)).1
    have e2 : Str.join lf ((r :: rows).map glue) = textOf (r :: rows) := (TL.join_eq lf _).symm
    rw [e2, e] at h2
    have : (Str.ofString "").length = 0 := by decide +kernel
    omega
theorem rows_back {rows : List (List Str)} (h : ∀ r ∈ rows, RowOk r) : rowsT (textOf rows) = rows := by
  unfold rowsT
  by_cases c : rows = []
  · subst c
    rw [if_pos (by unfold textOf; rw [List.map_nil, join_nil]; decide +kernel)]
  · rw [if_neg (text_pos c h), split_text c h, List.map_map]
    conv => rhs; rw [← List.map_id rows]
    exact List.map_congr_left fun r hr => split_glue (h r hr)
theorem text_ok {rows : List (List Str)} (hl : rows.length ≤ 1000) (h : ∀ r ∈ rows, RowOk r) : TextOk (textOf rows) := by
  refine ⟨?_, asc_text fun r hr => (h r hr).asc, fun p hp => ?_⟩
  · have h1 := join_le lf (rows.map glue)
    have h2 := StrLaws.sumLen_le (B := 640) (rows.map glue) (fun y hy => by
      obtain ⟨r, hr, rfl⟩ := List.mem_map.mp hy
      exact (h r hr).le)
    have h3 : (Str.ofString "\n").length = 1 := by decide +kernel
    rw [List.length_map] at h1 h2
    rw [h3] at h1
    unfold textOf
    omega
  · by_cases c : rows = []
    · subst c
      have e : textOf [] = Str.ofString "" := by unfold textOf; rw [List.map_nil, join_nil]; decide +kernel
      have := (mem_split hp).1
      rw [e] at this
      have h3 : (Str.ofString "").length = 0 := by decide +kernel
      omega
    · rw [split_text c h] at hp
      obtain ⟨r, hr, rfl⟩ := List.mem_map.mp hp
      exact (h r hr).le
theorem free_int {i : Int} {c : Nat} (h : c ≠ 45 ∧ (c < 48 ∨ 57 < c)) : c ∉ (iSt i).cps.toList := fun q => by
  rcases Int.lt_or_le i 0 with d | d
  · obtain ⟨n, rfl⟩ : ∃ n : Nat, i = -((n + 1 : Nat) : Int) := ⟨(-i - 1).toNat, by omega⟩
    rw [tl_neg] at q
    rcases List.mem_cons.mp q with e | q
    · exact h.1 e
    · exact TL.numL_free h.2 q
  · obtain ⟨n, rfl⟩ : ∃ n : Nat, i = (n : Int) := ⟨i.toNat, by omega⟩
    have e : (iSt (n : Int)).cps.toList = TL.numL n := TL.tl_num n
    rw [e] at q
    exact TL.numL_free h.2 q
theorem free_name {z : Str} {c : Nat} (h : NameOk z) (hc : c < 97) : c ∉ z.cps.toList := fun q => by
  have := h.az c q
  omega
theorem glue_pos {w : Str} {r : List Str} (h : 1 ≤ w.length) : 1 ≤ (glue (w :: r)).length := by
  have := (mem_join_len (y := bl) (l := w :: r) (p := w) (by simp)).1
  rw [← TL.join_eq] at this
  unfold glue
  omega
theorem row_S {s : Stretch} (h : SOk s) : RowOk (wS s) := ⟨by simp [wS], glue_pos (by decide +kernel), Nat.le_trans (glueS_le h) (by decide), fun w hw => by
  simp only [wS, List.mem_cons, List.not_mem_nil, or_false] at hw
  rcases hw with rfl | rfl | rfl | rfl | rfl
  · decide +kernel
  · exact ⟨free_name h.nm (by decide), free_name h.nm (by decide)⟩
  all_goals exact ⟨free_int (by decide), free_int (by decide)⟩, asc_wS h⟩
theorem stW_S {s : Stretch} (h : SOk s) : stW (wS s) = some s := by
  show (if Str.ofString "stretch" = Str.ofString "stretch" then (match numW (iSt s.b), numW (iSt s.e), numW (iSt s.w) with
    | some b, some e, some w => if strB (⟨s.name, b, e, w⟩ : Stretch).d = true then some (⟨s.name, b, e, w⟩ : Stretch) else none
    | _, _, _ => none) else none) = some s
  rw [if_pos rfl]
  simp only [numW_int]
  rw [if_pos (strB_iff.mpr h)]
theorem readB_S : ∀ {bk acc : List Stretch}, (∀ s ∈ bk, SOk s) → acc.length + bk.length ≤ 24 → ((acc ++ bk).map Stretch.name).Nodup → readB (bk.map wS) acc = .inr (acc ++ bk)
  | [], acc, _, _, _ => by simp [readB]
  | s :: bk, acc, h, hl, nd => by
    rw [List.map_cons]
    unfold readB
    rw [stW_S (h s List.mem_cons_self)]
    simp only
    rw [if_neg, readB_S (fun t ht => h t (List.mem_cons_of_mem _ ht)) (by simp at hl ⊢; omega) (by simpa using nd)]
    · simp
    · rintro (q | q)
      · simp at hl; omega
      · rw [List.map_append, List.map_cons] at nd
        exact (List.nodup_append.mp nd).2.2 _ q _ (by simp) rfl
theorem book_back {bk : List Stretch} (h : BOk bk) : TextOk (textOf (bk.map wS)) ∧ readB (rowsT (textOf (bk.map wS))) [] = .inr bk := by
  have hr : ∀ r ∈ bk.map wS, RowOk r := fun r hr => by
    obtain ⟨s, hs, rfl⟩ := List.mem_map.mp hr
    exact row_S (h.all s hs)
  refine ⟨text_ok (by rw [List.length_map]; have := h.len; omega) hr, ?_⟩
  rw [rows_back hr, readB_S h.all (by simp; exact h.len) (by simpa using h.nd)]
  rfl
end DL
set_option Elab.async false
set_option linter.all false
set_option maxRecDepth 100000
set_option maxHeartbeats 4000000
namespace DL
open PySem PySem.Spec PyProof.Rows L2 LN
/-- no run without a line feed is longer -/
def RwL (R : Nat) (l : List Nat) : Prop := ∀ a m b, l = a ++ m ++ b → 10 ∉ m → m.length ≤ R
theorem RwL.mono {R R' : Nat} {l : List Nat} (h : RwL R l) (hr : R ≤ R') : RwL R' l := fun a m b e n => Nat.le_trans (h a m b e n) hr
theorem RwL.len (l : List Nat) : RwL l.length l := fun a m b e _ => by
  have := congrArg List.length e
  simp at this
  omega
theorem RwL.sub {R : Nat} {l a m b : List Nat} (h : RwL R l) (e : l = a ++ m ++ b) : RwL R m := fun a2 m2 b2 e2 n => h (a ++ a2) m2 (b2 ++ b) (by rw [e, e2]; simp) n
theorem RwL.take {R k : Nat} {l : List Nat} (h : RwL R l) : RwL R (l.take k) := h.sub (a := []) (b := l.drop k) (by simp)
theorem RwL.drop {R k : Nat} {l : List Nat} (h : RwL R l) : RwL R (l.drop k) := h.sub (a := l.take k) (b := []) (by simp)
structure TR (L R : Nat) (t : Str) : Prop where
  len : t.length ≤ L
  asc : Asc t
  rw' : RwL R t.cps.toList
theorem TR.mono {L R L' R' : Nat} {t : Str} (h : TR L R t) (h1 : L ≤ L') (h2 : R ≤ R') : TR L' R' t := ⟨by have := h.len; omega, h.asc, h.rw'.mono h2⟩
theorem flDs_strs : ∀ l : List Str, flDs (l.map D.str) = some (l.map V.str)
  | [] => rfl
  | x :: l => by simp [flDs_strs l]
theorem inV_strs (m : Str) : ∀ l : List Str, inV (.str m) (l.map V.str) = decide (m ∈ l)
  | [] => by simp [inV]
  | n :: l => by
    have := inV_strs m l
    simp only [inV, List.map_cons, List.any_cons] at this ⊢
    rw [this]
    have e : eqV (.str n) (.str m) = decide (m = n) := by
      show (n == m) = _
      by_cases h : n = m
      · subst h; simp
      · have h2 : ¬ m = n := fun q => h q.symm
        simp [h, h2]
    rw [e]
    by_cases h : m = n <;> simp [h]
end DL
set_option Elab.async false
set_option linter.all false
set_option maxRecDepth 100000
set_option maxHeartbeats 4000000
namespace L2
open PySem PySem.Spec PyProof.Rows
end L2
namespace DL
open PySem PySem.Spec PyProof.Rows L2
end DL
set_option Elab.async false
set_option linter.all false
set_option maxRecDepth 100000
set_option maxHeartbeats 4000000
namespace DL
open PySem PySem.Spec PyProof.Rows L2
end DL
set_option Elab.async false
set_option linter.all false
set_option maxRecDepth 100000
set_option maxHeartbeats 4000000
namespace DL
open PySem PySem.Spec PyProof.Rows L2
section
variable {X : Cx} {CX : CXT} {k : Nat} {f C : Addr} {fd : FuncData} {ps : List Str} {sp : Sp} {E : L2.St → XK} {x m : Str} {p pos apos : Pos} {e o : Expr} {es : List Expr} {ta : TE} {t : TA}
def tMethX (C : Addr) (m : Str) (sp : Sp) (E : L2.St → XK) (ta : TE) (t : TA) : TE := fun σ H Q => ta σ H fun x H1 => ∃ a dx fs, x = .ref a ∧ H1 a = some (.ins C dx fs) ∧ fs.lookup m = none ∧ t σ H1 fun vs H2 => sp (x :: vs) H2 Q (E σ)
theorem pe_methX {pl : Sem Bool} (he : PE X o ta) (c : Cls X.K C) (hm : Meth X.K C m f) (F : FnOk X.prog X.w X.K X.mg X.base CX k f fd ps sp) (hr : Room k X.A) (hb : Binds X.K fd ps []) (hx : ∀ σ, PassesAt CX X σ (E σ)) (ha : PA X (e :: es) t)
    (hst : starEach (e :: es) X.env = (false, eval e X.env) :: starEach es X.env := by rfl) (hpl : (backTo pos (starEach es X.env)).any (·.1) = false := by rfl)
    (ht : eval (.Call (.Attribute o m apos) (e :: es) [] pos) X.env = (do
      let ov ← eval o X.env
      standAt apos.atName
      let (f, first) ← holding [ov] (getMethod ov m pl)
      callWith pos f first (backTo pos (starEach (e :: es) X.env)) (backToKw pos (keywordEach [] X.env))) := by rfl) :
    PE X (.Call (.Attribute o m apos) (e :: es) [] pos) (tMethX C m sp E ta t) := by
  refine ⟨fun pins s σ H Q I h => ?_⟩
  refine PySem.W.methodCall_KW (pl := pl) (thn (he.run pins s σ H _ I h) fun u s1 ⟨x, H1, I1, rx, a, dx, fs, ex, ea, l, q⟩ => ?_) ht
  subst ex
  obtain rfl : u = Value.ref a := rx
  refine getmeth_ok I1 ea c hm l ?_
  refine PySem.W.callWith_K (first := [.ref a]) (h₀ := X.base) I.ok.mod.kin hm.kp (thn (ha.run pos pins s1 σ H1 _ I1 q) fun us s2 ⟨vs, H2, I2, r, q2⟩ => ⟨I2.kIn, ?_⟩) hst hpl
  exact run_fnS (us := .ref a :: us) (vs := .ref a :: vs) F hr hb (hx σ) I2 (.cons rfl r) q2
end
/-- o.m(..), where m may raise -/
@[simp] def eMethX (C m : Str) (F : Sx) (to : EE) (t : EAX) : EX := fun s G Q U => to s G fun x G1 => isIns C m G1 x ∧ t s G1 (fun xs G2 => F (x :: xs) G2 Q U) U
/-- C(..), where __init__ may raise -/
@[simp] def eMakeX (C : Str) (F : Sx) (t : EAX) : EX := fun s G Q U => t s G (fun xs G1 => ∀ x dx, G1 x = none → F (.ref x :: xs) (gput G1 x (.ins C dx [] [])) (fun d G2 => d = .non ∧ Q (.ref x) G2) U) U
section
variable {X : Cx} {Y : Wx} {K : PySem.W.Frag} {e : Expr} {es : List Expr} {pos : Pos} {C m : Str}
theorem lex_meth {n : Nat} {F : Sx} {to : TE} {eo : EE} {t : TA} {ea : EAX} (ho : LE K to eo) (ha : LAx K Y n t ea) : LEx K Y (tMethX (He.ga K C) m (LfX K (n + 1) F) (WE Y.w) to t) (eMethX C m F eo ea) := fun P s G Q U σ H R h rl k kx => by
  refine ho P s G _ σ H _ h rl fun x G1 u H1 s1 w1 r1 h1 => ?_
  obtain ⟨a, dx, fs, rfl, e1, e2⟩ := is_ins w1 r1 h1.1
  refine ⟨a, dx, fs, rfl, e1, e2, ?_⟩
  refine ha P s G1 _ U σ H1 _ h1.2 (rl.step s1 w1) (fun xs G2 us H2 s2 w2 r2 hn h2 => ?_) fun x G' cls d H' st w rx u => kx x G' cls d H' (s1.trans st) w rx u
  refine ⟨?_, P, x :: xs, G2, Q, U, w2, reps_cons (r1.step s2) r2, h2, fun d G' v H' st w' r' q' => k d G' v H' ((s1.trans s2).trans st) w' r' q', fun x G' cls d H' st w rx u => kx x G' cls d H' ((s1.trans s2).trans st) w rx u⟩
  rw [List.length_cons, ← r2.length, hn]
end
end DL
set_option Elab.async false
set_option linter.all false
set_option maxRecDepth 100000
set_option maxHeartbeats 4000000
namespace DL
open PySem PySem.Spec PyProof.Rows L2 LN
abbrev kKs : List Str := ["stretches", "many", "past", "known"]
def kpO (dx : Addr) (bk : List Stretch) (n : Int) (b : Addr) (kn : D) : GO := .ins "Keeper" dx kKs [.lst (bk.map Stretch.d), .int n, .ref b, kn]
def pkD (x : List Stretch × Int) : D := .tup [.lst (x.1.map Stretch.d), .int x.2]
structure KpAt (G : Gp) (a b dx : Addr) (bk : List Stretch) (n : Int) (kn : D) (ps : List (List Stretch × Int)) : Prop where
  ob : G a = some (kpO dx bk n b kn)
  pa : G b = some (.lst (ps.map pkD))
theorem KpAt.ne {G : Gp} {a b dx : Addr} {bk : List Stretch} {n : Int} {kn : D} {ps : List (List Stretch × Int)} (h : KpAt G a b dx bk n kn ps) : a ≠ b := fun e => by
  have h1 := h.ob
  rw [e, h.pa] at h1
  cases h1
end DL
set_option Elab.async false
set_option linter.all false
set_option maxRecDepth 100000
set_option maxHeartbeats 4000000
namespace L2
open PySem PySem.Spec PyProof.Rows
end L2
namespace DL
open PySem PySem.Spec PyProof.Rows L2
@[simp] def oRep0 : OD := fun x y G Q => match x, y with
  | .str z, .int k => 0 ≤ k ∧ k ≤ 1000 ∧ 0 < z.length ∧ z.length ≤ 1000 ∧ Q (.str (repS z k.toNat)) G
  | _, _ => False
end DL
set_option Elab.async false
set_option linter.all false
set_option maxRecDepth 100000
set_option maxHeartbeats 4000000
namespace DL
open PySem PySem.Spec PyProof.Rows L2 LN
inductive Deed where
  | put (d : D)
  | gone (d : D)
  | worth (d w : D)
  | slide (d u v : D)
  | benches (d : D)
  | undo
def Deed.d : Deed → D
  | .put d => .tup [.str "put", d]
  | .gone d => .tup [.str "gone", d]
  | .worth d w => .tup [.str "worth", d, w]
  | .slide d u v => .tup [.str "slide", d, u, v]
  | .benches d => .tup [.str "benches", d]
  | .undo => .tup [.str "undo"]
def Deed.ok : Deed → Prop
  | .put d => okT d = true
  | .gone d => okT d = true
  | .worth d w => okT d = true ∧ okT w = true
  | .slide d u v => okT d = true ∧ okT u = true ∧ okT v = true
  | .benches d => okT d = true
  | .undo => True
end DL
set_option Elab.async false
set_option linter.all false
set_option maxRecDepth 100000
set_option maxHeartbeats 4000000
namespace DL
open PySem PySem.Spec PyProof.Rows L2 LN
theorem compW_mapE {α : Type} {g : α → D} {p : α → Bool} {f : α → D} {s0 : Sd} {t : Tg} {tt : ET} {te : EE} {Kp : Gp → Prop} {G : Gp} {Q : List D → Gp → Prop} {ds : List D} {xs : List α} (e : ds = xs.map g) (hK : Kp G)
    (h : ∀ x ∈ xs, ∃ s', asg t (g x) s0 = some s' ∧ (∀ R : Bool → Gp → Prop, R (p x) G → tt s' G R) ∧ (p x = true → ∀ R : DK, R (f x) G → te s' G R)) (q : Q ((xs.filter p).map f) G) : compW s0 t tt te Kp ds [] G Q := by
  subst e
  exact compW_map hK xs [] h (by simpa using q)
theorem try_gen {ns : List Str} {c : Str} {i : Nat} {tb : ES} {ts : Addr → Addr → Xd → ES} {N : En} {s : Sd} {G : Gp}
    (h : ∀ XR : Xd → Sd → Gp → Prop, (∀ x s' G', (x.c ∈ ns ∧ if isSub x.c c = true then ∀ a dd, ts a dd x (behind i N) (s'.set i (some (excD a dd x))) G' else N.xr x s' G') → XR x s' G') → tb { N with xr := XR } s G) : sTryAs ns c i tb ts N s G := h _ (fun _ _ _ h => h)
end DL
set_option Elab.async false
set_option linter.all false
set_option maxRecDepth 100000
set_option maxHeartbeats 4000000
namespace DL
open PySem PySem.Spec PyProof.Rows L2
end DL
set_option Elab.async false
set_option linter.all false
set_option maxRecDepth 100000
set_option maxHeartbeats 400000
namespace HotY
open PySem PySem.Spec PyProof.Rows HotX
def Raisy (prog : Program) (w : World) (hd : Option Value) (C : List Addr) (h : Heap) : Prop :=
  (∀ b ∈ C, ∃ o, h.get? b = some o) ∧ ∀ (A : Around) (α : Type) (s : Shared) (a : Addr) (oe : Obj) (vs : Array Value) (Q : α → Shared → Prop) (E : Value → Shared → Prop), A.handled = hd → (∀ b ∈ C, ∀ o, h.get? b = some o → s.heap.get? b = some o) → a ∉ C →
    s.heap.get? a = some oe → oe.data = .fields vs → 2 < vs.size → (∀ h2, (∀ b, b ≠ a → h2.get? b = s.heap.get? b) → (∃ o2, h2.get? a = some o2 ∧ o2.cls = oe.cls) → E (.ref a) { s with heap := h2 }) → wpAny (model prog w) A (raiseNew (.ref a) : Sem α) Q E s
section
variable {prog : Program} {w : World} {A : Around} {E : Value → Shared → Prop} {s : Shared}
theorem Raisy.keeps {hd : Option Value} {C : List Addr} {h h' : Heap} (r : Raisy prog w hd C h) (k : ∀ b ∈ C, ∀ o, h.get? b = some o → h'.get? b = some o) : Raisy prog w hd C h' :=
  ⟨fun b hb => let ⟨o, e⟩ := r.1 b hb; ⟨o, k b hb o e⟩, fun A α s a oe vs Q E hh hk => r.2 A α s a oe vs Q E hh fun b hb o e => hk b hb o (k b hb o e)⟩
theorem raisy_one {x1 : Addr} {h : Heap} {o1 : Obj} {v1 : Array Value} (h1 : h.get? x1 = some o1) (d1 : o1.data = .fields v1) (c1 : v1[2]? = some .none) : Raisy prog w (some (.ref x1)) [x1] h := by
  refine ⟨fun b hb => by rw [List.mem_singleton.mp hb]; exact ⟨_, h1⟩, fun A α s a oe vs Q E hh hk na ha da hi q => ?_⟩
  refine raiseNew_hot ⟨hh, o1, v1, hk x1 (List.mem_singleton.mpr rfl) _ h1, d1, c1⟩ (fun e => na (List.mem_singleton.mpr e.symm)) ha da hi (q _ (fun b hb => Heap.get?_update_other _ _ (Ne.symm hb)) ⟨_, Heap.get?_update_self _ ha (Obj.isFreed_of_fields (Obj.data_mapFields da _)), Obj.cls_mapFields ..⟩)
theorem quiet_unchain (args : Args) : (Code.builtin "proto.unchain" args).quiet = true := plainId_quiet (by decide +kernel) args
theorem unchained2 {x1 x2 a : Addr} {o1 o2 : Obj} {v1 v2 : Array Value} {Q : Value → Shared → Prop} (h1 : s.heap.get? x1 = some o1) (d1 : o1.data = .fields v1) (c1 : v1[2]? = some (.ref x2)) (h2 : s.heap.get? x2 = some o2) (d2 : o2.data = .fields v2) (c2 : v2[2]? = some .none) (na : x2 ≠ a) (q : Q .none s) :
    wpAny (model prog w) A (holding [Value.ref a] (runValue (.builtin "proto.unchain" ⟨[.ref a, .ref x1, .ref x1, .bool false], []⟩))) Q E s := by
  refine wpAny_holding (wpAny_runValue (codeAny_builtin HotX.entry_unchain ?_))
  show wpAny _ _ (field (.ref x1) 2 >>= _) _ _ s
  refine wpAny_bind (wpAny_field h1 d1 c1 ?_)
  rw [if_neg (show ¬ ((Value.ref x2 == Value.none) = true) from Bool.false_ne_true)]
  rw [if_neg (show ¬ ((Value.ref x2 == Value.ref a) = true) by simpa using na)]
  by_cases c : x2 = x1
  · rw [if_pos (show (Value.ref x2 == Value.ref x1) = true by simpa using c)]
    exact wpAny_bind (wpAny_rule (wpAny_pure q))
  · rw [if_neg (show ¬ ((Value.ref x2 == Value.ref x1) = true) by simpa using c)]
    simp only [Bool.false_eq_true, if_false]
    refine wpAny_bind (wpAny_pure (wpAny_pure ⟨quiet_unchain _, codeAny_builtin HotX.entry_unchain ?_⟩))
    show wpAny _ _ (field (.ref x2) 2 >>= _) _ _ s
    refine wpAny_bind (wpAny_field h2 d2 c2 ?_)
    rw [if_pos (show (Value.none == Value.none) = true from rfl)]
    exact wpAny_pure q
theorem raisy_two {x1 x2 : Addr} {h : Heap} {o1 o2 : Obj} {v1 v2 : Array Value} (h1 : h.get? x1 = some o1) (d1 : o1.data = .fields v1) (c1 : v1[2]? = some (.ref x2)) (h2 : h.get? x2 = some o2) (d2 : o2.data = .fields v2) (c2 : v2[2]? = some .none) : Raisy prog w (some (.ref x1)) [x1, x2] h := by
  refine ⟨fun b hb => ?_, fun A α s a oe vs Q E hh hk na ha da hi q => ?_⟩
  · simp only [List.mem_cons, List.not_mem_nil, or_false] at hb
    rcases hb with rfl | rfl
    · exact ⟨_, h1⟩
    · exact ⟨_, h2⟩
  have n1 : x1 ≠ a := fun e => na (by simp [e])
  have n2 : x2 ≠ a := fun e => na (by simp [e])
  have h1 := hk x1 (by simp) _ h1
  have h2 := hk x2 (by simp) _ h2
  have hE := q _ (fun b hb => Heap.get?_update_other s.heap (Obj.mapFields (·.setIfInBounds 2 (.ref x1))) (Ne.symm hb)) ⟨_, Heap.get?_update_self _ ha (Obj.isFreed_of_fields (Obj.data_mapFields da _)), Obj.cls_mapFields ..⟩
  unfold raiseNew
  refine wpAny_bind (wpAny_handled ?_)
  rw [hh]
  have hb : (Value.ref x1 != Value.ref a) = true := ref_bne n1
  first
  | (show wpAny _ _ (if (Value.ref x1 != Value.ref a) = true then _ else _) _ _ _
     rw [if_pos hb]
     first
     | exact wpAny_bind (unchained2 h1 d1 c1 h2 d2 c2 n2 (wpAny_bind (chained ha da hi (wpAny_throw hE))))
     | exact wpAny_bind (wpAny_bind (unchained2 h1 d1 c1 h2 d2 c2 n2 (chained ha da hi (wpAny_throw hE)))))
  | (refine wpAny_bind ?_
     show wpAny _ _ (if (Value.ref x1 != Value.ref a) = true then _ else _) _ _ _
     rw [if_pos hb]
     exact wpAny_bind (unchained2 h1 d1 c1 h2 d2 c2 n2 (chained ha da hi (wpAny_throw hE))))
theorem extBut_of {it a : Addr} {h h1 h2 : Heap} (x : Heap.ExtBut it h h1) (hn : h.get? a = none) (k : ∀ b, b ≠ a → h2.get? b = h1.get? b) : Heap.ExtBut it h h2 := fun b o hb e => by
  rw [k b (fun z => by rw [z, hn] at e; cases e)]
  exact x b o hb e
theorem raisy_stop {α : Type} {it : Addr} {hA : Heap} {vs : Array Value} {C : List Addr} {Q : α → Shared → Prop} (hr : Raisy prog w A.handled C s.heap) (nC : it ∉ C) (x : Heap.ExtBut it s.heap hA) (hs : s.heap.objs.size ≤ hA.objs.size) (hv : 2 < vs.size)
    (hE : ∀ h', Heap.ExtBut it s.heap h' → (∃ o, h'.get? hA.objs.size = some o ∧ o.cls = .type "StopIteration") → E (.ref hA.objs.size) { s with heap := h' }) : wpAny (model prog w) A.in1 (raiseNew (.ref hA.objs.size) : Sem α) Q E { s with heap := hA.push { cls := .type "StopIteration", data := .fields vs } } := by
  have hn : s.heap.get? hA.objs.size = none := by
    cases e : s.heap.get? hA.objs.size with
    | none => rfl
    | some o => exact absurd (Heap.lt_size e) (Nat.not_lt.mpr hs)
  refine hr.2 A.in1 α _ _ _ vs Q E rfl (fun b hb o e => Heap.get?_push_of_some _ (x b o (fun z => nC (z ▸ hb)) e)) (fun hm => ?_) (Heap.get?_push_size _ rfl) rfl hv (fun h2 k o2 => hE h2 (extBut_of (fun b o hb e => Heap.get?_push_of_some _ (x b o hb e)) hn k) o2)
  obtain ⟨o, e⟩ := hr.1 _ hm
  rw [hn] at e
  cases e
theorem nextOf_end {it l : Addr} {i : Nat} {items} {Q : Value → Shared → Prop} {C : List Addr} (hr : Raisy prog w A.handled C s.heap) (nC : it ∉ C)
    (hit : s.heap.IsListIter it l i) (hl : s.heap.IsList l items) (hx : items[i]? = none)
    (hE : ∀ h' e, Heap.ExtBut it s.heap h' → (∃ o, h'.get? e = some o ∧ o.cls = .type "StopIteration") → E (.ref e) { s with heap := h' }) :
    wpAny (model prog w) A (Builtin.SmallTypes.nextOf (.ref it)) Q E s := by
  obtain ⟨o, ho, hc, hd⟩ := id hit
  obtain ⟨ol, hol, _, nl, hdl⟩ := hl
  unfold Builtin.SmallTypes.nextOf
  refine wpAny_bind (wpAny_callSpecial?_slot (name := Str.ofString "__next__") hit.typeIs slot_listiter_next
    (wpAny_call_entry slot_listiter_next hit.typeIs entry_listiter_next ?_ (args_listiter_next _)))
  show wpAny _ _ (field (.ref it) 0 >>= _) _ _ s
  refine wpAny_bind (wpAny_field ho hd (x := .ref l) rfl ?_)
  show wpAny _ _ (if (Value.ref l == Value.none) = true then _ else _) _ _ s
  rw [if_neg (show ¬ ((Value.ref l == Value.none) = true) from Bool.false_ne_true)]
  show wpAny _ _ (field (.ref it) 1 >>= _) _ _ s
  refine wpAny_bind (wpAny_field ho hd (x := .int i 0) rfl ?_)
  show wpAny _ _ (seqItems? (.ref l) >>= _) _ _ s
  refine wpAny_bind (wpAny_seqItems hol hdl ?_)
  simp only [Int.toNat_natCast, hx]
  refine wpAny_bind (wpAny_rule (wpAny_bind (wpAny_setField ho hd (by simp) ?_)))
  show wpAny _ _ (newExc (.type "StopIteration") [] >>= _) _ _ _
  refine wpAny_bind ?_
  simp only [newExc, newTuple]
  refine wpAny_bind (wpAny_newObj_type ?_ (by size_fits))
  refine wpAny_bind (m := firstArgMember _ _) (wpAny_of_eq (a := Value.none) (by first | rfl | (simp only [firstArgMember]; rfl)) ?_)
  refine wpAny_newObj_type ?_ (by size_fits)
  dsimp only
  have x0 : Heap.ExtBut it s.heap ((s.heap.update it (Obj.mapFields fun x => x.setIfInBounds 0 Value.none)).push { cls := Value.type "tuple", data := Data.seq #[] }) := (Heap.SameBut.update ..).extBut.push _
  have z0 : s.heap.objs.size ≤ ((s.heap.update it (Obj.mapFields fun x => x.setIfInBounds 0 Value.none)).push { cls := Value.type "tuple", data := Data.seq #[] }).objs.size := by
    rw [Heap.size_push, (Heap.SameBut.update s.heap it (Obj.mapFields fun x => x.setIfInBounds 0 Value.none)).1]
    exact Nat.le_succ _
  generalize ((s.heap.update it (Obj.mapFields fun x => x.setIfInBounds 0 Value.none)).push { cls := Value.type "tuple", data := Data.seq #[] }) = hA at x0 z0 ⊢
  exact raisy_stop hr nC x0 z0 (by simp; omega) fun h' x o => hE h' _ x o
theorem tup_end {it t : Addr} {i : Nat} {items} {Q : Option Value → Shared → Prop} {C : List Addr} (hr : Raisy prog w A.handled C s.heap) (nC : it ∉ C)
    (hit : IsTupIter s.heap it t i) (ht : IsTup s.heap t items) (hx : items[i]? = none)
    (hQ : ∀ h', Heap.ExtBut it s.heap h' → Q none { s with heap := h' }) : wpAny (model prog w) A (pyNext (.ref it)) Q E s := by
  obtain ⟨o, ho, hc, hd⟩ := id hit
  obtain ⟨ol, hol, _, nl, hdl⟩ := ht
  unfold pyNext
  refine wpAny_bind (wpAny_attempt (wpAny_callSpecial?_slot (name := Str.ofString "__next__") hit.typeIs slot_tupleiter_next
    (wpAny_call_entry slot_tupleiter_next hit.typeIs entry_tupleiter_next ?_ (args_tupleiter_next _))))
  show wpAny _ _ (field (.ref it) 0 >>= _) _ _ s
  refine wpAny_bind (wpAny_field ho hd (x := .ref t) rfl ?_)
  show wpAny _ _ (if (Value.ref t == Value.none) = true then _ else _) _ _ s
  rw [if_neg (show ¬ ((Value.ref t == Value.none) = true) from Bool.false_ne_true)]
  show wpAny _ _ (field (.ref it) 1 >>= _) _ _ s
  refine wpAny_bind (wpAny_field ho hd (x := .int i 0) rfl ?_)
  show wpAny _ _ (seqItems? (.ref t) >>= _) _ _ s
  refine wpAny_bind (wpAny_seqItems hol hdl ?_)
  simp only [Int.toNat_natCast, hx]
  refine wpAny_bind (wpAny_rule (wpAny_bind (wpAny_setField ho hd (by simp) ?_)))
  show wpAny _ _ (newExc (.type "StopIteration") [] >>= _) _ _ _
  refine wpAny_bind ?_
  simp only [newExc, newTuple]
  refine wpAny_bind (wpAny_newObj_type ?_ (by size_fits))
  refine wpAny_bind (m := firstArgMember _ _) (wpAny_of_eq (a := Value.none) (by first | rfl | (simp only [firstArgMember]; rfl)) ?_)
  refine wpAny_newObj_type ?_ (by size_fits)
  dsimp only
  have x0 : Heap.ExtBut it s.heap ((s.heap.update it (Obj.mapFields fun x => x.setIfInBounds 0 Value.none)).push { cls := Value.type "tuple", data := Data.seq #[] }) := (Heap.SameBut.update ..).extBut.push _
  have z0 : s.heap.objs.size ≤ ((s.heap.update it (Obj.mapFields fun x => x.setIfInBounds 0 Value.none)).push { cls := Value.type "tuple", data := Data.seq #[] }).objs.size := by
    rw [Heap.size_push, (Heap.SameBut.update s.heap it (Obj.mapFields fun x => x.setIfInBounds 0 Value.none)).1]
    exact Nat.le_succ _
  generalize ((s.heap.update it (Obj.mapFields fun x => x.setIfInBounds 0 Value.none)).push { cls := Value.type "tuple", data := Data.seq #[] }) = hA at x0 z0 ⊢
  refine raisy_stop hr nC x0 z0 (by simp; omega) fun h' x o => ?_
  obtain ⟨o2, e2, c2⟩ := o
  refine wpAny_bind (wpAny_isInstance (T := "StopIteration") (b := true) ⟨o2, e2, c2⟩ isSubtype_stop ?_)
  exact wpAny_pure (hQ _ x)
theorem unpack_hot {t : Addr} {items : Array Value} {targets : List (Bool × (Value → Sem Unit))} {Q : Unit → Shared → Prop} {C : List Addr} (hr : Raisy prog w A.handled C s.heap) (ht : IsTup s.heap t items)
    (hn : targets.length = items.size) (hstar : targets.findIdx? (·.1) = none)
    (h : ∀ h', Heap.ExtBut s.heap.objs.size s.heap h' → wpAny (model prog w) A (assignInOrder (targets.map (·.2)) items.toList) Q E { s with heap := h' }) :
    wpAny (model prog w) A (unpack (.ref t) targets) Q E s := by
  have hlt : t ≠ s.heap.objs.size := by obtain ⟨o, ho, _⟩ := ht; exact Nat.ne_of_lt (Heap.lt_size ho)
  have nC : s.heap.objs.size ∉ C := fun hm => by
    obtain ⟨o, e⟩ := hr.1 _ hm
    exact absurd (Heap.lt_size e) (Nat.lt_irrefl _)
  unfold unpack
  rw [hn, hstar]
  refine wpAny_bind (wpAny_holding ?_)
  unfold unpackItems
  refine wpAny_bind ?_
  unfold notIterableAtAll
  refine wpAny_bind (wpAny_specialOf ht.typeIs slot_tuple_iter.lookup ?_)
  refine wpAny_pure ?_
  simp only [Bool.false_eq_true, if_false]
  refine wpAny_bind (wpAny_holding (iter_tuple ht ?_))
  refine wpAny_bind (wpAny_holding (draw_tuple hlt items.size 0 _ _ ⟨_, Heap.get?_push_size _ rfl, rfl, rfl⟩ (ht.push _) (by omega) fun h₁ hit₁ hs₁ => ?_))
  have hall : List.take items.size (List.drop 0 items.toList) = items.toList := by
    rw [List.drop_zero]; exact List.take_of_length_le (by simp)
  rw [hall, if_neg (by simp)]
  have ht₁ : IsTup h₁ t items := (ht.push _).extBut hs₁.extBut hlt
  have r1 : Raisy prog w A.handled C h₁ := hr.keeps fun b hb o e => hs₁.extBut b o (fun z => nC (z ▸ hb)) (Heap.get?_push_of_some _ e)
  refine wpAny_bind (wpAny_holding (tup_end r1 nC hit₁ ht₁ (by simp) fun h₂ he₂ => ?_))
  simp only [Option.isSome_none, Bool.false_eq_true, if_false]
  exact wpAny_pure (h h₂ fun b o hb e => he₂ b o hb (hs₁.extBut b o hb (Heap.get?_push_of_some _ e)))
theorem zip_next_hot {z TI TO i1 i2 l1 l2 : Addr} {k1 k2 : Nat} {xs ys : Array Value} {a b : Value} {Q : Fin → Shared → Prop} {C : List Addr} (hr : Raisy prog w A.handled C s.heap) (nC : z ∉ C ∧ TO ∉ C ∧ i1 ∉ C ∧ i2 ∉ C) (D : ZipApart z TI TO i1 i2 l1 l2)
    (hz : IsZip s.heap z TI TO .none) (hTI : IsPair s.heap TI (.ref i1) (.ref i2)) (hTO : IsPair s.heap TO a b)
    (h1 : s.heap.IsListIter i1 l1 k1) (h2 : s.heap.IsListIter i2 l2 k2) (hl1 : s.heap.IsList l1 xs) (hl2 : s.heap.IsList l2 ys) (hend : xs[k1]? = none ∨ ys[k2]? = none)
    (hE : ∀ h' e, (∀ c o, c ≠ z → c ≠ TO → c ≠ i1 → c ≠ i2 → s.heap.get? c = some o → h'.get? c = some o) → (∃ o, h'.get? e = some o ∧ o.cls = .type "StopIteration") → E (.ref e) { s with heap := h' }) :
    wpAny (model prog w) A (Builtin.«zip.__next__» ⟨[.ref z], []⟩) Q E s := by
  obtain ⟨n1, n2, n3, n4⟩ := nC
  show wpAny _ _ (field (.ref z) 2 >>= _) _ _ _
  refine wpAny_bind (wpAny_field hz rfl (x := .bool false) rfl ?_)
  show wpAny _ _ (field (.ref z) 3 >>= _) _ _ _
  refine wpAny_bind (wpAny_field hz rfl (x := .ref TI) rfl ?_)
  refine wpAny_bind (wpAny_seqItems hTI rfl ?_)
  show wpAny _ _ (Builtin.SmallTypes.ownedTupleIsFree (.ref z) >>= _) _ _ _
  refine wpAny_bind ?_
  unfold Builtin.SmallTypes.ownedTupleIsFree
  refine wpAny_bind (wpAny_field hz rfl (x := .none) rfl (wpAny_pure ?_))
  simp only [if_true]
  refine wpAny_bind (wpAny_rule ?_)
  refine wpAny_bind (wpAny_field hz rfl (x := .ref TO) rfl ?_)
  refine wpAny_bind (wpAny_setField_rec hz (by simp) fun h₁ hz₁ hs₁ => ?_)
  replace hz₁ : IsZip h₁ z TI TO .ellipsis := hz₁
  have r1 : Raisy prog w A.handled C h₁ := hr.keeps fun b hb o e => hs₁.extBut b o (fun q => n1 (q ▸ hb)) e
  refine wpAny_bind ?_
  simp only [List.zipIdx_cons, List.zipIdx_nil, List.forIn_cons, List.forIn_nil]
  refine wpAny_bind (wpAny_bind (wpAny_onRaise ?_))
  show wpAny _ _ (Builtin.SmallTypes.nextOf (.ref i1) >>= _) _ _ _
  cases hx : xs[k1]? with
  | none =>
    refine wpAny_bind (nextOf_end r1 n3 (h1.extBut hs₁.extBut D.i1z) (hl1.extBut hs₁.extBut D.l1z) hx fun h₂ e hs₂ he => ?_)
    obtain ⟨oe, hoe, hce⟩ := he
    have hz₂ : IsZip h₂ z TI TO .ellipsis := hs₂ _ _ D.i1z.symm hz₁
    have hez : e ≠ z := fun x => by subst x; rw [hz₂] at hoe; cases hoe; simp at hce
    refine wpAny_setField_rec hz₂ (by simp) fun h₃ _ hs₃ => hE h₃ e (fun c o c1 _ c3 _ x => hs₃.extBut _ _ c1 (hs₂ _ _ c3 (hs₁.extBut _ _ c1 x))) ⟨oe, hs₃.extBut _ _ hez hoe, hce⟩
  | some x =>
    have hy : ys[k2]? = none := by rcases hend with h | h; rw [hx] at h; cases h; exact h
    refine wpAny_bind (wpAny_nextOf_list_item (h1.extBut hs₁.extBut D.i1z) (hl1.extBut hs₁.extBut D.l1z) hx fun h₂ h1₂ hs₂ => wpAny_pure ?_)
    have hTO₂ : IsPair h₂ TO a b := hs₂.extBut _ _ D.TOi1 (hs₁.extBut _ _ D.TOz hTO)
    refine wpAny_bind (wpAny_seqItems hTO₂ rfl ?_)
    refine wpAny_bind (wpAny_updateSeq_pair hTO₂ fun h₃ hTO₃ hs₃ => ?_)
    have r3 : Raisy prog w A.handled C h₃ := (r1.keeps fun b hb o e => hs₂.extBut b o (fun q => n3 (q ▸ hb)) e).keeps fun b hb o e => hs₃.extBut b o (fun q => n2 (q ▸ hb)) e
    refine wpAny_bind (wpAny_letGo (wpAny_pure ?_))
    refine wpAny_bind (wpAny_bind (wpAny_onRaise ?_))
    show wpAny _ _ (Builtin.SmallTypes.nextOf (.ref i2) >>= _) _ _ _
    refine wpAny_bind (nextOf_end r3 n4 (((h2.extBut hs₁.extBut D.i2z).extBut hs₂.extBut D.i12.symm).extBut hs₃.extBut D.TOi2.symm)
      (((hl2.extBut hs₁.extBut D.l2z).extBut hs₂.extBut D.l2i1).extBut hs₃.extBut D.l2TO) hy fun h₄ e hs₄ he => ?_)
    obtain ⟨oe, hoe, hce⟩ := he
    have hz₄ : IsZip h₄ z TI TO .ellipsis := hs₄ _ _ D.i2z.symm (hs₃.extBut _ _ D.TOz.symm (hs₂.extBut _ _ D.i1z.symm hz₁))
    have hez : e ≠ z := fun x => by subst x; rw [hz₄] at hoe; cases hoe; simp at hce
    refine wpAny_setField_rec hz₄ (by simp) fun h₅ _ hs₅ => hE h₅ e (fun c o c1 c2 c3 c4 x => hs₅.extBut _ _ c1 (hs₄ _ _ c4 (hs₃.extBut _ _ c2 (hs₂.extBut _ _ c3 (hs₁.extBut _ _ c1 x))))) ⟨oe, hs₅.extBut _ _ hez hoe, hce⟩
theorem zip_end {z TI TO i1 i2 l1 l2 : Addr} {k1 k2 : Nat} {xs ys : Array Value} {a b : Value} {Q : Option Value → Shared → Prop} {C : List Addr} (hr : Raisy prog w A.handled C s.heap) (nC : z ∉ C ∧ TO ∉ C ∧ i1 ∉ C ∧ i2 ∉ C) (D : ZipApart z TI TO i1 i2 l1 l2)
    (hz : IsZip s.heap z TI TO .none) (hTI : IsPair s.heap TI (.ref i1) (.ref i2)) (hTO : IsPair s.heap TO a b)
    (h1 : s.heap.IsListIter i1 l1 k1) (h2 : s.heap.IsListIter i2 l2 k2) (hl1 : s.heap.IsList l1 xs) (hl2 : s.heap.IsList l2 ys) (hend : xs[k1]? = none ∨ ys[k2]? = none)
    (hQ : ∀ h', (∀ c o, c ≠ z → c ≠ TO → c ≠ i1 → c ≠ i2 → s.heap.get? c = some o → h'.get? c = some o) → Q none { s with heap := h' }) : wpAny (model prog w) A (pyNext (.ref z)) Q E s := by
  have hT : s.TypeIs (.ref z) "zip" := ⟨_, hz, rfl⟩
  have r' : Raisy prog w A.in1.handled C s.heap := hr
  unfold pyNext
  refine wpAny_bind (wpAny_attempt (wpAny_callSpecial?_slot (name := Str.ofString "__next__") hT F.slot_zip_next
    (wpAny_call_entry F.slot_zip_next hT F.entry_zip_next (zip_next_hot r' nC D hz hTI hTO h1 h2 hl1 hl2 hend fun h' e hk he => ?_) (F.args_zip_next_1 _))))
  obtain ⟨o, ho, hc⟩ := he
  refine wpAny_bind (wpAny_isInstance (T := "StopIteration") (b := true) ⟨o, ho, hc⟩ isSubtype_stop ?_)
  exact wpAny_pure (hQ _ hk)
end
end HotY
set_option Elab.async false
set_option linter.all false
set_option maxRecDepth 100000
set_option maxHeartbeats 4000000
namespace L2
open PySem PySem.Spec PyProof.Rows
/-- an exception is handled, and its contexts C are known -/
def HotQ (X : Cx) : Prop := ∃ C : List Addr, ∀ (pins : List (Addr × Obj)) (σ : St) (H : Hp) (s : Shared), Inv X pins σ H s → HotY.Raisy X.prog X.w X.A.handled C s.heap ∧ ∀ c ∈ C, H c = none ∧ c ∉ frs X.stack ∧ ∀ b, FpOk X pins H b → c ≠ b
theorem hot_blk {X : Cx} {pins : List (Addr × Obj)} {σ : St} {H : Hp} {s : Shared} {scope : Scope} {cenv : Env} {fp : List Addr} (hc : HotQ X) (I : Inv X pins σ H s) (hf : ∀ b ∈ fp, FpOk X pins H b) : HotQ (X.blk s H scope cenv fp) := by
  obtain ⟨C, hC⟩ := hc
  obtain ⟨hr, hn⟩ := hC pins σ H s I
  refine ⟨C, fun pins' σ' H' s' I' => ⟨hr.keeps fun b hb o e => ?_, fun c hcm => ?_⟩⟩
  · exact I'.base.keep b o e (hn b hb).1 (hn b hb).2.1 fun hm => (hn b hb).2.2 b (hf b hm) rfl
  · obtain ⟨o, e⟩ := hr.1 c hcm
    refine ⟨I'.base.free c o e (hn c hcm).1 fun hm => (hn c hcm).2.2 c (hf c hm) rfl, (hn c hcm).2.1, fun b hb z => ?_⟩
    rcases hb.2.2.2.1 with q | q
    · exact (hn c hcm).2.2 b (hf b q) z
    · have h1 := Heap.lt_size e
      rw [z] at h1
      exact absurd (Nat.lt_of_lt_of_le h1 q) (Nat.lt_irrefl _)
structure TurnQ (P : Program) (w : World) (K : PySem.W.Frag) (tg : Expr) (J : It) (fp : List Addr) (it : Addr) (tn : Nat → Heap → Prop) : Prop where
  mem : it ∈ fp
  obj : ∀ i h, tn i h → ∀ b ∈ fp, ∃ o, h.get? b = some o ∧ ∀ v, o.data ≠ .cell v
  keep : ∀ i h h', tn i h → (∀ b ∈ fp, ∀ o, h.get? b = some o → h'.get? b = some o) → tn i h'
  item : ∀ (X : Cx), X.prog = P → X.w = w → X.K = K → HotQ X → ∀ (i : Nat) (pins : List (Addr × Obj)) (s : Shared) (σ : St) (H : Hp) (E : Value → Shared → Prop), Inv X pins σ H s → (∀ b ∈ fp, FpOk X pins H b) → tn i s.heap → J.go i H →
    wpAny (model P w) X.A (pyNext (.ref it)) (fun r s1 => ∃ u, r = some u ∧
      wpAny (model P w) X.A (letOwnedTupleGo tg (.ref it) u) (fun _ s2 => ∃ x H', Inv X pins σ H' s2 ∧ RelV x u ∧ J.yld i H x H' ∧ tn (i + 1) s2.heap ∧ ∀ b ∈ fp, H' b = none) E s1) E s
  done : ∀ (X : Cx), X.prog = P → X.w = w → X.K = K → HotQ X → ∀ (i : Nat) (pins : List (Addr × Obj)) (s : Shared) (σ : St) (H : Hp) (E : Value → Shared → Prop), Inv X pins σ H s → (∀ b ∈ fp, FpOk X pins H b) → tn i s.heap → J.stop i H →
    wpAny (model P w) X.A (pyNext (.ref it)) (fun r s1 => r = none ∧ Inv X pins σ H s1) E s
  self : ∀ (A : Around) (i : Nat) (s : Shared) (Q : Value → Shared → Prop) (E : Value → Shared → Prop), tn i s.heap → Q (.ref it) s → wpAny (model P w) A (pyIter (.ref it)) Q E s
def PIEQ (X : Cx) (pins : List (Addr × Obj)) (σ : St) (tg : Expr) (R : It → Hp → Prop) (itv : Value) (s2 : Shared) : Prop :=
  ∃ (it : Addr) (fp : List Addr) (tn : Nat → Heap → Prop) (J : It) (H' : Hp), itv = .ref it ∧ Inv X pins σ H' s2 ∧ TurnQ X.prog X.w X.K tg J fp it tn ∧ tn 0 s2.heap ∧ (∀ b ∈ fp, FpOk X pins H' b) ∧ R J H'
structure PIQ (X : Cx) (tg iter : Expr) (wi : TI) : Prop where
  run : ∀ (pins : List (Addr × Obj)) (s : Shared) (σ : St) (H : Hp) (R : It → Hp → Prop), Inv X pins σ H s → wi σ H R →
    wpAny (model X.prog X.w) X.A (eval iter X.env) (fun v s1 => wpAny (model X.prog X.w) X.A (pyIter v) (PIEQ X pins σ tg R) X.xe s1) X.xe s
theorem turn_zipQ {P : Program} {w : World} {K : PySem.W.Frag} {elts : List Expr} {kk : Nat} {tpos : Pos} {a b z TI TO i1 i2 : Addr} (D : ZipApart z TI TO i1 i2 a b) :
    TurnQ P w K (.Tuple elts kk tpos) (Itz K a b) [z, TI, TO, i1, i2] z (fun i h => IsZip h z TI TO .none ∧ IsPair h TI (.ref i1) (.ref i2) ∧ (∃ x y, IsPair h TO x y) ∧ h.IsListIter i1 a i ∧ h.IsListIter i2 b i) where
  mem := by simp
  obj := fun i h st c hc => by
    obtain ⟨hz, hTI, ⟨x, y, hTO⟩, ⟨o1, e1, _, d1⟩, ⟨o2, e2, _, d2⟩⟩ := st
    have e' : c = z ∨ c = TI ∨ c = TO ∨ c = i1 ∨ c = i2 := by simpa using hc
    rcases e' with q | q | q | q | q
    · rw [q]; exact ⟨_, hz, fun v q => nomatch q⟩
    · rw [q]; exact ⟨_, hTI, fun v q => nomatch q⟩
    · rw [q]; exact ⟨_, hTO, fun v q => nomatch q⟩
    · rw [q]; exact ⟨o1, e1, fun v q => by rw [d1] at q; cases q⟩
    · rw [q]; exact ⟨o2, e2, fun v q => by rw [d2] at q; cases q⟩
  keep := fun i h h' st k => by
    obtain ⟨hz, hTI, ⟨x, y, hTO⟩, h1, h2⟩ := st
    exact ⟨k z (by simp) _ hz, k TI (by simp) _ hTI, ⟨x, y, k TO (by simp) _ hTO⟩, h1.at fun o q => k i1 (by simp) o q, h2.at fun o q => k i2 (by simp) o q⟩
  item := by
    intro X hP hw hK hc i pins s σ H E I hf st hg
    subst hP hw hK
    obtain ⟨hz, hTI, ⟨x0, y0, hTO⟩, h1, h2⟩ := st
    obtain ⟨xs, ys, x, y, hqx, hqy, hx, hy⟩ := hg
    obtain ⟨its, rv, p, _⟩ := I.list hqx
    obtain ⟨its2, rv2, p2, _⟩ := I.list hqy
    obtain ⟨u, hu, ru⟩ := rv.get hx
    obtain ⟨u2, hu2, ru2⟩ := rv2.get hy
    have hzl : z < s.heap.objs.size := Heap.lt_size hz
    refine wpAny_pyNext_zip_item D hz hTI hTO h1 h2 p.isList p2.isList (x := u) (y := u2) (by simpa using hu) (by simpa using hu2) fun h' z' TO' h1' h2' hT hsz hk => ?_
    refine ⟨_, rfl, wpAny_letOwnedTupleGo_zip (s := { s with heap := h' }) z' fun h'' z'' sb => ?_⟩
    have hT2 : h''.get? s.heap.objs.size = some { cls := .type "tuple", data := .seq #[u, u2] } := (sb.2 _ (Nat.ne_of_gt hzl)).trans hT
    have new : ObjOk X.prog X.w (upd H s.heap.objs.size (.tup [x, y])) h'' s.heap.objs.size (.tup [x, y]) :=
      ⟨by show 2 ≤ sizeLine; decide, [u, u2], .cons ru (.cons ru2 .nil), ⟨_, hT2, rfl, _, rfl⟩⟩
    have I1 : Inv X pins σ (upd H s.heap.objs.size (.tup [x, y])) { s with heap := h'' } :=
      I.turnedNew (t' := s.toks) (ch := [z, TI, TO, i1, i2]) (fun c o hb q => (sb.2 c (fun q' => hb (by simp [q']))).trans (hk c o (fun q' => hb (by simp [q'])) (fun q' => hb (by simp [q'])) (fun q' => hb (by simp [q'])) (fun q' => hb (by simp [q'])) q)) hf (Nat.le_refl _) new
    refine ⟨.ref s.heap.objs.size, _, I1, rfl, ⟨_, x, y, rfl, I.hok.fresh (Nat.le_refl _), rfl, fun l hl => by rw [I.list_inj hl hqx]; exact hx, fun l hl => by rw [I.list_inj hl hqy]; exact hy⟩, ⟨z'', ?_, ⟨u, u2, ?_⟩, ?_, ?_⟩, fun c hcm => ?_⟩
    · exact (sb.2 _ D.TIz).trans (hk _ _ D.TIz D.TITO D.TIi1 D.TIi2 hTI)
    · exact (sb.2 _ D.TOz).trans TO'
    · exact h1'.at fun o q => (sb.2 _ D.i1z).trans q
    · exact h2'.at fun o q => (sb.2 _ D.i2z).trans q
    · have hlt : c < s.heap.objs.size := by
        have e' : c = z ∨ c = TI ∨ c = TO ∨ c = i1 ∨ c = i2 := by simpa using hcm
        rcases e' with q | q | q | q | q
        · rw [q]; exact hzl
        · rw [q]; exact Heap.lt_size hTI
        · rw [q]; exact Heap.lt_size hTO
        · rw [q]; obtain ⟨_, e1, _⟩ := h1; exact Heap.lt_size e1
        · rw [q]; obtain ⟨_, e2, _⟩ := h2; exact Heap.lt_size e2
      rw [upd_ne (Nat.ne_of_lt hlt)]
      exact (hf c hcm).1
  done := by
    intro X hP hw hK hc i pins s σ H E I hf st hg
    subst hP hw hK
    obtain ⟨hz, hTI, ⟨x0, y0, hTO⟩, h1, h2⟩ := st
    obtain ⟨xs, ys, hqx, hqy, hend⟩ := hg
    obtain ⟨its, rv, p, _⟩ := I.list hqx
    obtain ⟨its2, rv2, p2, _⟩ := I.list hqy
    have l1 := rv.length
    have l2 := rv2.length
    have he : its.toArray[i]? = none ∨ its2.toArray[i]? = none := by
      rcases hend with q | q
      · exact .inl (by simp; omega)
      · exact .inr (by simp; omega)
    obtain ⟨C, hC⟩ := hc
    obtain ⟨hr, nC⟩ := hC pins σ H s I
    have nC : ∀ b ∈ [z, TI, TO, i1, i2], b ∉ C := fun b hb hm => (nC b hm).2.2 b (hf b hb) rfl
    exact HotY.zip_end hr ⟨nC _ (by simp), nC _ (by simp), nC _ (by simp), nC _ (by simp)⟩ D hz hTI hTO h1 h2 p.isList p2.isList he fun h' hk => ⟨rfl, I.turnedL (t' := s.toks) (ch := [z, TI, TO, i1, i2]) (fun c o hb q =>
      hk c o (fun q' => hb (by simp [q'])) (fun q' => hb (by simp [q'])) (fun q' => hb (by simp [q'])) (fun q' => hb (by simp [q'])) q) hf⟩
  self := fun A i s Q E st h => wpAny_pyIter_zip st.1 h
theorem pi_zipQ {X : Cx} {e e2 : Expr} {ta : TA} {p pos tpos : Pos} {elts : List Expr} {kk : Nat} (hg : Gl X "zip") (hm : X.mg "zip" = none) (ha : PA X [e, e2] ta)
    (hs : starEach [e, e2] X.env = (false, eval e X.env) :: starEach [e2] X.env := by rfl) (hpl : (backTo pos (starEach [e2] X.env)).any (·.1) = false := by rfl) :
    PIQ X (.Tuple elts kk tpos) (.Call (.Name "zip" p) [e, e2] [] pos) (iZip X.K ta) := by
  refine ⟨fun pins s σ H R I h => ?_⟩
  refine Call_ (ld_blt I hg hm PyProof.Rows.boot_zip (PyProof.Rows.callWith_type1 (thn (ha.run pos pins s σ H _ I h) fun us s1 ⟨vs, H1, I1, r1, q1⟩ => ?_) hs hpl))
  obtain ⟨a, b, xs, ys, ex, hqx, hqy, q⟩ := q1
  subst ex
  cases r1 with
  | cons r rr =>
    cases rr with
    | cons r' rr =>
      cases rr
      cases r
      cases r'
      obtain ⟨its, rv, p1, _⟩ := I1.list hqx
      obtain ⟨its2, rv2, p2, _⟩ := I1.list hqy
      have la : a < s1.heap.objs.size := p1.lt
      have lb : b < s1.heap.objs.size := p2.lt
      refine call_zip_2 p1.isList p2.isList fun h' hz hTI hTO h1 h2 hsz hk => wpAny_pyIter_zip hz ?_
      have I2 : Inv X pins σ H1 { s1 with heap := h' } := I1.kept (t' := s1.toks) hk
      refine ⟨s1.heap.objs.size + 4, [s1.heap.objs.size + 4, s1.heap.objs.size + 2, s1.heap.objs.size + 3, s1.heap.objs.size, s1.heap.objs.size + 1], _, _, H1, rfl, I2, turn_zipQ (PySem.W.ktu_apart s1.heap.objs.size a b la lb), ⟨hz, hTI, ⟨_, _, hTO⟩, h1, h2⟩, fun c hcm => ?_, q⟩
      have e' : c = s1.heap.objs.size + 4 ∨ c = s1.heap.objs.size + 2 ∨ c = s1.heap.objs.size + 3 ∨ c = s1.heap.objs.size ∨ c = s1.heap.objs.size + 1 := by simpa using hcm
      have hle : s1.heap.objs.size ≤ c := by
        rcases e' with z | z | z | z | z
        · rw [z]; exact Nat.le_add_right _ _
        · rw [z]; exact Nat.le_add_right _ _
        · rw [z]; exact Nat.le_add_right _ _
        · rw [z]; exact Nat.le_refl _
        · rw [z]; exact Nat.le_add_right _ _
      exact I1.fpOk hle (I1.hok.fresh hle)
section
variable {X : Cx}
theorem lc_coreQ {pins : List (Addr × Obj)} {s : Shared} {σ : St} {H : Hp} {Q : VK} {elt tg iter : Expr} {ifs : List Expr} {scope : Scope} {own : List (Str × Nat)} {pos pos' : Pos} {wi : TI} {g : TG} {tt : TT} {te : TE} {use : Option (Value → Sem Unit)} {Qf : Value → Shared → Prop}
    (hc : HotQ X) (hN : X.N.Nodup) (I : Inv X pins σ H s) (hi : PIQ X tg iter wi) (ok : BlkOk X.N X.env.scope scope own)
    (hg : ∀ (s : Shared) (H : Hp) (C : Addr) (cl : List (Str × Addr)) (fp : List Addr), HotQ (X.blk s H scope (compEnvC scope cl C X.env) fp) → PG (X.blk s H scope (compEnvC scope cl C X.env) fp) tg g) (ht : ∀ (s : Shared) (H : Hp) (C : Addr) (cl : List (Str × Addr)) (fp : List Addr), PTs (X.blk s H scope (compEnvC scope cl C X.env) fp) ifs tt)
    (he : ∀ (s : Shared) (H : Hp) (C : Addr) (cl : List (Str × Addr)) (fp : List Addr), PE (X.blk s H scope (compEnvC scope cl C X.env) fp) elt te) (hs : ∀ x, foldedSetIterable iter X.env x = pure x)
    (h : tLc wi g tt te (own.map (·.2)) σ H Q)
    (hRR : ∀ D C s' m H', Inv X pins σ H' s' → Q (.ref D) H' → s'.heap.Ns C m → FpOk X pins H' C → compPost (model X.prog X.w) X.A X.xe use Qf (.ref D) C (.ok .next) s') :
    wpAny (model X.prog X.w) X.A (comprehension (.ListComp elt [⟨tg, iter, ifs, 0⟩] scope pos) scope X.env pos' (newList []) false (eval iter X.env) use) Qf X.xe s := by
  have hfree : ∀ y ∈ scope.names, y.2 = .free → ∃ c, X.env.cells.lookup y.1 = some c := fun y hy e => by
    rcases ok.free y hy e with k | k
    · exact I.ok.has _ (.inl k)
    · exact I.ok.has _ (.inr k)
  refine wpAny_comprehension_free (use := use) rfl hs (closure_ok hfree) ok.kind (fun y hy e => by rw [ok.uniq y hy, e])
    (thn (hi.run pins s σ H _ I h) fun xv s1 hx => thn hx fun itv s2 h2 => ?_)
  obtain ⟨it, fp, tn, J, H2, e, I2, T, st2, f2, q⟩ := h2
  subst e
  refine wpAny_newObj_type (newEnv_comp ?_) (by show 0 ≤ sizeLine; decide)
  generalize hD : s2.heap.objs.size = D
  have hDn : H2 D = none := I2.hok.fresh (Nat.le_of_eq hD)
  obtain ⟨W, ⟨m0, w0⟩, turn⟩ := q D hDn
  -- the new list
  generalize hs3 : ({ s2 with heap := s2.heap.push { cls := .type "list", data := .seq ([] : List Value).toArray } } : Shared) = s3
  have I3 : Inv X pins σ (upd H2 D (.lst [])) s3 := by
    rw [← hs3]
    refine I2.laid (t' := s2.toks) (fun b o e => Heap.get?_push_of_some _ e) (Nat.le_of_eq hD) ⟨Nat.zero_le _, [], 0, .nil, ?_⟩
    rw [← hD]
    exact Heap.get?_push_size _ rfl
  have h3 : s3.heap = s2.heap.push { cls := .type "list", data := .seq ([] : List Value).toArray } := by rw [← hs3]
  have sz : ∀ b ∈ fp, b < s2.heap.objs.size := fun b hb => by
    obtain ⟨o, e, _⟩ := T.obj _ _ st2 b hb
    exact Heap.lt_size e
  have f3 : ∀ b ∈ fp, FpOk X pins (upd H2 D (.lst [])) b ∧ b < s3.heap.objs.size := fun b hb => by
    have hlt := sz b hb
    refine ⟨⟨?_, (f2 b hb).2⟩, by rw [h3, Heap.size_push]; exact Nat.lt_succ_of_lt hlt⟩
    rw [upd_ne (by rw [← hD]; exact Nat.ne_of_lt hlt)]
    exact (f2 b hb).1
  have st3 : tn 0 s3.heap := T.keep _ _ _ st2 fun b _ o e => by rw [h3]; exact Heap.get?_push_of_some _ e
  have I4 := block_start I3 ok hN f3
  have pg := hg s3 (upd H2 D (.lst [])) s3.heap.objs.size (cellsFrom (s3.heap.objs.size + 1) scope.names (cloFrom X.env.cells scope.names [])) fp (hot_blk hc I3 fun b hb => (f3 b hb).1)
  have hb := hot_blk (scope := scope) (cenv := compEnvC scope (cellsFrom (s3.heap.objs.size + 1) scope.names (cloFrom X.env.cells scope.names [])) s3.heap.objs.size X.env) hc I3 fun b hb => (f3 b hb).1
  have pt := ht s3 (upd H2 D (.lst [])) s3.heap.objs.size (cellsFrom (s3.heap.objs.size + 1) scope.names (cloFrom X.env.cells scope.names [])) fp
  have pe := he s3 (upd H2 D (.lst [])) s3.heap.objs.size (cellsFrom (s3.heap.objs.size + 1) scope.names (cloFrom X.env.cells scope.names [])) fp
  show codeAny _ _ (.compStart (.ListComp elt [⟨tg, iter, ifs, 0⟩] scope pos) 0 (.ref it) (.ref D) (compEnvC scope (cellsFrom (s3.heap.objs.size + 1) scope.names (cloFrom X.env.cells scope.names [])) s3.heap.objs.size X.env)) (compPost (model X.prog X.w) X.A X.xe use Qf (.ref D) s3.heap.objs.size) { s3 with heap := pushCells (s3.heap.push { cls := .type "dict", data := .dict #[] }) scope.names }
  have nfp : ∀ b ∈ fp, (upd H2 D (.lst [])) b = none := fun b hb => (f3 b hb).1.1
  generalize hce : compEnvC scope (cellsFrom (s3.heap.objs.size + 1) scope.names (cloFrom X.env.cells scope.names [])) s3.heap.objs.size X.env = ce at I4 pg pt pe hb ⊢
  have cL : ce.locals = s3.heap.objs.size := by subst hce; rfl
  generalize hH3 : upd H2 D (.lst []) = H3 at I3 I4 pg pt pe hb w0 nfp f3
  generalize hs4 : ({ s3 with heap := pushCells (s3.heap.push { cls := .type "dict", data := .dict #[] }) scope.names } : Shared) = s4 at I4 ⊢
  have st4 : tn 0 s4.heap := T.keep _ _ _ st3 fun b _ o e => by rw [← hs4]; exact pushCells_keeps _ _ _ _ (Heap.get?_push_of_some _ e)
  have stat : ∀ {σ' : St} {H' : Hp} {s' : Shared}, Inv (X.blk s3 H3 scope ce fp) [] σ' H' s' → (∀ b ∈ fp, H' b = none) → ∀ b ∈ fp, FpOk (X.blk s3 H3 scope ce fp) [] H' b := fun {σ' H' s'} I' hn b hb =>
    ⟨hn b hb, (I'.ok.exf b hb).1, I'.ok.exfs b hb, .inl hb, fun x c e => (I'.ok.exf b hb).2 x c e, fun p hp => absurd (show p ∈ ([] : List (Addr × Obj)) ++ [] from hp) (by simp)⟩
  have loop : codeAny (model X.prog X.w) X.A (.compLoop (.ListComp elt [⟨tg, iter, ifs, 0⟩] scope pos) 0 (.ref it) (.ref D) ce) (compPost (model X.prog X.w) X.A X.xe use Qf (.ref D) s3.heap.objs.size) s4 := by
    refine compLoop_any (fun n s' => ∃ i H', Inv (X.blk s3 H3 scope ce fp) [] (wipe σ (own.map (·.2))) H' s' ∧ tn i s'.heap ∧ (∀ b ∈ fp, H' b = none) ∧ W i n H') ?_ m0 ⟨0, H3, I4, st4, nfp, w0⟩
    rintro n s5 ⟨i, H5, I5, st5, n5, w5⟩
    rcases turn i n H5 w5 with ⟨stop, qq⟩ | ⟨go, Nx, hNx, step⟩
    · have td := T.done (X.blk s3 H3 scope ce fp) rfl rfl rfl hb i [] s5 _ H5 (fun _ _ => False) I5 (stat I5 n5) st5 stop
      refine thnF td fun r s6 ⟨hr, I6⟩ => ?_
      subst hr
      -- back in the def's context
      have I7 : Inv X pins σ H5 s6 := I3.call' (ch := fp) I6.os I6.base I6.hok I6.bare fun b hb => ⟨(f3 b hb).1.2.2.2.1, (f3 b hb).1.2.1, (f3 b hb).1.2.2.2.2.1, (f3 b hb).1.2.2.2.2.2⟩
      have nC : H5 s3.heap.objs.size = none := by
        have z : H5 ce.locals = none := I6.free
        rw [cL] at z
        exact z
      obtain ⟨m, hn, _⟩ := I6.loc
      have hn : s6.heap.Ns ce.locals m := hn
      rw [cL] at hn
      exact hRR D s3.heap.objs.size s6 m H5 I7 qq hn (I3.fpOk (Nat.le_refl _) nC)
    · have ti := T.item (X.blk s3 H3 scope ce fp) rfl rfl rfl hb i [] s5 _ H5 (fun _ _ => False) I5 (stat I5 n5) st5 go
      refine thnF ti fun r s6 ⟨u, hr, h6⟩ => ?_
      subst hr
      refine thnF h6 fun _ s7 ⟨x, H7, I7, r7, y7, st7, n7⟩ => ?_
      have I7' := I7.pinned (stat I7 n7) (T.obj _ _ st7)
      refine thnF (pg.run _ s7 _ H7 x u _ I7' r7 (step x H7 y7)) fun _ s8 ⟨σ8, H8, I8, hw8, q8⟩ => ?_
      refine thnF (pt.run _ s8 σ8 H8 _ I8 q8) fun b s9 ⟨H9, I9, q9⟩ => ?_
      -- the turn's end
      have fin : ∀ {s' : Shared} {H' : Hp}, Inv (X.blk s3 H3 scope ce fp) ([] ++ pinsAt fp s7.heap) σ8 H' s' → Nx H' → ∃ m, m < n ∧ ∃ i H', Inv (X.blk s3 H3 scope ce fp) [] (wipe σ (own.map (·.2))) H' s' ∧ tn i s'.heap ∧ (∀ b ∈ fp, H' b = none) ∧ W i m H' := fun {s' H'} I' nx => by
        obtain ⟨m', hm, w'⟩ := hNx H' nx
        have pin' : ∀ b ∈ fp, ∀ o, s7.heap.get? b = some o → s'.heap.get? b = some o ∧ H' b = none := fun b hb o e =>
          let z := I'.pin (b, o) (List.mem_append_right _ (List.mem_append_right _ (mem_pinsAt hb e)))
          ⟨z.1, z.2.1⟩
        have hl : (wipe σ (own.map (·.2))).length = σ8.length := by rw [← hw8, wipe_length]
        refine ⟨m', hm, i + 1, H', (I'.unpinned (pins := [])).weak hl (fun j v e => ?_), T.keep _ _ _ st7 fun b hb o e => (pin' b hb o e).1, fun b hb => ?_, w'⟩
        · rw [← hw8] at e
          exact (wipe_some e).1
        · obtain ⟨o, e, _⟩ := T.obj _ _ st7 b hb
          exact (pin' b hb o e).2
      cases b with
      | false =>
        simp only [Bool.false_eq_true, if_false] at q9 ⊢
        exact fin I9 q9
      | true =>
        simp only [if_true] at q9 ⊢
        refine thnF (pe.run _ s9 σ8 H9 _ I9 q9) fun z s10 ⟨yv, H10, I10, r10, acc, hD10, hz10, nx⟩ => ?_
        exact app_ok (X := X.blk s3 H3 scope ce fp) I10 hD10 hz10 r10 fun s11 I11 => fin I11 nx
  exact codeAny_compStart_list loop (T.self X.A 0 _ _ _ st4 loop)
theorem pe_lcQ {elt tg iter : Expr} {ifs : List Expr} {scope : Scope} {own : List (Str × Nat)} {pos : Pos} {wi : TI} {g : TG} {tt : TT} {te : TE} (hc : HotQ X) (hN : X.N.Nodup) (hi : PIQ X tg iter wi) (ok : BlkOk X.N X.env.scope scope own)
    (hg : ∀ (s : Shared) (H : Hp) (C : Addr) (cl : List (Str × Addr)) (fp : List Addr), HotQ (X.blk s H scope (compEnvC scope cl C X.env) fp) → PG (X.blk s H scope (compEnvC scope cl C X.env) fp) tg g) (ht : ∀ (s : Shared) (H : Hp) (C : Addr) (cl : List (Str × Addr)) (fp : List Addr), PTs (X.blk s H scope (compEnvC scope cl C X.env) fp) ifs tt)
    (he : ∀ (s : Shared) (H : Hp) (C : Addr) (cl : List (Str × Addr)) (fp : List Addr), PE (X.blk s H scope (compEnvC scope cl C X.env) fp) elt te) (hs : ∀ x, foldedSetIterable iter X.env x = pure x := by intro _; rfl) :
    PE X (.ListComp elt [⟨tg, iter, ifs, 0⟩] scope pos) (tLc wi g tt te (own.map (·.2))) := by
  refine ⟨fun pins s σ H Q I h => ?_⟩
  rw [eval_ListComp]
  refine lc_coreQ hc hN I hi ok hg ht he hs h fun D C s' m H' I' q hn f => ⟨m, hn, fun h'' sb => ?_⟩
  obtain ⟨f0, f1, f2, f3, f4, f5⟩ := f
  exact ⟨.ref D, H', I'.turned (t' := s'.toks) (fun b o hb e => (sb.2 b hb).trans e) f0 f1 f3 f4 f5, rfl, q⟩
theorem pg_tupQ {es : List Expr} {k : Nat} {t : TGs} {n : Nat} {pos : Pos} (hc : HotQ X) (h : PGs X es t)
    (hn : (assignEach es X.env).length = n := by rfl) (hst : (assignEach es X.env).findIdx? (·.1) = none := by rfl) : PG X (.Tuple es k pos) (gTup X.K n t) := by
  refine ⟨fun pins s σ H v u Q I r hw => ?_⟩
  obtain ⟨a, xs, e1, hq, hl, hw⟩ := hw
  subst e1
  cases r
  obtain ⟨its, rv, ht, hz⟩ := I.tuple hq
  obtain ⟨C, hC⟩ := hc
  rw [assign_Tuple]
  refine wpAny_bind (wpAny_standAt (HotY.unpack_hot (hC pins σ H s I).1 ht (by simp [hn, ← hl, rv.length]) hst fun h' hx => ?_))
  have I1 : Inv X pins σ H { s with heap := h' } := I.kept (t' := s.toks) fun b o e => hx b o (Nat.ne_of_lt (Heap.lt_size e)) e
  exact h.run pins _ σ H xs _ Q I1 (by simpa using rv) hw
end
end L2
namespace DL
open PySem L2
inductive JIQ (X : Cx) (tg iter : Expr) (t : EI) : Prop where
  | mk {wi : TI} (a : PIQ X tg iter wi) (b : LI X.K wi t) : JIQ X tg iter t
section
variable {X : Cx}
theorem ji_zipQ {e e2 : Expr} {ea : EA} {p pos tpos : Pos} {elts : List Expr} {kk : Nat} (hg : Gl X "zip") (hm : X.mg "zip" = none) (ha : JA X [e, e2] ea) (hs : starEach [e, e2] X.env = (false, eval e X.env) :: starEach [e2] X.env := by rfl) (hpl : (backTo pos (starEach [e2] X.env)).any (·.1) = false := by rfl) :
    JIQ X (.Tuple elts kk tpos) (.Call (.Name "zip" p) [e, e2] [] pos) (iZ ea) :=
  ⟨pi_zipQ hg hm ha.pa hs hpl, fun P s G Q σ H R h r k => by
    refine ha.la P s G _ σ H _ h r fun xs G1 us H1 s1 w1 r1 ll h1 => ?_
    clear ll
    split at h1
    · rename_i x y
      obtain ⟨u, v, rfl, r2, r3⟩ := reps2 r1
      cases e1 : lkL G1 x with
      | none => rw [e1] at h1; exact h1.elim
      | some ds =>
        cases e2 : lkL G1 y with
        | none => rw [e1, e2] at h1; exact h1.elim
        | some es =>
          rw [e1, e2] at h1
          obtain ⟨a, ys, rfl, sa, qa, za⟩ := lk_sq w1 r2 e1
          obtain ⟨b, zs, rfl, sb, qb, zb⟩ := lk_sq w1 r3 e2
          refine ⟨a, b, ys, zs, rfl, sa, sb, k _ _ G1 _ H1 s1 w1 ⟨by rw [List.length_zipWith]; omega, fun P' G H i hP st w kp => ?_⟩ h1⟩
          obtain ⟨as', sa', qa'⟩ := lk_later r2 e1 hP st w kp.1
          obtain ⟨bs', sb', qb'⟩ := lk_later r3 e2 hP st w kp.2
          refine ⟨fun d hd => ?_, fun hi => ⟨as', bs', sa', sb', by rw [← qa'.length, ← qb'.length]; rw [List.length_zipWith] at hi; omega⟩⟩
          rw [List.getElem?_zipWith] at hd
          cases f1 : ds[i]? with
          | none => rw [f1] at hd; cases hd
          | some d1 =>
            cases f2 : es[i]? with
            | none => rw [f1, f2] at hd; cases hd
            | some d2 =>
              rw [f1, f2] at hd
              cases hd
              obtain ⟨v1, g1, p1⟩ := qa'.get f1
              obtain ⟨v2, g2, p2⟩ := qb'.get f2
              refine ⟨⟨as', bs', v1, v2, sa', sb', g1, g2⟩, fun y H' hy => ?_⟩
              obtain ⟨T, y1, y2, rfl, hT, rfl, fa, fb⟩ := hy
              have t1 := fa as' sa'
              have t2 := fb bs' sb'
              rw [g1] at t1
              rw [g2] at t2
              cases t1
              cases t2
              exact rep_pair w hT p1 p2
    · exact h1.elim⟩
variable {elt tg iter e : Expr} {es ifs : List Expr} {scope : Scope} {own : List (Str × Nat)} {pos : Pos} {wi : TI} {ei : EI} {g : TG} {t : Tg} {tt : TT} {et : ET} {te : TE} {ee : EE}
theorem JIQ.pi (h : JIQ X tg iter ei) : PIQ X tg iter (upI X.K ei) := by
  obtain ⟨a, b⟩ := h
  exact ⟨fun pins s σ H R I ⟨P, s', G, Q', h1, h2, h3⟩ => a.run pins s σ H R I (b P s' G Q' σ H R h1 h2 h3)⟩
theorem li_up {K : PySem.W.Frag} : LI K (upI K ei) ei := fun P s G Q σ H R h1 h2 h3 => ⟨P, s, G, Q, h1, h2, h3⟩
theorem lg_up {K : PySem.W.Frag} : LG K (upG K t) t := fun P s s' G σ H d v R h1 h2 h3 h4 => ⟨P, s, s', G, d, h1, h2, h3, h4⟩
theorem jg_tupQ {es : List Expr} {k : Nat} {is : List Nat} {n : Nat} (hc : HotQ X) (h : JGs X es is) (hl : is.length = n := by rfl) (hn : (assignEach es X.env).length = n := by rfl) (hst : (assignEach es X.env).findIdx? (·.1) = none := by rfl) : JG X (.Tuple es k pos) (.tp is) :=
  ⟨pg_tupQ hc h.pg hn hst, fun P s s' G σ H d v R e r rp k => by
    cases d with
    | tup ds =>
      obtain ⟨a, xs, rfl, g, p, rr, z, q⟩ := rep_t rp
      have e' : setAll s is ds = some s' := e
      have hlen : ∀ (is : List Nat) (ds : List D) (s s' : Sd), setAll s is ds = some s' → ds.length = is.length := by
        intro is
        induction is with
        | nil => intro ds s s' e; cases ds with
          | nil => rfl
          | cons => cases e
        | cons i is ih => intro ds s s' e; cases ds with
          | nil => cases e
          | cons d ds => rw [List.length_cons, List.length_cons, ih ds _ _ e]
      refine ⟨a, xs, rfl, SqT.of rr, by rw [← q.length, hlen _ _ _ _ e', hl], ?_⟩
      exact h.lg P s s' G σ H ds xs R e' r q k
    | _ => cases e⟩
theorem j_lcQ (hc : HotQ X) (hN : X.N.Nodup) (hi : JIQ X tg iter ei) (ok : BlkOk X.N X.env.scope scope own) (hg : ∀ (s : Shared) (H : Hp) (C : Addr) (cl : List (Str × Addr)) (fp : List Addr), HotQ (X.blk s H scope (compEnvC scope cl C X.env) fp) → JG (X.blk s H scope (compEnvC scope cl C X.env) fp) tg t)
    (ht : ∀ (s : Shared) (H : Hp) (C : Addr) (cl : List (Str × Addr)) (fp : List Addr), JTs (X.blk s H scope (compEnvC scope cl C X.env) fp) ifs et) (he : ∀ (s : Shared) (H : Hp) (C : Addr) (cl : List (Str × Addr)) (fp : List Addr), JE (X.blk s H scope (compEnvC scope cl C X.env) fp) elt ee)
    (hv : ∀ i ∈ t.ix, i ∈ own.map (·.2) := by decide) (hs : ∀ x, foldedSetIterable iter X.env x = pure x := by intro _; rfl) : JE X (.ListComp elt [⟨tg, iter, ifs, 0⟩] scope pos) (eLc ei t et ee (own.map (·.2))) :=
  ⟨pe_lcQ hc hN hi.pi ok (fun s H C cl fp hq => (hg s H C cl fp hq).pg) (fun s H C cl fp => (ht s H C cl fp).pt) (fun s H C cl fp => (he s H C cl fp).pe) hs, le_lc li_up lg_up (ht X.s_0 X.H_0 0 [] []).lt (he X.s_0 X.H_0 0 [] []).le hv⟩
end
end DL
set_option Elab.async false
set_option linter.all false
set_option maxRecDepth 100000
set_option maxHeartbeats 4000000
namespace L2Q
open PySem PySem.Spec PyProof.Rows L2 HotX
abbrev St := L2.St
/-- what is kept of the exception's object -/
def Zq (B : Heap) (H : Hp) (cls : Value) (d : Option Addr) : Obj → Prop := fun o => o.cls = cls ∧ o.dict = d ∧ ∀ vs : Array Value, o.data = .fields vs → vs[2]? = some .none ∨
  ∃ (x1 : Addr) (o1 : Obj) (v1 : Array Value), vs[2]? = some (.ref x1) ∧ B.get? x1 = some o1 ∧ o1.data = .fields v1 ∧ v1[2]? = some .none ∧ H x1 = none
theorem Zq.steady {B : Heap} {H : Hp} {cls : Value} {d : Option Addr} : PXN.Steady1 (Zq B H cls d) := fun o v h => by
  refine ⟨PXN.steady_cls o v h.1, PXN.steady_dict o v h.2.1, ?_⟩
  have h3 := h.2.2
  obtain ⟨c, dd, dt, sl⟩ := o
  cases dt with
  | fields vs0 =>
    intro vs e
    have e2 : vs0.setIfInBounds 1 v = vs := Data.fields.inj e
    have e3 : (vs0.setIfInBounds 1 v)[2]? = vs0[2]? := by
      first
      | exact Array.getElem?_setIfInBounds_ne (by decide)
      | simp [Array.getElem?_setIfInBounds]
    rw [← e2, e3]
    exact h3 vs0 rfl
  | _ =>
    intro vs e
    first
    | exact Data.noConfusion e
    | cases e
theorem Zq.of_n {B : Heap} {H : Hp} {cls : Value} {d : Option Addr} {o : Obj} (h : L2N.Zn cls d o) : Zq B H cls d o := ⟨h.1, h.2.1, fun vs e => .inl (h.2.2 vs e)⟩
/-- an exception in the air of X -/
def XE (X : Cx) (W : WX) (u : Value) (s' : Shared) : Prop :=
  ∃ (a : Addr) (B : Heap) (sI : Shared) (pins : List (Addr × Obj)) (σ : St) (H : Hp) (cls : Value) (d : Option Addr),
    u = .ref a ∧ Inv X pins σ H sI ∧ (∀ b o, sI.heap.get? b = some o → b ∉ frs X.stack → B.get? b = some o) ∧ sI.heap.UpToSlots s'.heap ∧
      Sky B X.stack a (Zq B H cls d) X.env.locals s'.heap ∧ H a = none ∧ s'.os = sI.os ∧ AllBare s'.gens ∧ W cls d σ H
def Takes (X : Cx) (W : WX) : Prop := ∀ u s', XE X W u s' → X.xe u s'
def CX (P : Program) (w : World) (outer : List Env) (H : Hp) (s : Shared) (E : XK) (u : Value) (s' : Shared) : Prop :=
  ∃ (a : Addr) (B : Heap) (H' : Hp) (cls : Value) (d : Option Addr), u = .ref a ∧ HandSPX.FlyingZ B outer a (Zq B H' cls d) s'.heap ∧ HOk P w H' B ∧ UB (frs outer) H H' s.heap B s'.heap ∧ H' a = none ∧ s'.os = s.os ∧ AllBare s'.gens ∧ E cls d H'
theorem sky_imp {B : Heap} {l : List Env} {a : Addr} {Z Z' : Obj → Prop} {L : Addr} {h : Heap} (z : ∀ o, Z o → Z' o) (x : Sky B l a Z L h) : Sky B l a Z' L h := by
  rcases x with ⟨h1, h2, h3, oe, vs, h4, h5, h6⟩ | x | x
  · exact .inl ⟨h1, h2, h3, oe, vs, h4, z _ h5, h6⟩
  · exact .inr (.inl (L2H.flyingZ_imp z x))
  · exact .inr (.inr ⟨x.1, x.2.1, x.2.2.1, L2H.tracedZ_imp z x.2.2.2⟩)
theorem XE.of_n {X : Cx} {W : WX} {u : Value} {s' : Shared} (x : L2N.XE X W u s') : XE X W u s' := by
  obtain ⟨a, B, sI, pins, σ, H, cls, d, e, I, nb, up, sky, r⟩ := x
  exact ⟨a, B, sI, pins, σ, H, cls, d, e, I, nb, up, sky_imp (fun o z => Zq.of_n z) sky, r⟩
theorem Takes.n {X : Cx} {W : WX} (t : Takes X W) : L2N.Takes X W := fun u s' x => t u s' (XE.of_n x)
section
variable {X : Cx} {pins : List (Addr × Obj)} {σ : St} {H : Hp} {sI s s' : Shared} {B : Heap} {W : WX} {E : XK}
theorem XE.of_call (I : Inv X pins σ H s) (hW : ∀ cls d H', E cls d H' → W cls d σ H') {u : Value} (c : CX X.prog X.w X.stack H s E u s') : XE X W u s' := by
  obtain ⟨a, B, H', cls, d, rfl, fl, hok, ub, na, os, ag, hE⟩ := c
  obtain ⟨G, g1, g2⟩ := restrict s'.heap fun b => (B.get? b).isSome || decide (b ∈ frs X.stack)
  have st : B.StaysIn s'.heap := fl.1
  have gB : ∀ b o, B.get? b = some o → G.get? b = some o := fun b o e => by
    rw [g1 b (by simp [e])]
    exact st b o e
  have gF : ∀ b, b ∈ frs X.stack → G.get? b = s'.heap.get? b := fun b hb => g1 b (by simp [hb])
  have og : ∀ b o, G.get? b = some o → s'.heap.get? b = some o ∧ ((B.get? b).isSome = true ∨ b ∈ frs X.stack) := fun b o e => by
    cases q : ((B.get? b).isSome || decide (b ∈ frs X.stack)) with
    | false => rw [g2 b q] at e; cases e
    | true =>
      rw [g1 b q] at e
      exact ⟨e, by simpa [Bool.or_eq_true] using q⟩
  refine ⟨a, B, { s with heap := G, gens := s'.gens, drawn := s'.drawn, toks := s'.toks }, pins, σ, H', cls, d, rfl, ?_, fun b o e hb => ?_, Heap.UpToSlots.of_keeps fun b o e => (og b o e).1, .inr (.inl fl), na, os, ag, hW _ _ _ hE⟩
  · refine I.call (ch := []) ⟨fun b o e n hb _ => gB b o (ub.keep b o e n hb), fun b o e n hb _ => ?_, fun b o e n _ => ub.free b o e n, fun b o e _ => ?_, ub.tups, ub.frzs, ub.tbls⟩ (hok.kept gB) ag (fun _ z => nomatch z)
    · obtain ⟨sl, q⟩ := ub.slot b o e hb
      exact ⟨sl, by rw [gF b hb]; exact q⟩
    · by_cases hb : b ∈ frs X.stack
      · obtain ⟨sl, q⟩ := ub.slot b o e hb
        exact ⟨_, by rw [gF b hb]; exact q⟩
      · obtain ⟨o', q⟩ := ub.there b o e hb
        exact ⟨o', gB b o' q⟩
  · obtain ⟨e', h⟩ := og b o e
    rcases h with h | h
    · obtain ⟨o', q⟩ := Option.isSome_iff_exists.mp h
      have z := st b o' q
      rw [e'] at z; cases z
      exact q
    · exact absurd h hb
theorem XE.new {a : Addr} {oe : Obj} {vs : Array Value} {cls : Value} {d : Option Addr} (I : Inv X pins σ H sI) (k : ∀ b o, sI.heap.get? b = some o → s'.heap.get? b = some o) (hne : sI.heap.get? a = none) (he : s'.heap.get? a = some oe)
    (hz : Zq (PySem.W.hideAll sI.heap (frs X.stack)) H cls d oe) (hd : oe.data = .fields vs) (h1 : vs[1]? = some .none) (na : H a = none) (os : s'.os = sI.os) (ag : AllBare s'.gens) (w : W cls d σ H) : XE X W (.ref a) s' := by
  refine ⟨a, PySem.W.hideAll sI.heap (frs X.stack), sI, pins, σ, H, cls, d, rfl, I, fun b o e hb => PySem.W.hideAll_get _ e hb, Heap.UpToSlots.of_keeps k,
    .inl ⟨fun b o e => k b o (PySem.W.of_hideAll _ e), ?_, ?_, oe, vs, he, hz, hd, h1⟩, na, os, ag, w⟩
  · cases q : (PySem.W.hideAll sI.heap (frs X.stack)).get? a with
    | none => rfl
    | some o =>
      have z := PySem.W.of_hideAll _ q
      rw [hne] at z; cases z
  · exact Heap.FunFrames.of_keeps (fun b o e _ => ⟨o, k b o e, rfl⟩) (funFrames_none I.stack fun b hb => PySem.W.hideAll_none _ hb)
theorem XE.leave (hs : X.stack = X.env :: X.outer) (hf : X.env.frame = some X.env.locals) (hex : X.ex = []) {E₁ : Value → Shared → Prop} (hW : ∀ cls d σ H, W cls d σ H → E cls d H) {u : Value} (x : XE X W u s') :
    wpAny (model X.prog X.w) X.A (leaving X.env u) (fun _ s'' => CX X.prog X.w X.outer X.H_0 X.s_0 E u s'') E₁ s' := by
  obtain ⟨a, B, sI, pins, σ, H, cls, d, rfl, I, nb, up, sky, na, os, ag, w⟩ := x
  have hfr : X.A.frames = some (X.env :: X.outer) := by rw [I.ok.frames, hs]
  have nst : ∀ b o, X.s_0.heap.get? b = some o → b ∉ X.fs → b ∉ frs X.stack := fun b o e hb hm => by
    rcases List.mem_cons.mp (I.stkSub b hm) with z | z
    · have h1 := Heap.lt_size e
      have h2 := I.ok.above
      rw [z] at h1
      exact absurd (Nat.lt_of_lt_of_le h1 h2) (Nat.lt_irrefl _)
    · exact hb z
  have hex' : ∀ b, b ∉ X.ex := fun b hb => by rw [hex] at hb; cases hb
  have hokB := I.inGround nb
  have fin : ∀ h', HandSPX.FlyingZ B X.outer a (Zq B H cls d) h' → s'.heap.UpToSlots h' → CX X.prog X.w X.outer X.H_0 X.s_0 E (.ref a) { s' with heap := h' } := fun h' fl up' => by
    refine ⟨a, B, H, cls, d, rfl, fl, hokB, ⟨fun b o e n hb => nb b o (I.base.keep b o e n hb (hex' b)) (nst b o e hb), fun b o e hb => ?_, fun b o e n => I.base.free b o e n (hex' b), fun b o e hb => ?_, I.base.tups, I.base.frzs, I.base.tbls⟩,
      na, os.trans I.os, ag, hW _ _ _ _ w⟩
    · obtain ⟨_, o₀, e₀, hnf⟩ := I.ok.funs.mem hb
      rw [e] at e₀; cases e₀
      obtain ⟨sl, e1⟩ := I.base.slot b o e (I.ok.frf b hb) hb (hex' b)
      obtain ⟨sl2, e2⟩ := up b _ e1 hnf
      obtain ⟨sl3, e3⟩ := up' b _ e2 hnf
      exact ⟨sl3, e3⟩
    · obtain ⟨o', e1⟩ := I.base.there b o e (hex' b)
      exact ⟨o', nb b o' e1 (nst b o e hb)⟩
  rw [hs] at sky
  rcases sky with ⟨hB, hn, hl, oe, vs, he, hz, hd, h1⟩ | fl | hd
  · exact PXN.leaving_firstZ Zq.steady hfr hl hf he hB hn hd h1 hz fin
  · exact PXN.leaves_onZ Zq.steady hfr hf fl fin
  · exact HandSPX.leaves_heldZ hf hd fin
theorem takes_of (hs : X.stack = X.env :: X.outer) (hf : X.env.frame = some X.env.locals) (hex : X.ex = []) {E₁ : Value → Shared → Prop}
    (hx : X.xe = fun e s' => wpAny (model X.prog X.w) X.A (leaving X.env e) (fun _ s'' => CX X.prog X.w X.outer X.H_0 X.s_0 E e s'') E₁ s') : Takes X (fun cls d _ H => E cls d H) := fun u s' x => by
  rw [hx]
  exact XE.leave (W := fun cls d _ H => E cls d H) (E := E) hs hf hex (fun _ _ _ _ h => h) x
theorem unpin {pins2 : List (Addr × Obj)} (I : Inv X pins2 σ H s) (sub : ∀ p ∈ pins, p ∈ pins2) : Inv X pins σ H s := I.pins_of fun p hp => I.pin p (List.mem_append_right _ (sub p hp))
theorem hotQ_of {a : Addr} {oe : Obj} {vs : Array Value} (hh : X.A.handled = some (.ref a)) (ha : (a, oe) ∈ X.pn) (hd : oe.data = .fields vs) (hz : vs[2]? = some .none ∨ ∃ (x1 : Addr) (o1 : Obj) (v1 : Array Value), vs[2]? = some (.ref x1) ∧ (x1, o1) ∈ X.pn ∧ o1.data = .fields v1 ∧ v1[2]? = some .none) : HotQ X := by
  have sep : ∀ (p : Addr × Obj) pins σ H s, p ∈ X.pn → Inv X pins σ H s → H p.1 = none ∧ p.1 ∉ frs X.stack ∧ ∀ b, FpOk X pins H b → p.1 ≠ b := fun p pins σ H s hp I => by
    have q := I.pin p (List.mem_append_left _ hp)
    exact ⟨q.2.1, fun hm => (List.mem_cons.mp (I.stkSub p.1 hm)).elim q.2.2.1 q.2.2.2.1, fun b hb => hb.2.2.2.2.2 p (List.mem_append_left _ hp)⟩
  rcases hz with hz | ⟨x1, o1, v1, hz, h1, d1, c1⟩
  · refine ⟨[a], fun pins σ H s I => ⟨?_, fun c hc => ?_⟩⟩
    · rw [hh]
      exact HotY.raisy_one (I.pin _ (List.mem_append_left _ ha)).1 hd hz
    · rw [List.mem_singleton.mp hc]
      exact sep (a, oe) pins σ H s ha I
  · refine ⟨[a, x1], fun pins σ H s I => ⟨?_, fun c hc => ?_⟩⟩
    · rw [hh]
      exact HotY.raisy_two (I.pin _ (List.mem_append_left _ ha)).1 hd hz (I.pin _ (List.mem_append_left _ h1)).1 d1 c1
    · simp only [List.mem_cons, List.not_mem_nil, or_false] at hc
      rcases hc with rfl | rfl
      · exact sep (c, oe) pins σ H s ha I
      · exact sep (c, o1) pins σ H s h1 I
theorem pin_ctx {a : Addr} {oe : Obj} {vs : Array Value} {cls : Value} {d : Option Addr} (J : Inv X pins σ H s) (fl : HandSPX.FlyingZ B (X.env :: X.outer) a (Zq B H cls d) s.heap) (hd : oe.data = .fields vs) (hz : Zq B H cls d oe) (hf : X.env.frame = some X.env.locals) :
    ∃ pins2, (∀ p ∈ pins, p ∈ pins2) ∧ Inv X pins2 σ H s ∧ HotQ (X.suite a ((a, oe) :: (X.pn ++ pins2))) := by
  rcases hz.2.2 vs hd with q | ⟨x1, o1, v1, q, b1, d1, c1, f1⟩
  · exact ⟨pins, fun _ h => h, J, hotQ_of (a := a) (oe := oe) rfl List.mem_cons_self hd (.inl q)⟩
  · have nfr : x1 ∉ frs (X.env :: X.outer) := fun hm => by
      have := (fl.2.2.1.mem hm).1
      rw [b1] at this
      cases this
    refine ⟨(x1, o1) :: pins, fun p h => List.mem_cons_of_mem _ h, J.pins_of fun p hp => ?_, hotQ_of (a := a) (oe := oe) rfl List.mem_cons_self hd (.inr ⟨x1, o1, v1, q, List.mem_cons_of_mem _ (List.mem_append_right _ List.mem_cons_self), d1, c1⟩)⟩
    rcases List.mem_cons.mp hp with rfl | h
    · refine ⟨fl.1 _ _ b1, f1, fun z => nfr (List.mem_filterMap.mpr ⟨X.env, List.mem_cons_self, by rw [hf]; exact congrArg some z.symm⟩), fun hm => ?_, fun v e => ?_⟩
      · obtain ⟨e, he, q⟩ := List.mem_filterMap.mp hm
        exact nfr (List.mem_filterMap.mpr ⟨e, List.mem_cons_of_mem _ he, q⟩)
      · have e' : o1.data = .cell v := e
        rw [d1] at e'
        cases e'
    · exact J.pin p (List.mem_append_right _ h)
end
section
variable {X : Cx} {x n : Str} {c : Value} {i : Nat} {body suite : List Stmt} {b₀ : Stmt} {np pos pos' : Pos} {tb : WX → TS} {ts : Addr → Value → Option Addr → TS} {Wout : WX}
theorem ps_try_asQ (hs : X.stack = X.env :: X.outer) (hf : X.env.frame = some X.env.locals) (hN : X.N.Nodup) (hi : X.N[i]? = some n) (hln : X.env.kindOf n = some .local) (hc : Names X x c) (tk : Takes X Wout)
    (hb : ∀ (W : WX) (pn : List (Addr × Obj)) (xe : Value → Shared → Prop), Takes (X.tr pn xe) W → PassesOwn (model X.prog X.w) X.A X.env xe → PSs (X.tr pn xe) body (tb W))
    (hsu : ∀ (a : Addr) (oe : Obj) (cls : Value) (d : Option Addr) (pn : List (Addr × Obj)), Zc cls d oe → (∃ vs, oe.data = .fields vs) → HotQ (X.suite a ((a, oe) :: pn)) → PSs (X.suite a ((a, oe) :: pn)) (b₀ :: suite) (ts a cls d)) :
    PS X (.Try body [.ExceptHandler (some (.Name x np)) (some n) (b₀ :: suite) pos'] [] [] pos) (fun D σ H => tb (wAs X.K c i ts Wout D) D σ H) := by
  refine ⟨fun pins s σ H D I h => ?_⟩
  have ok := I.ok
  have hfr : X.A.frames = some (X.env :: X.outer) := by rw [ok.frames, hs]
  have hloc : Loc X.env.scope n := .inl hln
  refine wpAny_Try_except ?_
  refine wpAny_mono ((hb (wAs X.K c i ts Wout D) (X.pn ++ pins) (fun e s₁ => wpAny (model X.prog X.w) X.A (noteFrame e X.env) (fun _ s₂ => wpAny (model X.prog X.w) X.A (setFlight e none) (fun _ s₃ =>
    wpAny (model X.prog X.w) X.A (handleBy e X.env [.ExceptHandler (some (.Name x np)) (some n) (b₀ :: suite) pos']) (SP X pins D) X.xe s₃) X.xe s₂) X.xe s₁) (fun u s' xx => ?_) PassesOwn.looking).run [] s σ H D (I.toTry _) h) (fun f s1 hsp => ?_) (fun e s1 he => he)
  · -- the catch
    obtain ⟨a, B, sI, pins', σ', H', cls, d, rfl, J', nb, up, sky, na, os, ag, b, hb1, hyes, hno⟩ := xx
    have J : Inv X pins σ' H' sI := J'.ofTry ok
    have sky' : Sky B (X.env :: X.outer) a (Zq B H' cls d) X.env.locals s'.heap := by rw [← hs]; exact sky
    show wpAny (model X.prog X.w) X.A (noteFrame (.ref a) X.env) _ _ _
    refine L2N.Sky.land Zq.steady hfr hf sky' fun h3 fl3 up3 => ?_
    have J3 : Inv X pins σ' H' { s' with heap := h3 } := J.landed nb fl3.1 (up.trans up3) os ag
    obtain ⟨oe3, vs3, he3, hz3, hd3⟩ := fl3.there
    have notFr : ∀ {h : Heap} {o : Obj} {vs : Array Value}, h.FunFrames B (X.env :: X.outer) → h.get? a = some o → o.data = .fields vs → a ∉ frs (X.env :: X.outer) := fun {h o vs} ff e dd hm => by
      obtain ⟨_, o', e', hnf⟩ := ff.mem hm
      rw [e] at e'; cases e'
      exact hnf _ dd
    have nfr := notFr fl3.2.2.1 he3 hd3
    have nL : a ≠ X.env.locals := fun z => nfr (List.mem_filterMap.mpr ⟨X.env, List.mem_cons_self, by rw [hf, z]⟩)
    have nF : a ∉ X.fs := fun hm => by
      obtain ⟨e, he, q⟩ := List.mem_filterMap.mp hm
      exact nfr (List.mem_filterMap.mpr ⟨e, List.mem_cons_of_mem _ he, q⟩)
    have S3 := J3.suite he3 hd3 na nL nF
    refine wpAny_handleBy_cons (codeAny_handlers_test ?_) (by intro q; cases q)
    have LT : PySem.W.Looks (model X.prog X.w) h3 (typeOf (.ref a)) cls := fun A Q E s k q => wpAny_typeOf_ref (k _ _ he3) (by rw [hz3.1]; exact q)
    have LM := PySem.W.exm_one (M := model X.prog X.w) (J3.kIn) LT hb1
    have test : ∀ {Q : Value → Shared → Prop} {E : Value → Shared → Prop}, Q c { s' with heap := h3 } → wpAny (model X.prog X.w) (X.A.mark (some (.ref a))) (eval (.Name x np) X.env) Q E { s' with heap := h3 } := fun {Q E} q => by
      obtain ⟨hg, hdbg, hm | ⟨hm, hv, hnn⟩⟩ := hc
      · exact ld_glob (X := X.suite a ((a, oe3) :: (X.pn ++ pins))) S3 hg hm q hdbg
      · exact ld_blt (X := X.suite a ((a, oe3) :: (X.pn ++ pins))) S3 hg hm hv q hnn hdbg
    refine test (LM.here ?_)
    cases b with
    | true =>
      refine codeAny_handlers_suite_as ?_
      refine HandSPX.lands_againZ fl3 fun h4 fl4 up4 => ?_
      have J4 : Inv X pins σ' H' { s' with heap := h4 } := J.landed nb fl4.1 ((up.trans up3).trans up4) os ag
      obtain ⟨oe4, vs4, he4, hz4, hd4⟩ := fl4.there
      obtain ⟨pins2, sub, J5, hot⟩ : ∃ pins2, (∀ p ∈ pins, p ∈ pins2) ∧ Inv X pins2 σ' H' { s' with heap := h4 } ∧ HotQ (X.suite a ((a, oe4) :: (X.pn ++ pins2))) := pin_ctx J4 fl4 hd4 hz4 (by rw [hf])
      have S4 := J5.suite he4 hd4 na nL nF
      refine store_ok (X := X.suite a ((a, oe4) :: (X.pn ++ pins2))) (v := .ref a) S4 hN hi hloc rfl (fun s5 S5 => ?_) (.inr hln)
      refine wpAny_mono ((hsu a oe4 cls d (X.pn ++ pins2) ⟨hz4.1, hz4.2.1⟩ ⟨_, hd4⟩ hot).run [] s5 _ H' _ S5 (hyes rfl a na)) (fun f s6 hsp => ?_) (fun _ _ z => False.elim z)
      have end_ : ∀ {σ6 : St} {H6 : Hp} {Q : Shared → Prop}, Inv (X.suite a ((a, oe4) :: (X.pn ++ pins2))) [] σ6 H6 s6 → (∀ s7, Inv X pins (σ6.set i none) H6 s7 → Q s7) →
          wpAny (model X.prog X.w) X.A (do bindName X.env n .none; unbindBehindTheSuite X.env n pos') (fun _ s7 => Q s7) X.xe s6 := fun {σ6 H6 Q} S6 hq => gone_ok (unpin (S6.unsuite ok) sub) hN hi hln hq
      cases f with
      | next =>
        obtain ⟨σ6, H6, S6, q6⟩ := hsp
        exact end_ S6 fun s7 J7 => ⟨_, _, J7, q6⟩
      | brk =>
        obtain ⟨σ6, H6, S6, q6⟩ := hsp
        exact end_ S6 fun s7 J7 => ⟨_, _, J7, q6⟩
      | cont =>
        obtain ⟨σ6, H6, S6, q6⟩ := hsp
        exact end_ S6 fun s7 J7 => ⟨_, _, J7, q6⟩
      | ret u =>
        obtain ⟨v6, σ6, H6, S6, r6, q6⟩ := hsp
        exact end_ S6 fun s7 J7 => ⟨_, _, _, J7, r6, q6⟩
    | false =>
      show wpAny _ X.A (handleBy (.ref a) X.env []) _ _ _
      refine wpAny_handleBy_nil ?_
      obtain ⟨k1, k2, k3, oe, vs, T, oT, ts', he, hz, hd, h1, hr⟩ := id fl3
      unfold PySem.passOn
      refine wpAny_bind (wpAny_field he hd h1 ?_)
      rw [if_neg (show ¬ ((Value.ref T == Value.none) = true) from by simp)]
      have fin : wpAny (model X.prog X.w) X.A (setFlight (.ref a) X.env.frame) (fun _ s4 => wpAny (model X.prog X.w) X.A (throw (.ref a) : Sem Flow) (SP X pins D) X.xe s4) X.xe { s' with heap := h3 } := by
        rw [hf]
        refine HandSPX.setFlight_upZ fl3 fun h4 hh4 up4 => wpAny_throw (tk _ _ ?_)
        exact ⟨a, B, sI, pins, σ', H', cls, d, rfl, J, nb, (up.trans up3).trans up4, .inr (.inr (by rw [hs]; exact hh4)), na, os, ag, hno rfl⟩
      first
        | exact wpAny_bind (wpAny_pure (wpAny_bind fin))
        | exact wpAny_bind fin
  · cases f with
    | next =>
      obtain ⟨σ', H', J', q⟩ := hsp
      exact wpAny_execs_nil ⟨σ', H', J'.ofTry ok, q⟩
    | brk =>
      obtain ⟨σ', H', J', q⟩ := hsp
      exact ⟨σ', H', J'.ofTry ok, q⟩
    | cont =>
      obtain ⟨σ', H', J', q⟩ := hsp
      exact ⟨σ', H', J'.ofTry ok, q⟩
    | ret u =>
      obtain ⟨v, σ', H', J', r, q⟩ := hsp
      exact ⟨v, σ', H', J'.ofTry ok, r, q⟩
theorem passAt (tk : Takes X Wout) (σ : St) : PassesAt (L2Q.CX X.prog X.w) X σ (WE Wout σ) := fun _ _ _ e s' I c => tk e s' (XE.of_call I (fun _ _ _ h => h) c)
end
end L2Q
set_option Elab.async false
set_option linter.all false
set_option maxRecDepth 100000
set_option maxHeartbeats 4000000
namespace DL
open PySem PySem.Spec PyProof.Rows L2
section
variable {X : Cx} {Y : Wx} {K : PySem.W.Frag} {e : Expr} {es : List Expr} {pos : Pos} {C m : Str}
structure CalQ (P : Program) (w : World) (K : PySem.W.Frag) (mg : Str → Option Value) (base : Heap) (k : Nat) (x : Str) (ps : List Str) (F : Sx) : Prop where
  ex : ∃ f fd, FnOk P w K mg base (L2Q.CX P w) k f fd ps (LfX K ps.length F) ∧ mg x = some (.ref f) ∧ PySem.W.keepIn K (.ref f) = true ∧ Binds K fd ps []
theorem jq_cal {k : Nat} {ps : List Str} {F : Sx} {x : Str} {p : Pos} {ea : EAX} (c : CalQ X.prog X.w K X.mg X.base k x ps F) (hr : Room k X.A) (tk : L2Q.Takes X Y.w) (hg : Gl X x) (ha : JAx X Y (e :: es) ea) (hK : X.K = K := by rfl) (hlen : (e :: es).length = ps.length := by rfl)
    (hdb : (x == ("__debug__" : Str)) = false := by decide) (he : starEach (e :: es) X.env = (false, eval e X.env) :: starEach es X.env := by rfl) (hpl : (backTo pos (starEach es X.env)).any (·.1) = false := by rfl) : JEx X Y (.Call (.Name x p) (e :: es) [] pos) (eCallX F ea) := by
  subst hK
  obtain ⟨f, fd, h1, h2, h3, h4⟩ := c.ex
  obtain ⟨a, b⟩ := ha
  rw [← hlen] at h1
  exact ⟨pe_callS h1 hr hg h2 h3 h4 (fun σ => L2Q.passAt tk σ) a hdb he hpl, lex_call b⟩
structure CalMQ (P : Program) (w : World) (K : PySem.W.Frag) (mg : Str → Option Value) (base : Heap) (k : Nat) (C m : Str) (ps : List Str) (F : Sx) : Prop where
  ex : ∃ fd, FnOk P w K mg base (L2Q.CX P w) k (He.ma K (He.ga K C) m) fd ps (LfX K ps.length F) ∧ Cls K (He.ga K C) ∧ Meth K (He.ga K C) m (He.ma K (He.ga K C) m) ∧ Binds K fd ps []
theorem jq_meth {k : Nat} {ps : List Str} {F : Sx} {o : Expr} {eo : EE} {ea : EAX} {apos : Pos} {pl : Sem Bool} (c : CalMQ X.prog X.w K X.mg X.base k C m ps F) (hr : Room k X.A) (tk : L2Q.Takes X Y.w) (ho : JE X o eo) (ha : JAx X Y (e :: es) ea) (hK : X.K = K := by rfl) (hlen : (e :: es).length + 1 = ps.length := by rfl)
    (hst : starEach (e :: es) X.env = (false, eval e X.env) :: starEach es X.env := by rfl) (hpl : (backTo pos (starEach es X.env)).any (·.1) = false := by rfl)
    (ht : eval (.Call (.Attribute o m apos) (e :: es) [] pos) X.env = (do let ov ← eval o X.env; standAt apos.atName; let (f, first) ← holding [ov] (getMethod ov m pl); callWith pos f first (backTo pos (starEach (e :: es) X.env)) (backToKw pos (keywordEach [] X.env))) := by rfl) :
    JEx X Y (.Call (.Attribute o m apos) (e :: es) [] pos) (eMethX C m F eo ea) := by
  subst hK
  obtain ⟨fd, h1, h2, h3, h4⟩ := c.ex
  rw [← hlen] at h1
  obtain ⟨a, b⟩ := ha
  exact ⟨pe_methX ho.pe h2 h3 h1 hr h4 (fun σ => L2Q.passAt tk σ) a hst hpl ht, lex_meth ho.le b⟩
theorem fnq_never {P : Program} {w : World} {K : PySem.W.Frag} {mg : Str → Option Value} {base : Heap} {k : Nat} {f : Addr} {fd : FuncData} {ps : List Str} {F : Sx} (h1 : FnOk P w K mg base (L2Q.CX P w) k f fd ps (LfX K ps.length F)) : FK P w K mg base k f fd ps (nev F) := by
  refine ⟨fun vs H Q E h => h.1, fun A outer s H args us vs Q E hr e0 hb r hsp => ?_⟩
  obtain ⟨hl, P', ds, G, Q', wo, rp, hf, kk⟩ := hsp
  have h := h1.run A outer s H args us vs Q (fun _ _ _ => False) hr e0 hb r ⟨hl, P', ds, G, Q', fun _ _ => False, wo, rp, hf, kk, fun _ _ _ _ _ _ _ _ z => z⟩
  refine codeAny_mono h fun r s' hq => ?_
  cases r with
  | error e =>
    obtain ⟨a, B, H', cls, d, _, _, _, _, _, _, _, z⟩ := hq
    exact z.elim
  | ok fl => cases fl <;> exact hq
theorem calMQ_never {P : Program} {w : World} {K : PySem.W.Frag} {mg : Str → Option Value} {base : Heap} {k : Nat} {ps : List Str} {F : Sx} (c : CalMQ P w K mg base k C m ps F) : CalM P w K mg base k C m ps (nev F) :=
  let ⟨fd, h1, h2, h3, h4⟩ := c.ex; ⟨fd, fnq_never h1, h2, h3, h4⟩
theorem calMQ_ok {P : Program} {w : World} {K : PySem.W.Frag} {mg : Str → Option Value} {base : Heap} {ps : List Str} {k : Nat} {F : Sx} (c : Cls K (He.ga K C)) (hm : Meth K (He.ga K C) m (He.ma K (He.ga K C) m)) (h : ∃ fd, FnOk P w K mg base (L2Q.CX P w) k (He.ma K (He.ga K C) m) fd ps (LfX K ps.length F) ∧ Binds K fd ps []) : CalMQ P w K mg base k C m ps F :=
  let ⟨fd, a, b⟩ := h; ⟨fd, a, c, hm, b⟩
theorem calQ_never {P : Program} {w : World} {mg : Str → Option Value} {base : Heap} {k : Nat} {x : Str} {ps : List Str} {F : Sx} (c : CalQ P w K mg base k x ps F) : Cal P w K mg base k x ps (nev F) :=
  let ⟨f, fd, h1, h2⟩ := c.ex; ⟨f, fd, fnq_never h1, h2⟩
end
section
variable {P : Program} {w : World} {K : PySem.W.Frag} {mg : Str → Option Value} {base : Heap} {C m : Str}
theorem fkQ_ok {x qual : Str} {params : Arguments} {body : List Stmt} {scope : Scope} {kws : List (Str × V)} {dvs : List V} {f : Addr} {fd : FuncData} {N ps : List Str} {k : Nat} {F : Sx} {es : ES}
    (FF : FunD K x qual params body scope dvs kws f fd) (S : FnScope N ps scope)
    (hJ : ∀ (cdv : Value) (A : Around) (outer : List Env) (s : Shared) (H : Hp) (E : XK), Room k (A.deeper (envOfC qual scope s.heap.objs.size f cdv)) → L2Q.Takes (cxOf (L2Q.CX P w) P w K mg base N qual scope f cdv A outer s H E) (wE E).w →
      PassesOwn (model P w) (A.deeper (envOfC qual scope s.heap.objs.size f cdv)) (envOfC qual scope s.heap.objs.size f cdv) (cxOf (L2Q.CX P w) P w K mg base N qual scope f cdv A outer s H E).xe → JSs (cxOf (L2Q.CX P w) P w K mg base N qual scope f cdv A outer s H E) (wE E) body es)
    (hR : ∀ ds G Q U, F ds G Q U → es (finX G Q U) (startD N.length ds) G) : FnOk P w K mg base (L2Q.CX P w) (k + 1) f fd ps (LfX K ps.length F) := by
  refine FF.ok S (fun vs H Q E h => h.1) (fun cdv A outer s H vs Q E hr h => ?_)
  obtain ⟨_, P', ds, G, Q', U, wo, r, hf, kk, kx⟩ := h
  have j := hJ cdv A outer s H E hr (L2Q.takes_of rfl rfl rfl rfl) (passes_of rfl)
  refine ⟨_, j.ps, ?_⟩
  refine ⟨P', startD N.length ds, G, finX G Q' U, hR ds G Q' U hf, rl_start wo r, ?_, ?_, ?_, ?_, ?_⟩
  · intro s' G' σ' H' st rl hq
    obtain ⟨d2, G2, fz, q2⟩ := hq
    obtain ⟨b1, b2, b3⟩ := fz K P' H H' .non wo st rl.wo rep_non
    exact kk d2 G2 .non H' b1 b2 b3 q2
  · intro d G' v H' st w' rp hq
    obtain ⟨d2, G2, fz, q2⟩ := hq
    obtain ⟨b1, b2, b3⟩ := fz K P' H H' v wo st w' rp
    exact kk d2 G2 v H' b1 b2 b3 q2
  · intro s' G' σ' H' st rl hq
    exact hq.elim
  · intro s' G' σ' H' st rl hq
    exact hq.elim
  · intro x s' G' cls d σ' H' st rl rx hq
    obtain ⟨G2, fz, q2⟩ := hq
    obtain ⟨b1, b2, b3⟩ := fz K P' H H' cls d wo st rl.wo rx
    exact kx x G2 cls d H' b1 b2 b3 q2
theorem calQ_ok {x : Str} {st : Stmt} {N ps : List Str} {k : Nat} {F : Sx} {es : ES} (D : Df K mg x st) (S : FnScope N ps (defScope st))
    (hb : ∀ (kV doc pm : Value) (an : Option Addr) (cdv ct : Value) (us : List Value), us.length = ps.length → bindArgs (PySem.W.fnOf x x (defArgs st) (defBody st) (defScope st) .none kV doc pm an cdv ct) ⟨us, []⟩ = pure (ps.zip us))
    (hJ : ∀ (f : Addr) (cdv : Value) (A : Around) (outer : List Env) (s : Shared) (H : Hp) (E : XK), Room k (A.deeper (envOfC x (defScope st) s.heap.objs.size f cdv)) → L2Q.Takes (cxOf (L2Q.CX P w) P w K mg base N x (defScope st) f cdv A outer s H E) (wE E).w →
      PassesOwn (model P w) (A.deeper (envOfC x (defScope st) s.heap.objs.size f cdv)) (envOfC x (defScope st) s.heap.objs.size f cdv) (cxOf (L2Q.CX P w) P w K mg base N x (defScope st) f cdv A outer s H E).xe → JSs (cxOf (L2Q.CX P w) P w K mg base N x (defScope st) f cdv A outer s H E) (wE E) (defBody st) es)
    (hR : ∀ ds G Q U, F ds G Q U → es (finX G Q U) (startD N.length ds) G) : CalQ P w K mg base (k + 1) x ps F := by
  obtain ⟨f, fd, h1, h2⟩ := D.ex
  exact ⟨f, fd, fkQ_ok h1 S (hJ f) hR, h2, h1.kp, h1.bindsN hb⟩
theorem fk_methQ {P : Program} {w : World} {K : PySem.W.Frag} {mg : Str → Option Value} {base : Heap} {q : Str} {st : Stmt} {N ps : List Str} {k : Nat} {F : Sx} {es : ES} (D : DfM K C m q st) (S : FnScope N ps (defScope st))
    (hb : ∀ (kV doc pm : Value) (an : Option Addr) (cdv ct : Value) (us : List Value), us.length = ps.length → bindArgs (PySem.W.fnOf m q (defArgs st) (defBody st) (defScope st) .none kV doc pm an cdv ct) ⟨us, []⟩ = pure (ps.zip us))
    (hJ : ∀ (f : Addr) (cdv : Value) (A : Around) (outer : List Env) (s : Shared) (H : Hp) (E : XK), Room k (A.deeper (envOfC q (defScope st) s.heap.objs.size f cdv)) → L2Q.Takes (cxOf (L2Q.CX P w) P w K mg base N q (defScope st) f cdv A outer s H E) (wE E).w →
      PassesOwn (model P w) (A.deeper (envOfC q (defScope st) s.heap.objs.size f cdv)) (envOfC q (defScope st) s.heap.objs.size f cdv) (cxOf (L2Q.CX P w) P w K mg base N q (defScope st) f cdv A outer s H E).xe → JSs (cxOf (L2Q.CX P w) P w K mg base N q (defScope st) f cdv A outer s H E) (wE E) (defBody st) es)
    (hR : ∀ ds G Q U, F ds G Q U → es (finX G Q U) (startD N.length ds) G) : ∃ fd, FnOk P w K mg base (L2Q.CX P w) (k + 1) (He.ma K (He.ga K C) m) fd ps (LfX K ps.length F) ∧ Binds K fd ps [] := by
  obtain ⟨fd, h1⟩ := D.ex
  exact ⟨fd, fkQ_ok h1 S (hJ _) hR, h1.bindsN hb⟩
end
section
variable {X : Cx} {Y : Wx} {body suite : List Stmt} {b₀ : Stmt} {x n : Str} {cv : Value} {i : Nat} {np pos pos' : Pos} {ns : List Str} {tb : ES} {ts : Addr → Addr → Xd → ES} {K : PySem.W.Frag}
theorem js_tryAsQ (tk : L2Q.Takes X Y.w) (hs : X.stack = X.env :: X.outer) (hf : X.env.frame = some X.env.locals) (hN : X.N.Nodup) (hi : X.N[i]? = some n) (hln : X.env.kindOf n = some .local) (hc : Names X x cv) (hm : ∀ m ∈ ns, PySem.W.exmOne K (.ref (He.ga K m)) cv = some (isSub m x))
    (hb : ∀ (W : WX) (pn : List (Addr × Obj)) (xe : Value → Shared → Prop), L2Q.Takes (X.tr pn xe) W → PassesOwn (model X.prog X.w) X.A X.env xe → JSs (X.tr pn xe) ⟨W⟩ body tb)
    (hsu : ∀ (a dd : Addr) (x : Xd) (oe : Obj) (pn : List (Addr × Obj)), x.c ∈ ns → Zc (.ref (He.ga K x.c)) (dOf dd x) oe → (∃ vs, oe.data = .fields vs) → HotQ (X.suite a ((a, oe) :: pn)) → JSs (X.suite a ((a, oe) :: pn)) y0 (b₀ :: suite) (ts a dd x)) (hK : X.K = K := by rfl) :
    JS X Y (.Try body [.ExceptHandler (some (.Name x np)) (some n) (b₀ :: suite) pos'] [] [] pos) (sTryAs ns x i tb ts) := by
  subst hK
  refine ⟨L2Q.ps_try_asQ (ts := tsUp X.K ns ts) (tb := fun W => upS X.K ⟨W⟩ tb) hs hf hN hi hln hc tk (fun W pn xe t po => (hb W pn xe t po).ps) (fun a oe cls d pn hz hv hot => ⟨fun pins s σ H M I h => ?_⟩), fun P s G N σ H M h r k => ?_⟩
  · obtain ⟨x, dd, rfl, hx, rfl, h⟩ := h
    exact (hsu a dd x oe pn hx hz hv hot).ps.run pins s σ H M I h
  · refine ⟨P, s, G, _, h, r, k.nx, k.rt, k.bk, k.ct, fun x s' G' cls d σ' H' st rl rx hx => ?_⟩
    obtain ⟨hx, h⟩ := hx
    refine ⟨isSub x.c _, by rw [rx.1]; exact hm x.c hx, fun e a ha => ?_, fun e => ?_⟩
    · rw [if_pos e] at h
      obtain ⟨dd, ed, re⟩ := repX_d rx
      refine ⟨x, dd, rx.1, hx, ed, P, _, G', _, h a dd, rl.set (re a), ?_, ?_, ?_, ?_, ?_⟩
      · intro s2 G2 σ2 H2 st2 rl2 q
        exact k.nx _ G2 _ H2 (st.trans st2) (rl2.none i) q
      · intro d2 G2 v2 H2 st2 w2 r2 q
        exact k.rt d2 G2 v2 H2 (st.trans st2) w2 r2 q
      · intro s2 G2 σ2 H2 st2 rl2 q
        exact k.bk _ G2 _ H2 (st.trans st2) (rl2.none i) q
      · intro s2 G2 σ2 H2 st2 rl2 q
        exact k.ct _ G2 _ H2 (st.trans st2) (rl2.none i) q
      · intro _ _ _ _ _ _ _ _ _ _ q
        exact q
    · rw [if_neg (by rw [e]; exact Bool.false_ne_true)] at h
      exact k.xr x s' G' cls d σ' H' st rl rx h
end
theorem js_raiseTN {X : Cx} {Y : Wx} {K : PySem.W.Frag} {pos : Pos} {x m : Str} {j : Nat} {p p2 pos2 : Pos} (tk : L2N.Takes X Y.w) (o : XtK K X.mg x) (hg : Gl X x) (hc : X.calm = true) (hK : X.K = K := by rfl) (hdb : (x == ("__debug__" : Str)) = false := by decide) :
    JS X Y (.Raise (some (.Call (.Name x p) [.Constant (.str m) j p2] [] pos)) none pos2) (sRaise x) := by
  subst hK
  refine ⟨L2N.ps_raise hc tk (L2H.pmk5_own PySem.F.excBase_ValueError o.fe o.gC o.kC (raises_own o.bC o.tC) hg hdb).pmk, fun P s G N σ H M h r k => ?_⟩
  exact k.xr ⟨x, none⟩ s G _ none σ H (Step.refl _ _) r ⟨rfl, rfl⟩ h
theorem takes0Q {X : Cx} : L2Q.Takes X y0.w := fun u s' ⟨a, B, sI, pins, σ, H, cls, d, e, I, nb, up, sky, na, os, ag, w⟩ => w.elim
end DL
set_option Elab.async false
set_option linter.all false
set_option maxRecDepth 100000
set_option maxHeartbeats 4000000
namespace DL
open PySem PySem.Spec PyProof.Rows L2 LN
/-- a slice of a list as a new owned list -/
@[simp] def eSlLO (te : EE) (tl th : EO) : EE := fun s G Q => te s G fun x G1 => tl s G1 fun l G2 => th s G2 fun u G3 => match lkL G3 x with
  | some ds => ∀ p, G3 p = none → Q (.ref p) (gput G3 p (.lst (cutD ds l u)))
  | none => False
end DL
set_option Elab.async false
set_option linter.all false
set_option maxRecDepth 100000
set_option maxHeartbeats 4000000
namespace L2
open PySem PySem.Spec PyProof.Rows
theorem pet_tup {X : Cx} {es : List Expr} {t : TA} {pos : Pos} {x1} (h : PAT X es t) : PET X (.Tuple es x1 pos) (tTup t) := by
  intro pins s σ H Q h0 I hq
  refine wpAny_Tuple_spliced (thn (h pos pins s σ H _ h0 I hq) fun us s1 ⟨xs, H1, I1, r, z, q⟩ => ⟨by rw [← r.length]; exact z, ?_⟩)
  have hf : H1 s1.heap.objs.size = none := I1.hok.fresh (Nat.le_refl _)
  refine ⟨.ref s1.heap.objs.size, upd H1 s1.heap.objs.size (.tup xs), I1.laid (t' := s1.toks) (fun b u e => Heap.get?_push_of_some _ e) (Nat.le_refl _) ?_, rfl, q _ hf⟩
  exact ⟨z, us, r, ⟨_, Heap.get?_push_size _ rfl, rfl, _, rfl⟩⟩
end L2
namespace DL
open PySem PySem.Spec PyProof.Rows L2
inductive JET (X : Cx) (e : Expr) (t : EE) : Prop where
  | mk {te : TE} (a : PET X e te) (b : LE X.K te t) : JET X e t
inductive JAT (X : Cx) (es : List Expr) (t : EA) : Prop where
  | mk {te : TA} (a : PAT X es te) (b : LA X.K es.length te t) : JAT X es t
inductive JST (X : Cx) (Y : Wx) (st : Stmt) (t : ES) : Prop where
  | mk {ts : TS} (a : PST X st ts) (b : LS X.K Y ts t) : JST X Y st t
inductive JSsT (X : Cx) (Y : Wx) (st : List Stmt) (t : ES) : Prop where
  | mk {ts : TS} (a : PSsT X st ts) (b : LS X.K Y ts t) : JSsT X Y st t
def eRepl (y z : Str) (eo : EE) : EE := fun s G Q => eo s G fun d G1 => match d with
  | .str x => x.length + (x.length + 1) * z.length ≤ 16777216 ∧ Q (.str (Txt.replace x y z)) G1
  | _ => False
section
variable {X : Cx} {Y : Wx} {K : PySem.W.Frag} {e : Expr} {es : List Expr} {st : Stmt} {rest : List Stmt} {pos : Pos} {et eu : ES}
theorem JET.of {t : EE} (h : JE X e t) : JET X e t := by
  obtain ⟨a, b⟩ := h
  exact ⟨CwR.PET.of a, b⟩
theorem JST.of (h : JS X Y st et) : JST X Y st et := by
  obtain ⟨a, b⟩ := h
  exact ⟨PST.of a, b⟩
theorem JSsT.of (h : JSs X Y rest et) : JSsT X Y rest et := by
  obtain ⟨a, b⟩ := h
  exact ⟨PSsT.of a, b⟩
theorem le_repl {y z : Str} {te : TE} {eo : EE} (h : LE K te eo) : LE K (CwR.tReplC te y z) (eRepl y z eo) := fun P s G Q σ H R q r k => by
  refine h P s G _ σ H _ q r fun d G1 v H1 s1 w1 r1 h1 => ?_
  cases d with
  | str x => exact ⟨x, rep_s r1, h1.1, k _ G1 _ H1 s1 w1 rep_str h1.2⟩
  | _ => exact h1.elim
theorem jet_repl {o : Expr} {y z : Str} {j k : Nat} {c0 c1 apos : Pos} {eo : EE} (ho : JE X o eo) (hyz : (y == z) = false := by decide)
    (hst : starEach [.Constant (.str y) j c0, .Constant (.str z) k c1] X.env = [(false, eval (.Constant (.str y) j c0) X.env), (false, eval (.Constant (.str z) k c1) X.env)] := by rfl)
    (hbase : attributeBase o "replace" X.env (eval o X.env) = eval o X.env := by rfl) (hline : (apos.endLine == pos.line) = true := by rfl) :
    JET X (.Call (.Attribute o "replace" apos) [.Constant (.str y) j c0, .Constant (.str z) k c1] [] pos) (eRepl y z eo) := by
  obtain ⟨a, b⟩ := ho
  exact ⟨CwR.pet_replC a hyz hst hbase hline, le_repl b⟩
theorem jat_nil : JAT X [] eNil := ⟨pat_nil, la_nil⟩
theorem jat_cons {ee : EE} {ea : EA} (ha : JET X e ee) (hr : JAT X es ea) (hs : starEach (e :: es) X.env = (false, eval e X.env) :: starEach es X.env := by rfl) : JAT X (e :: es) (eCons ee ea) := by
  obtain ⟨a1, b1⟩ := ha
  obtain ⟨a2, b2⟩ := hr
  exact ⟨pat_cons a1 a2 hs, la_cons b1 b2⟩
theorem jet_tup {x1} {ea : EA} (h : JAT X es ea) : JET X (.Tuple es x1 pos) (eTup ea) := by
  obtain ⟨a, b⟩ := h
  refine ⟨pet_tup a, ?_⟩
  intro P s G Q σ H R q r k
  refine b P s G _ σ H _ q r fun xs G1 us H1 s1 w1 r1 _ h1 => ?_
  refine ⟨by rw [← r1.length]; exact h1.1, fun p hp => ?_⟩
  obtain ⟨f1, f2⟩ := w1.fresh hp
  have st : Step G1 H1 G1 (upd H1 p (.tup us)) := Step.new hp
  exact k _ G1 _ _ (s1.trans st) (w1.new hp) (rep_tup f1 f2 upd_same h1.1 (r1.step st)) h1.2
theorem jst_ret {ee : EE} (he : JET X e ee) : JST X Y (.Return (some e) pos) (sRet ee) := by
  obtain ⟨a, b⟩ := he
  exact ⟨CwR.pst_ret a, fun P s G N σ H M h r k => b P s G _ σ H _ h r fun d G' v H' st w rp q => k.rt d G' v H' st w rp q⟩
theorem jst_if {c : Expr} {a b : List Stmt} {ec : ET} (hc : JT X c ec) (ha : JSsT X Y a et) (hb : JSsT X Y b eu) : JST X Y (.If c a b pos) (sIf ec et eu) := by
  obtain ⟨a1, b1⟩ := ha
  obtain ⟨a2, b2⟩ := hb
  refine ⟨CwR.pst_if hc.pt a1 a2, fun P s G N σ H M h r k => ?_⟩
  refine hc.lt P s G _ σ H _ h r fun b G' H' st w q => ?_
  cases b with
  | true => exact b1 P s G' N σ H' M q (r.step st w) (k.step st)
  | false => exact b2 P s G' N σ H' M q (r.step st w) (k.step st)
theorem jsst_cons (h1 : JST X Y st et) (h2 : JSsT X Y rest eu) : JSsT X Y (st :: rest) (sSeq et eu) := by
  obtain ⟨a1, b1⟩ := h1
  obtain ⟨a2, b2⟩ := h2
  exact ⟨psst_cons a1 a2, ls_seq b1 b2⟩
theorem jsst_one (h1 : JST X Y st et) : JSsT X Y [st] et := by
  obtain ⟨a1, b1⟩ := h1
  refine ⟨CwR.psst_one a1, fun P s G N σ H M h r k => ?_⟩
  exact b1 P s G N σ H M h r k
end
/-- a def that the top knows by another name -/
structure DfA (K : PySem.W.Frag) (mg : Str → Option Value) (x nm : Str) (st : Stmt) : Prop where
  ex : ∃ f fd, FunD K nm nm (defArgs st) (defBody st) (defScope st) [] [] f fd ∧ mg x = some (.ref f)
section
variable {P : Program} {w : World} {K : PySem.W.Frag} {mg : Str → Option Value} {base : Heap}
theorem calA_ok {x nm : Str} {st : Stmt} {N ps : List Str} {k : Nat} {F : Sf} {es : ES} (D : DfA K mg x nm st) (S : FnScope N ps (defScope st))
    (hb : ∀ (kV doc pm : Value) (an : Option Addr) (cdv ct : Value) (us : List Value), us.length = ps.length → bindArgs (PySem.W.fnOf nm nm (defArgs st) (defBody st) (defScope st) .none kV doc pm an cdv ct) ⟨us, []⟩ = pure (ps.zip us))
    (hJ : ∀ (f : Addr) (cdv : Value) (A : Around) (outer : List Env) (s : Shared) (H : Hp) (E : XK), Room k (A.deeper (envOfC nm (defScope st) s.heap.objs.size f cdv)) → JSs (cxOf CX0 P w K mg base N nm (defScope st) f cdv A outer s H E).nox y0 (defBody st) es)
    (hR : ∀ ds G Q, F ds G Q → es (fin G Q) (startD N.length ds) G) : Cal P w K mg base (k + 1) x ps F := by
  obtain ⟨f, fd, h1, h2⟩ := D.ex
  exact ⟨f, fd, fk_ok h1 S (hJ f) hR, h2, h1.kp, h1.bindsN hb⟩
end
end DL
set_option Elab.async false
set_option linter.all false
set_option maxRecDepth 100000
set_option maxHeartbeats 4000000
namespace DL
open PySem PySem.Spec PyProof.Rows L2
open PySem.Sem (wp)
section
variable {pg : Program} {w : World} {A : Around} {E : Value → Shared → Prop} {s : Shared} {q pi po u v a b : Addr} {m n : Nat} {xs ys : Array Value} {x y c d : Value}
/-- a turn of zip leaves the rest -/
abbrev Lft (q po u v : Addr) (h h' : Heap) : Prop := ∀ c o, c ≠ q → c ≠ po → c ≠ u → c ≠ v → h.get? c = some o → h'.get? c = some o
theorem zm_item {Q : Value → Shared → Prop} (D : ZipApart q pi po u v a b) (hq : IsZip s.heap q pi po .none) (hp : IsPair s.heap pi (.ref u) (.ref v)) (ho : IsPair s.heap po c d)
    (iu : s.heap.IsListIter u a m) (iv : s.heap.IsTupleIter v b n) (la : s.heap.IsList a xs) (lb : s.heap.IsTuple b ys) (ex : xs[m]? = some x) (ey : ys[n]? = some y)
    (k : ∀ h', IsZip h' q pi po (rawInt s.heap.objs.size) → IsPair h' po x y → h'.IsListIter u a (m + 1) → h'.IsTupleIter v b (n + 1) → IsPair h' s.heap.objs.size x y → h'.objs.size = s.heap.objs.size + 1 →
      Lft q po u v s.heap h' → Q (.ref s.heap.objs.size) { s with heap := h' }) :
    wpAny (model pg w) A (Builtin.«zip.__next__» ⟨[.ref q], []⟩) (fun fin s' => ∃ v, fin = .done (.ret v) ∧ Q v s') E s := by
  show wpAny _ _ (field (.ref q) 2 >>= _) _ _ _; refine wpAny_bind (wpAny_field hq rfl (x := .bool false) rfl ?_)
  show wpAny _ _ (field (.ref q) 3 >>= _) _ _ _; refine wpAny_bind (wpAny_field hq rfl (x := .ref pi) rfl (wpAny_bind (wpAny_seqItems hp rfl ?_)))
  show wpAny _ _ (Builtin.SmallTypes.ownedTupleIsFree (.ref q) >>= _) _ _ _; refine wpAny_bind ?_
  (unfold Builtin.SmallTypes.ownedTupleIsFree); refine wpAny_bind (wpAny_field hq rfl (x := .none) rfl (wpAny_pure ?_))
  simp only [if_true]; refine wpAny_bind (wpAny_rule (wpAny_bind (wpAny_field hq rfl (x := .ref po) rfl ?_)))
  refine wpAny_bind (wpAny_setField_rec hq (by simp) fun g1 q1 t1 => ?_)
  have q1' : IsZip g1 q pi po .ellipsis := q1
  refine wpAny_bind ?_; simp only [List.zipIdx_cons, List.zipIdx_nil, List.forIn_cons, List.forIn_nil]; refine wpAny_bind (wpAny_bind (wpAny_onRaise ?_))
  show wpAny _ _ (Builtin.SmallTypes.nextOf (.ref u) >>= _) _ _ _
  refine wpAny_bind (wpAny_nextOf_list_item (iu.extBut t1.extBut D.i1z) (la.extBut t1.extBut D.l1z) ex fun g2 iu2 t2 => wpAny_pure ?_)
  have o2 : IsPair g2 po c d := t2.extBut _ _ D.TOi1 (t1.extBut _ _ D.TOz ho)
  refine wpAny_bind (wpAny_seqItems o2 rfl (wpAny_bind (wpAny_updateSeq_pair o2 fun g3 o3 t3 => ?_)))
  have o3' : IsPair g3 po x d := o3
  refine wpAny_bind (wpAny_letGo (wpAny_pure (wpAny_bind (wpAny_bind (wpAny_onRaise ?_)))))
  show wpAny _ _ (Builtin.SmallTypes.nextOf (.ref v) >>= _) _ _ _
  refine wpAny_bind (RZ.nextOf_tuple_item (((iv.extBut t1.extBut D.i2z).extBut t2.extBut D.i12.symm).extBut t3.extBut D.TOi2.symm) (((lb.extBut t1.extBut D.l2z).extBut t2.extBut D.l2i1).extBut t3.extBut D.l2TO) ey fun g4 iv4 t4 => wpAny_pure ?_)
  have o4 : IsPair g4 po x d := t4.extBut _ _ D.TOi2 o3'
  refine wpAny_bind (wpAny_seqItems o4 rfl (wpAny_bind (wpAny_updateSeq_pair o4 fun g5 o5 t5 => ?_)))
  have o5' : IsPair g5 po x y := o5
  refine wpAny_bind (wpAny_letGo (wpAny_pure (wpAny_pure (wpAny_bind (wpAny_seqItems o5' rfl (wpAny_bind (wpAny_newTuple ?_)))))))
  have sz : g5.objs.size = s.heap.objs.size := by rw [t5.1, t4.1, t3.1, t2.1, t1.1]
  have q5 : IsZip g5 q pi po .ellipsis := t5.extBut _ _ D.TOz.symm (t4.extBut _ _ D.i2z.symm (t3.extBut _ _ D.TOz.symm (t2.extBut _ _ D.i1z.symm q1')))
  have k5 : Lft q po u v s.heap g5 := fun c o e1 e2 e3 e4 e => t5.extBut _ _ e2 (t4.extBut _ _ e4 (t3.extBut _ _ e2 (t2.extBut _ _ e3 (t1.extBut _ _ e1 e))))
  have iu5 : g5.IsListIter u a (m + 1) := ((iu2.extBut t3.extBut D.TOi1.symm).extBut t4.extBut D.i12).extBut t5.extBut D.TOi1.symm
  have iv5 : g5.IsTupleIter v b (n + 1) := iv4.extBut t5.extBut D.TOi2.symm
  have lq : q < g5.objs.size := Heap.lt_size q5
  show wpAny _ _ (Builtin.SmallTypes.ownedTupleHandOut (.ref q) (.ref g5.objs.size) >>= _) _ _ _; refine wpAny_bind ?_
  (unfold Builtin.SmallTypes.ownedTupleHandOut)
  have q6 : IsZip (g5.push { cls := .type "tuple", data := .seq #[x, y] }) q pi po .ellipsis := Heap.get?_push_of_some _ q5
  refine wpAny_bind (wpAny_setField_rec q6 (by simp) fun g7 q7 t7 => ?_)
  have q7' : IsZip g7 q pi po (rawInt g5.objs.size) := q7
  refine wpAny_setField_rec q7' (by simp) fun g8 q8 t8 => ?_
  have q8' : IsZip g8 q pi po (rawInt g5.objs.size) := q8
  have up : ∀ c o, c ≠ q → g5.get? c = some o → g8.get? c = some o := fun c o e1 e => t8.extBut _ _ e1 (t7.extBut _ _ e1 (Heap.get?_push_of_some _ e))
  have p8 : IsPair g8 g5.objs.size x y := t8.extBut _ _ (Nat.ne_of_gt lq) (t7.extBut _ _ (Nat.ne_of_gt lq) (Heap.get?_push_size _ rfl))
  have z8 : g8.objs.size = g5.objs.size + 1 := by rw [t8.1, t7.1, Heap.size_push]
  rw [sz] at q8' p8 z8
  refine wpAny_pure ⟨_, rfl, ?_⟩; show Q (.ref g5.objs.size) _; rw [sz]
  exact k g8 q8' (up _ _ D.TOz o5') (iu5.at fun o e => up _ o D.i1z e) (iv5.at fun o e => up _ o D.i2z e) p8 z8 fun c o e1 e2 e3 e4 e => up c o e1 (k5 c o e1 e2 e3 e4 e)
theorem zm_end {Q : Fin → Shared → Prop} (hh : A.handled = none) (D : ZipApart q pi po u v a b) (hq : IsZip s.heap q pi po .none) (hp : IsPair s.heap pi (.ref u) (.ref v)) (ho : IsPair s.heap po c d)
    (iu : s.heap.IsListIter u a m) (iv : s.heap.IsTupleIter v b n) (la : s.heap.IsList a xs) (lb : s.heap.IsTuple b ys) (en : xs[m]? = none ∨ ys[n]? = none)
    (k : ∀ h' e, Lft q po u v s.heap h' → (∃ o, h'.get? e = some o ∧ o.cls = .type "StopIteration") → E (.ref e) { s with heap := h' }) :
    wpAny (model pg w) A (Builtin.«zip.__next__» ⟨[.ref q], []⟩) Q E s := by
  show wpAny _ _ (field (.ref q) 2 >>= _) _ _ _; refine wpAny_bind (wpAny_field hq rfl (x := .bool false) rfl ?_)
  show wpAny _ _ (field (.ref q) 3 >>= _) _ _ _; refine wpAny_bind (wpAny_field hq rfl (x := .ref pi) rfl (wpAny_bind (wpAny_seqItems hp rfl ?_)))
  show wpAny _ _ (Builtin.SmallTypes.ownedTupleIsFree (.ref q) >>= _) _ _ _; refine wpAny_bind ?_
  (unfold Builtin.SmallTypes.ownedTupleIsFree); refine wpAny_bind (wpAny_field hq rfl (x := .none) rfl (wpAny_pure ?_))
  simp only [if_true]; refine wpAny_bind (wpAny_rule (wpAny_bind (wpAny_field hq rfl (x := .ref po) rfl ?_)))
  refine wpAny_bind (wpAny_setField_rec hq (by simp) fun g1 q1 t1 => ?_)
  have q1' : IsZip g1 q pi po .ellipsis := q1
  refine wpAny_bind ?_; simp only [List.zipIdx_cons, List.zipIdx_nil, List.forIn_cons, List.forIn_nil]; refine wpAny_bind (wpAny_bind (wpAny_onRaise ?_))
  show wpAny _ _ (Builtin.SmallTypes.nextOf (.ref u) >>= _) _ _ _
  cases ex : xs[m]? with
  | none =>
    refine wpAny_bind (wpAny_nextOf_list_end hh (iu.extBut t1.extBut D.i1z) (la.extBut t1.extBut D.l1z) ex fun g2 e t2 he => ?_)
    obtain ⟨oe, h1, h2⟩ := he
    have q2 : IsZip g2 q pi po .ellipsis := t2 _ _ D.i1z.symm q1'
    have ne : e ≠ q := fun z => by rw [z, q2] at h1; cases h1; simp at h2
    exact wpAny_setField_rec q2 (by simp) fun g3 _ t3 => k g3 e (fun c o e1 _ e3 _ z => t3.extBut _ _ e1 (t2 _ _ e3 (t1.extBut _ _ e1 z))) ⟨oe, t3.extBut _ _ ne h1, h2⟩
  | some x =>
    have ey : ys[n]? = none := en.resolve_left fun z => by rw [ex] at z; cases z
    refine wpAny_bind (wpAny_nextOf_list_item (iu.extBut t1.extBut D.i1z) (la.extBut t1.extBut D.l1z) ex fun g2 iu2 t2 => wpAny_pure ?_)
    have o2 : IsPair g2 po c d := t2.extBut _ _ D.TOi1 (t1.extBut _ _ D.TOz ho)
    refine wpAny_bind (wpAny_seqItems o2 rfl (wpAny_bind (wpAny_updateSeq_pair o2 fun g3 o3 t3 => wpAny_bind (wpAny_letGo (wpAny_pure (wpAny_bind (wpAny_bind (wpAny_onRaise ?_))))))))
    show wpAny _ _ (Builtin.SmallTypes.nextOf (.ref v) >>= _) _ _ _
    refine wpAny_bind (RZ.nextOf_tuple_end hh (((iv.extBut t1.extBut D.i2z).extBut t2.extBut D.i12.symm).extBut t3.extBut D.TOi2.symm) (((lb.extBut t1.extBut D.l2z).extBut t2.extBut D.l2i1).extBut t3.extBut D.l2TO) ey fun g4 e t4 he => ?_)
    obtain ⟨oe, h1, h2⟩ := he
    have q4 : IsZip g4 q pi po .ellipsis := t4 _ _ D.i2z.symm (t3.extBut _ _ D.TOz.symm (t2.extBut _ _ D.i1z.symm q1'))
    have ne : e ≠ q := fun z => by rw [z, q4] at h1; cases h1; simp at h2
    exact wpAny_setField_rec q4 (by simp) fun g5 _ t5 => k g5 e (fun c o e1 e2 e3 e4 z => t5.extBut _ _ e1 (t4 _ _ e4 (t3.extBut _ _ e2 (t2.extBut _ _ e3 (t1.extBut _ _ e1 z))))) ⟨oe, t5.extBut _ _ ne h1, h2⟩
theorem zm_next {Q : Option Value → Shared → Prop} (D : ZipApart q pi po u v a b) (hq : IsZip s.heap q pi po .none) (hp : IsPair s.heap pi (.ref u) (.ref v)) (ho : IsPair s.heap po c d)
    (iu : s.heap.IsListIter u a m) (iv : s.heap.IsTupleIter v b n) (la : s.heap.IsList a xs) (lb : s.heap.IsTuple b ys) (ex : xs[m]? = some x) (ey : ys[n]? = some y)
    (k : ∀ h', IsZip h' q pi po (rawInt s.heap.objs.size) → IsPair h' po x y → h'.IsListIter u a (m + 1) → h'.IsTupleIter v b (n + 1) → IsPair h' s.heap.objs.size x y → h'.objs.size = s.heap.objs.size + 1 →
      Lft q po u v s.heap h' → Q (some (.ref s.heap.objs.size)) { s with heap := h' }) : wpAny (model pg w) A (pyNext (.ref q)) Q E s := by
  have ty : s.TypeIs (.ref q) "zip" := ⟨_, hq, rfl⟩
  (unfold pyNext); exact wpAny_bind (wpAny_attempt (wpAny_callSpecial?_slot (name := Str.ofString "__next__") ty F.slot_zip_next (wpAny_call_entry F.slot_zip_next ty F.entry_zip_next (zm_item D hq hp ho iu iv la lb ex ey fun h' a1 a2 a3 a4 a5 a6 a7 => wpAny_pure (k h' a1 a2 a3 a4 a5 a6 a7)) (F.args_zip_next_1 _))))
theorem zm_stop {Q : Option Value → Shared → Prop} (hh : A.handled = none) (D : ZipApart q pi po u v a b) (hq : IsZip s.heap q pi po .none) (hp : IsPair s.heap pi (.ref u) (.ref v)) (ho : IsPair s.heap po c d)
    (iu : s.heap.IsListIter u a m) (iv : s.heap.IsTupleIter v b n) (la : s.heap.IsList a xs) (lb : s.heap.IsTuple b ys) (en : xs[m]? = none ∨ ys[n]? = none)
    (k : ∀ h', Lft q po u v s.heap h' → Q none { s with heap := h' }) : wpAny (model pg w) A (pyNext (.ref q)) Q E s := by
  have ty : s.TypeIs (.ref q) "zip" := ⟨_, hq, rfl⟩
  (unfold pyNext); refine wpAny_bind (wpAny_attempt (wpAny_callSpecial?_slot (name := Str.ofString "__next__") ty F.slot_zip_next (wpAny_call_entry F.slot_zip_next ty F.entry_zip_next (zm_end hh D hq hp ho iu iv la lb en fun h' e l he => ?_) (F.args_zip_next_1 _))))
  obtain ⟨o, h1, h2⟩ := he
  exact wpAny_bind (wpAny_isInstance (T := "StopIteration") (b := true) ⟨o, h1, h2⟩ isSubtype_stop (wpAny_pure (k _ l)))
end
abbrev zm1 (h : Heap) (a : Addr) : Heap := h.push { cls := .type "list_iterator", data := .fields #[.ref a, .int 0 0] }
abbrev zm2 (h : Heap) (a b : Addr) : Heap := (zm1 h a).push { cls := .type "tuple_iterator", data := .fields #[.ref b, .int 0 0] }
abbrev zm3 (h : Heap) (a b : Addr) : Heap := (zm2 h a b).push { cls := .type "tuple", data := .seq #[.ref h.objs.size, .ref (zm1 h a).objs.size] }
abbrev zm4 (h : Heap) (a b : Addr) : Heap := (zm3 h a b).push { cls := .type "tuple", data := .seq #[.none, .none] }
abbrev zm5 (h : Heap) (a b : Addr) : Heap := (zm4 h a b).push { cls := .type "zip", data := .fields #[.none, .bool false, .bool false, .ref (zm2 h a b).objs.size, .ref (zm3 h a b).objs.size] }
theorem zm_meets (a b : Addr) (xs ys : Array Value) : Meets (Builtin.«zip.__new__» ⟨[.type "zip", .ref a, .ref b], []⟩) (fun _ R s => s.heap.IsList a xs ∧ s.heap.IsTuple b ys ∧ R (.ok (.ret (.ref (zm4 s.heap a b).objs.size))) { s with heap := zm5 s.heap a b }) :=
  .of_wp fun prog w A R s h => by
    obtain ⟨hp, g, d, tk, os⟩ := s; obtain ⟨la, lb, h⟩ := h; have hsub := sub_zip
    have l1 : Heap.IsList (Shared.heap ⟨hp, g, d, tk, os⟩) a xs := la
    have l2 : Heap.IsTuple (Shared.heap ⟨zm1 hp a, g, d, tk, os⟩) b ys := Heap.IsTuple.push lb _
    wp_walk using wpAny_pyIter_list l1, wpAny_pyIter_tuple l2
    exact ⟨_, rfl, h⟩
section
variable {pg : Program} {w : World} {A : Around} {E : Value → Shared → Prop} {s : Shared} {a b : Addr} {xs ys : Array Value}
theorem zm_call {Q : Value → Shared → Prop} (la : s.heap.IsList a xs) (lb : s.heap.IsTuple b ys)
    (k : ∀ h', IsZip h' (s.heap.objs.size + 4) (s.heap.objs.size + 2) (s.heap.objs.size + 3) .none → IsPair h' (s.heap.objs.size + 2) (.ref s.heap.objs.size) (.ref (s.heap.objs.size + 1)) → IsPair h' (s.heap.objs.size + 3) .none .none →
      h'.IsListIter s.heap.objs.size a 0 → h'.IsTupleIter (s.heap.objs.size + 1) b 0 → (∀ c o, s.heap.get? c = some o → h'.get? c = some o) → Q (.ref (s.heap.objs.size + 4)) { s with heap := h' }) :
    wpAny (model pg w) A (call (.type "zip") [.ref a, .ref b]) Q E s := by
  refine callType_new F.called_zip (by decide) (F.typeCall_zip_2 _ _) (F.newCall_zip_2 _ _) (fun ob => F.args_object_init_3 ob _ _) F.entry_zip_new (zm_meets a b xs ys) ⟨la, lb, ?_⟩
  have n1 : (zm1 s.heap a).objs.size = s.heap.objs.size + 1 := Heap.size_push ..
  have n2 : (zm2 s.heap a b).objs.size = s.heap.objs.size + 2 := by rw [Heap.size_push, n1]
  have n3 : (zm3 s.heap a b).objs.size = s.heap.objs.size + 3 := by rw [Heap.size_push, n2]
  have n4 : (zm4 s.heap a b).objs.size = s.heap.objs.size + 4 := by rw [Heap.size_push, n3]
  have e5 : (zm5 s.heap a b).get? (zm4 s.heap a b).objs.size = some _ := Heap.get?_push_size _ rfl
  have e4 : (zm5 s.heap a b).get? (zm3 s.heap a b).objs.size = some _ := Heap.get?_push_of_some _ (Heap.get?_push_size _ rfl)
  have e3 : (zm5 s.heap a b).get? (zm2 s.heap a b).objs.size = some _ := Heap.get?_push_of_some _ (Heap.get?_push_of_some _ (Heap.get?_push_size _ rfl))
  have e2 : (zm5 s.heap a b).get? (zm1 s.heap a).objs.size = some _ := Heap.get?_push_of_some _ (Heap.get?_push_of_some _ (Heap.get?_push_of_some _ (Heap.get?_push_size _ rfl)))
  have e1 : (zm5 s.heap a b).get? s.heap.objs.size = some _ := Heap.get?_push_of_some _ (Heap.get?_push_of_some _ (Heap.get?_push_of_some _ (Heap.get?_push_of_some _ (Heap.get?_push_size _ rfl))))
  show _ ∧ _; rw [n2, n3, n4] at e5; rw [n3] at e4; rw [n1, n2] at e3; rw [n1] at e2; rw [n4]
  exact ⟨⟨_, e5, rfl⟩, k _ e5 e3 e4 ⟨_, e1, rfl, rfl⟩ ⟨_, e2, rfl, rfl⟩ fun c o x => Heap.get?_push_of_some _ (Heap.get?_push_of_some _ (Heap.get?_push_of_some _ (Heap.get?_push_of_some _ (Heap.get?_push_of_some _ x))))⟩
end
/-- a list and a tuple, in pairs -/
def Itm (K : PySem.W.Frag) (a b : Addr) : It :=
  ⟨fun i H => ∃ (xs ys : List V) (x y : V), SqL K H a xs ∧ SqT K H b ys ∧ xs[i]? = some x ∧ ys[i]? = some y,
    fun i H v H' => ∃ T x y, v = .ref T ∧ H T = none ∧ H' = upd H T (.tup [x, y]) ∧ (∀ xs, SqL K H a xs → xs[i]? = some x) ∧ ∀ ys, SqT K H b ys → ys[i]? = some y,
    fun i H => ∃ xs ys : List V, SqL K H a xs ∧ SqT K H b ys ∧ (xs.length ≤ i ∨ ys.length ≤ i)⟩
theorem in5 {c q pi po u v : Addr} (h : c ∈ [q, pi, po, u, v]) : c = q ∨ c = pi ∨ c = po ∨ c = u ∨ c = v := by simpa using h
theorem turn_zm {P : Program} {w : World} {K : PySem.W.Frag} {elts : List Expr} {kk : Nat} {tp : Pos} {a b q pi po u v : Addr} (D : ZipApart q pi po u v a b) :
    Turn P w K (.Tuple elts kk tp) (Itm K a b) [q, pi, po, u, v] q (fun i h => IsZip h q pi po .none ∧ IsPair h pi (.ref u) (.ref v) ∧ (∃ x y, IsPair h po x y) ∧ h.IsListIter u a i ∧ h.IsTupleIter v b i) where
  mem := List.mem_cons_self
  obj := fun i h ⟨z1, z2, ⟨x, y, z3⟩, ⟨o1, e1, _, d1⟩, ⟨o2, e2, _, d2⟩⟩ c hc => by
    rcases in5 hc with rfl | rfl | rfl | rfl | rfl
    · exact ⟨_, z1, fun v q => nomatch q⟩
    · exact ⟨_, z2, fun v q => nomatch q⟩
    · exact ⟨_, z3, fun v q => nomatch q⟩
    · exact ⟨o1, e1, fun v q => by rw [d1] at q; cases q⟩
    · exact ⟨o2, e2, fun v q => by rw [d2] at q; cases q⟩
  keep := fun i h h' ⟨z1, z2, ⟨x, y, z3⟩, z4, z5⟩ k => ⟨k q (by simp) _ z1, k pi (by simp) _ z2, ⟨x, y, k po (by simp) _ z3⟩, z4.at fun o e => k u (by simp) o e, z5.at fun o e => k v (by simp) o e⟩
  item := by
    intro X hP hw hK hc i pins s σ H E I hf st hg
    subst hP hw hK
    obtain ⟨z1, z2, ⟨x0, y0, z3⟩, z4, z5⟩ := st
    obtain ⟨xs, ys, x, y, sa, sb, gx, gy⟩ := hg
    obtain ⟨is, ra, pa, _⟩ := I.list sa
    obtain ⟨js, rb, pb, _⟩ := I.tuple sb
    obtain ⟨f1, hf1, r1⟩ := ra.get gx
    obtain ⟨f2, hf2, r2⟩ := rb.get gy
    have lq : q < s.heap.objs.size := Heap.lt_size z1
    refine zm_next D z1 z2 z3 z4 z5 pa.isList pb (x := f1) (y := f2) (by simpa using hf1) (by simpa using hf2) fun h' b1 b3 b4 b5 bT bz bk => ?_
    refine ⟨_, rfl, wpAny_letOwnedTupleGo_zip (s := { s with heap := h' }) b1 fun h2 c1 sb2 => ?_⟩
    have hT : h2.get? s.heap.objs.size = some { cls := .type "tuple", data := .seq #[f1, f2] } := (sb2.2 _ (Nat.ne_of_gt lq)).trans bT
    have new : ObjOk X.prog X.w (upd H s.heap.objs.size (.tup [x, y])) h2 s.heap.objs.size (.tup [x, y]) := ⟨by show 2 ≤ sizeLine; decide, [f1, f2], .cons r1 (.cons r2 .nil), ⟨_, hT, rfl, _, rfl⟩⟩
    have I1 : Inv X pins σ (upd H s.heap.objs.size (.tup [x, y])) { s with heap := h2 } :=
      I.turnedNew (t' := s.toks) (ch := [q, pi, po, u, v]) (fun c o hb e => (sb2.2 c (fun z => hb (by simp [z]))).trans (bk c o (fun z => hb (by simp [z])) (fun z => hb (by simp [z])) (fun z => hb (by simp [z])) (fun z => hb (by simp [z])) e)) hf (Nat.le_refl _) new
    refine ⟨.ref s.heap.objs.size, _, I1, rfl, ⟨_, x, y, rfl, I.hok.fresh (Nat.le_refl _), rfl, fun l hl => by rw [I.list_inj hl sa]; exact gx, fun l hl => by rw [I.tuple_inj hl sb]; exact gy⟩, ⟨c1, (sb2.2 _ D.TIz).trans (bk _ _ D.TIz D.TITO D.TIi1 D.TIi2 z2), ⟨f1, f2, (sb2.2 _ D.TOz).trans b3⟩, b4.at fun o e => (sb2.2 _ D.i1z).trans e, b5.at fun o e => (sb2.2 _ D.i2z).trans e⟩, fun c hm => ?_⟩
    have lt : c < s.heap.objs.size := by
      rcases in5 hm with rfl | rfl | rfl | rfl | rfl
      · exact lq
      · exact Heap.lt_size z2
      · exact Heap.lt_size z3
      · obtain ⟨_, e, _⟩ := z4; exact Heap.lt_size e
      · obtain ⟨_, e, _⟩ := z5; exact Heap.lt_size e
    rw [upd_ne (Nat.ne_of_lt lt)]; exact (hf c hm).1
  done := by
    intro X hP hw hK hc i pins s σ H E I hf st hg
    subst hP hw hK
    obtain ⟨z1, z2, ⟨x0, y0, z3⟩, z4, z5⟩ := st
    obtain ⟨xs, ys, sa, sb, en⟩ := hg
    obtain ⟨is, ra, pa, _⟩ := I.list sa
    obtain ⟨js, rb, pb, _⟩ := I.tuple sb
    have l1 := ra.length
    have l2 := rb.length
    have he : is.toArray[i]? = none ∨ js.toArray[i]? = none := en.elim (fun z => .inl (by simp; omega)) fun z => .inr (by simp; omega)
    exact zm_stop (I.ok.hd hc) D z1 z2 z3 z4 z5 pa.isList pb he fun h' k => ⟨rfl, I.turnedL (t' := s.toks) (ch := [q, pi, po, u, v]) (fun c o hb e => k c o (fun z => hb (by simp [z])) (fun z => hb (by simp [z])) (fun z => hb (by simp [z])) (fun z => hb (by simp [z])) e) hf⟩
  self := fun A i s Q E st h => wpAny_pyIter_zip st.1 h
def iZm (K : PySem.W.Frag) (ta : TA) : TI := fun σ H R => ta σ H fun vs H1 => ∃ a b xs ys, vs = [.ref a, .ref b] ∧ SqL K H1 a xs ∧ SqT K H1 b ys ∧ R (Itm K a b) H1
theorem pi_zm {X : Cx} {e e2 : Expr} {ta : TA} {p pos tp : Pos} {elts : List Expr} {kk : Nat} (hg : Gl X "zip") (hm : X.mg "zip" = none) (ha : PA X [e, e2] ta) (hs : starEach [e, e2] X.env = (false, eval e X.env) :: starEach [e2] X.env := by rfl) (hpl : (backTo pos (starEach [e2] X.env)).any (·.1) = false := by rfl) :
    PI X (.Tuple elts kk tp) (.Call (.Name "zip" p) [e, e2] [] pos) (iZm X.K ta) := by
  refine ⟨fun pins s σ H R I h => Call_ (ld_blt I hg hm PyProof.Rows.boot_zip (PyProof.Rows.callWith_type1 (thn (ha.run pos pins s σ H _ I h) fun us s1 ⟨vs, H1, I1, r1, q1⟩ => ?_) hs hpl))⟩
  obtain ⟨a, b, xs, ys, rfl, sa, sb, q⟩ := q1
  cases r1 with
  | cons r rr => cases rr with
    | cons r' rr =>
      cases rr; cases r; cases r'
      obtain ⟨is, ra, pa, _⟩ := I1.list sa
      obtain ⟨js, rb, pb, _⟩ := I1.tuple sb
      obtain ⟨ob, hob, _⟩ := id pb
      refine zm_call pa.isList (show s1.heap.IsTuple b js.toArray from pb) fun h' z1 z2 z3 z4 z5 hk => wpAny_pyIter_zip z1 ⟨s1.heap.objs.size + 4, [s1.heap.objs.size + 4, s1.heap.objs.size + 2, s1.heap.objs.size + 3, s1.heap.objs.size, s1.heap.objs.size + 1], _, _, H1, rfl, I1.kept (t' := s1.toks) hk, turn_zm (PySem.W.ktu_apart s1.heap.objs.size a b pa.lt (Heap.lt_size hob)), ⟨z1, z2, ⟨_, _, z3⟩, z4, z5⟩, fun c hm => ?_, q⟩
      have hle : s1.heap.objs.size ≤ c := by rcases in5 hm with rfl | rfl | rfl | rfl | rfl <;> omega
      exact I1.fpOk hle (I1.hok.fresh hle)
abbrev KT : Type := List (Str × List Str)
def kfind (kvs : KT) (z : Str) : Option (List Str) := (kvs.find? fun q => decide (q.1 = z)).map (·.2)
/-- where the tuple of a key lies -/
def ktA (K : PySem.W.Frag) (nm : Str) (z : Str) : Addr := match PySem.W.nsIn K (He.ga K nm) z with
  | some (some (.ref t)) => t
  | _ => 0
def tupsB (K : PySem.W.Frag) (t : Addr) (fs : List Str) : Bool := match K.lookup t with
  | some ⟨.type c, _, .seq its _, _⟩ => decide (c = "tuple") && (decide (its.size ≤ sizeLine) && He.relAll (fs.map V.str) its.toList)
  | _ => false
def keyS (e : DictEntry) : Option Str := match e.key with
  | .str x _ => some x
  | _ => none
def ktB (K : PySem.W.Frag) (nm : Str) (kvs : KT) : Bool := match K.lookup (He.ga K nm) with
  | some ⟨_, _, .dict es _, _⟩ => decide (es.toList.map keyS = kvs.map fun q => some q.1) && kvs.all fun q => match PySem.W.nsIn K (He.ga K nm) q.1 with
    | some (some (.ref t)) => tupsB K t q.2
    | _ => false
  | _ => false
/-- what is known of it -/
structure KTOk (K : PySem.W.Frag) (w : World) (nm : Str) (kvs : KT) : Prop where
  d : ∃ es n, KDict K w (He.ga K nm) es n
  at_ : ∀ z, PySem.W.nsIn K (He.ga K nm) z = some ((kfind kvs z).map fun _ => .ref (ktA K nm z))
  tup : ∀ z fs, kfind kvs z = some fs → ∀ H, SqT K H (ktA K nm z) (fs.map V.str)
theorem tupsB_ok {K : PySem.W.Frag} {t : Addr} {fs : List Str} (h : tupsB K t fs = true) (H : Hp) : SqT K H t (fs.map V.str) := by
  unfold tupsB at h
  split at h
  · rename_i c d its n sl e
    simp only [Bool.and_eq_true, decide_eq_true_eq] at h
    obtain ⟨h1, h2, h3⟩ := h
    subst h1
    exact .inr ⟨_, its, n, e, rfl, rfl, h2, He.relAll_ok h3⟩
  · cases h
theorem kfind_mem {kvs : KT} {z : Str} {fs : List Str} (h : kfind kvs z = some fs) : (z, fs) ∈ kvs := by
  unfold kfind at h
  cases e : kvs.find? fun q => decide (q.1 = z) with
  | none => rw [e] at h; cases h
  | some q =>
    rw [e] at h
    have h1 := List.find?_some e
    have h2 := List.mem_of_find?_eq_some e
    cases h
    obtain ⟨a, b⟩ := q
    have h3 : a = z := of_decide_eq_true h1
    rw [← h3]; exact h2
theorem keyS_is {e : DictEntry} {x : Str} (h : e.key.isStr x = true) : keyS e = some x := by
  unfold keyS
  cases q : e.key with
  | str y t => rw [q] at h; have h2 : (y == x) = true := h; rw [eq_of_beq h2]
  | _ => rw [q] at h; cases h
theorem ktB_ok {K : PySem.W.Frag} {w : World} {nm : Str} {kvs : KT} (D : ∃ es n, KDict K w (He.ga K nm) es n) (h : ktB K nm kvs = true) : KTOk K w nm kvs := by
  obtain ⟨es, n, kd⟩ := D
  unfold ktB at h
  rw [kd.at_] at h
  simp only [Bool.and_eq_true, decide_eq_true_eq] at h
  obtain ⟨h1, h2⟩ := h
  have key : ∀ q ∈ kvs, PySem.W.nsIn K (He.ga K nm) q.1 = some (some (.ref (ktA K nm q.1))) ∧ tupsB K (ktA K nm q.1) q.2 = true := fun q hq => by
    have h3 := List.all_eq_true.mp h2 q hq
    unfold ktA
    split at h3
    · rename_i t e; rw [e]; exact ⟨rfl, h3⟩
    · cases h3
  refine ⟨⟨es, n, kd⟩, fun z => ?_, fun z fs e H => tupsB_ok (key _ (kfind_mem e)).2 H⟩
  cases e : kfind kvs z with
  | some fs => exact (key _ (kfind_mem e)).1
  | none =>
    have hn : ∀ q ∈ kvs, q.1 ≠ z := fun q hq c => by
      have h4 : (kvs.find? fun q => decide (q.1 = z)) = none := by
        unfold kfind at e
        cases g : kvs.find? fun q => decide (q.1 = z) with
        | none => rfl
        | some r => rw [g] at e; cases e
      have h5 := List.find?_eq_none.mp h4 q hq
      simp [c] at h5
    have hk : ∀ d ∈ es.toList, ∃ q ∈ kvs, keyS d = some q.1 := fun d hd => by
      have h6 : keyS d ∈ es.toList.map keyS := List.mem_map_of_mem hd
      rw [h1] at h6
      obtain ⟨q, hq, e6⟩ := List.mem_map.mp h6
      exact ⟨q, hq, e6.symm⟩
    unfold PySem.W.nsIn
    rw [kd.at_]
    have f1 : es.toList.find? (·.key.isStr z) = none := List.find?_eq_none.mpr fun d hd c => by
      obtain ⟨q, hq, e6⟩ := hk d hd
      rw [keyS_is c] at e6
      exact hn q hq (Option.some.inj e6).symm
    have f2 : es.toList.any (·.refKey) = false := by
      rw [Bool.eq_false_iff]; intro c
      obtain ⟨d, hd, e7⟩ := List.any_eq_true.mp c
      obtain ⟨q, hq, e6⟩ := hk d hd
      unfold keyS at e6
      unfold DictEntry.refKey at e7
      cases g : d.key with
      | str x t => rw [g] at e7; cases e7
      | _ => rw [g] at e6; cases e6
    simp only [f1, f2]; rfl
section
variable {X : Cx} {K : PySem.W.Frag} {w : World} {nm : Str} {kvs : KT}
/-- table.get(text) -/
def eKGet (ta : Str → Addr) (kvs : KT) (te : EE) : EE := fun s G Q => te s G fun d G1 => ∃ z, d = .str z ∧ Q (match kfind kvs z with | some _ => .cl (ta z) | none => .non) G1
def tKGet (ta : Str → Addr) (kvs : KT) (ty : TE) : TE := fun σ H Q => ty σ H fun y H2 => ∃ z, y = .str z ∧ Q (match kfind kvs z with | some _ => .ref (ta z) | none => .non) H2
theorem pe_kget {e : Expr} {ty : TE} {apos cpos p : Pos} (ok : KTOk X.K X.w nm kvs) (hm : X.mg nm = some (.ref (He.ga X.K nm))) (hg : Gl X nm) (he : PE X e ty) (m : M1 X (.Name nm p) "get" apos e cpos) (hd : (nm == ("__debug__" : Str)) = false := by decide) :
    PE X (.Call (.Attribute (.Name nm p) "get" apos) [e] [] cpos) (tKGet (ktA X.K nm) kvs ty) := by
  refine ⟨fun pins s σ H Q I h => ?_⟩
  obtain ⟨es, n, kd⟩ := ok.d
  have ho : PE X (.Name nm p) (tC (.ref (He.ga X.K nm))) := pe_glob (v := .ref (He.ga X.K nm)) hg hm rfl hd
  refine wpAny_Call_method m.base m.few m.line PySem.F.plainAttrs_dict PySem.F.slot_dict_get PySem.F.type_dict_get (thn (ho.run pins s σ H (fun v H' => v = .ref (He.ga X.K nm) ∧ tKGet (ktA X.K nm) kvs ty σ H' Q) I ⟨rfl, h⟩) fun u s1 ⟨x, H1, I1, rx, ex, q1⟩ => ?_)
  subst ex
  obtain rfl : u = Value.ref (He.ga X.K nm) := rx
  have mp := PySem.W.mapOf_K (prog := X.prog) (w := X.w) I1.kIn kd.at_ kd.lit
  refine ⟨mp.typeIs, fun b hb => ?_, ?_⟩
  · cases hb
    exact ⟨_, I1.kIn _ _ kd.at_, rfl⟩
  rw [m.trees]
  refine Calls.callWith_builtin rfl (Calls.evalArgs_plain (Calls.spliced_cons (thn (he.run pins s1 σ H1 _ I1 q1) fun iv s2 ⟨y, H2, I2, ry, z, ez, q2⟩ => Calls.spliced_nil ?_)))
  subst ez
  obtain ⟨t, rfl⟩ := ry
  have mp2 := PySem.W.mapOf_K (prog := X.prog) (w := X.w) I2.kIn kd.at_ kd.lit
  refine call_meetsIn PySem.F.slot_dict_get mp2.typeIs PySem.F.entry_dict_get (PySem.F.args_dict_get_2 _ _) (meets_dict_get (strKind X.prog X.w) _ (strKind_is X.prog X.w z t) kd.low) ⟨_, mp2, ?_⟩
  rw [PySem.W.find_K kd.at_ (ok.at_ z)]
  refine ⟨_, H2, I2.tok _, ?_, q2⟩
  cases kfind kvs z <;> rfl
theorem j_kget {e : Expr} {ee : EE} {apos cpos p : Pos} (ok : KTOk X.K X.w nm kvs) (hm : X.mg nm = some (.ref (He.ga X.K nm))) (hg : Gl X nm) (he : JE X e ee) (hd : (nm == ("__debug__" : Str)) = false := by decide) (m : M1 X (.Name nm p) "get" apos e cpos := by exact ⟨rfl, rfl, rfl, rfl⟩) :
    JE X (.Call (.Attribute (.Name nm p) "get" apos) [e] [] cpos) (eKGet (ktA X.K nm) kvs ee) :=
  ⟨pe_kget ok hm hg he.pe m hd, fun P s G Q σ H R h r k => by
    refine he.le P s G _ σ H _ h r fun x G1 u H1 s1 w1 r1 h1 => ?_
    obtain ⟨z, rfl, h1⟩ := h1
    refine ⟨z, rep_s r1, ?_⟩
    cases q : kfind kvs z with
    | none => rw [q] at h1; exact k _ G1 _ H1 s1 w1 (by unfold Rep; rfl) h1
    | some fs => rw [q] at h1; exact k _ G1 _ H1 s1 w1 (by unfold Rep; rfl) h1⟩
/-- len of a table's tuple -/
def cKLen (ta : Str → Addr) (kvs : KT) : CD := fun xs G Q => ∃ z fs, xs = [.cl (ta z)] ∧ kfind kvs z = some fs ∧ Q (.int fs.length) G
theorem lc_klen (ok : KTOk K w nm kvs) : LC K (fun xs H Q => ∃ x n, xs = [x] ∧ LenV K x H n ∧ Q (.int n) H) (cKLen (ktA K nm) kvs) := fun P G H xs us Q R h w r k => by
  obtain ⟨z, fs, rfl, e, h⟩ := h
  obtain ⟨u, rfl, r1⟩ := reps1 r
  have r2 : u = .ref (ktA K nm z) := by unfold Rep at r1; exact r1
  subst r2
  exact ⟨_, fs.length, rfl, .inr ⟨_, ok.tup z fs e H, by rw [List.length_map]⟩, k _ G _ H (Step.refl _ _) w rep_int h⟩
/-- zip(list, a table's tuple) -/
def iZK (ta : Str → Addr) (kvs : KT) (ea : EA) : EI := fun s G Q => ea s G fun xs G1 => ∃ x ds z fs, xs = [x, .cl (ta z)] ∧ lkL G1 x = some ds ∧ kfind kvs z = some fs ∧ Q (ds.zipWith (fun d e => .tup [d, e]) (fs.map D.str)) (stays x ds) G1
theorem ji_zipK {e e2 : Expr} {ea : EA} {p pos tpos : Pos} {elts : List Expr} {kk : Nat} (ok : KTOk X.K X.w nm kvs) (hg : Gl X "zip") (hm : X.mg "zip" = none) (ha : JA X [e, e2] ea) (hs : starEach [e, e2] X.env = (false, eval e X.env) :: starEach [e2] X.env := by rfl) (hpl : (backTo pos (starEach [e2] X.env)).any (·.1) = false := by rfl) :
    JI X (.Tuple elts kk tpos) (.Call (.Name "zip" p) [e, e2] [] pos) (iZK (ktA X.K nm) kvs ea) :=
  ⟨pi_zm hg hm ha.pa hs hpl, fun P s G Q σ H R h r k => by
    refine ha.la P s G _ σ H _ h r fun xs G1 us H1 s1 w1 r1 ll h1 => ?_
    clear ll
    obtain ⟨x, ds, z, fs, rfl, e1, e2, h1⟩ := h1
    obtain ⟨u, v, rfl, r2, r3⟩ := reps2 r1
    have r4 : v = .ref (ktA X.K nm z) := by unfold Rep at r3; exact r3
    subst r4
    obtain ⟨a, ys, rfl, sa, qa, za⟩ := lk_sq w1 r2 e1
    refine ⟨a, _, ys, _, rfl, sa, ok.tup z fs e2 H1, k _ _ G1 _ H1 s1 w1 ⟨by rw [List.length_zipWith]; omega, fun P' G H i hP st w kp => ?_⟩ h1⟩
    obtain ⟨as', sa', qa'⟩ := lk_later r2 e1 hP st w kp
    have tb := ok.tup z fs e2 H
    refine ⟨fun d hd => ?_, fun hi => ⟨as', _, sa', tb, by rw [← qa'.length, List.length_map]; rw [List.length_zipWith, List.length_map] at hi; omega⟩⟩
    rw [List.getElem?_zipWith] at hd
    cases f1 : ds[i]? with
    | none => rw [f1] at hd; cases hd
    | some d1 =>
      cases f2 : fs[i]? with
      | none => rw [f1, List.getElem?_map, f2] at hd; cases hd
      | some d2 =>
        rw [f1, List.getElem?_map, f2] at hd
        cases hd
        obtain ⟨v1, g1, p1⟩ := qa'.get f1
        have g2 : (fs.map V.str)[i]? = some (.str d2) := by rw [List.getElem?_map, f2]; rfl
        refine ⟨⟨as', _, v1, _, sa', tb, g1, g2⟩, fun y H' hy => ?_⟩
        obtain ⟨T, y1, y2, rfl, hT, rfl, fa, fb⟩ := hy
        have t1 := fa as' sa'
        have t2 := fb _ tb
        rw [g1] at t1
        rw [g2] at t2
        cases t1
        cases t2
        exact rep_pair w hT p1 rep_str⟩
end
section
variable {X : Cx} {K : PySem.W.Frag}
theorem call_lenDK : CallR X (.builtin "len") (fun xs H Q => ∃ (a : Addr) (kvs : List (Key × V)), xs = [.ref a] ∧ Rd H a (.dK kvs) ∧ Q (.int kvs.length) H) := by
  intro pins s σ H xs us Q I r h
  obtain ⟨a, kvs, rfl, e, q⟩ := h
  obtain ⟨u, rfl, rx⟩ := vals1 r
  obtain rfl : u = Value.ref a := rx
  exact d_len I e fun t s' I' => ⟨.int kvs.length, H, I', ⟨t, rfl⟩, q⟩
def cLenD : CD := fun xs G Q => match xs with
  | [x] => (match lkD G x with
    | some p => Q (.int p.1.length) G
    | none => False)
  | _ => False
theorem lc_lenD : LC K (fun xs H Q => ∃ (a : Addr) (kvs : List (Key × V)), xs = [.ref a] ∧ Rd H a (.dK kvs) ∧ Q (.int kvs.length) H) cLenD := fun P G H xs us Q R h w r k => by
  unfold cLenD at h
  split at h
  · obtain ⟨u, rfl, r1⟩ := reps1 r
    split at h
    · rename_i p e
      obtain ⟨ks, ds⟩ := p
      obtain ⟨a, xs, rfl, rr, z, q⟩ := lkD_hp w r1 e
      refine ⟨a, _, rfl, .inl rr, ?_⟩
      rw [List.length_zip, z, ← q.length, Nat.min_self]
      exact k _ G _ H (Step.refl _ _) w rep_int (by rw [← z]; exact h)
    · exact h.elim
  · exact h.elim
def strKs : List Key → Option (List Str)
  | [] => some []
  | .inr i :: ks => (strKs ks).map (i :: ·)
  | .inl _ :: _ => none
theorem strKs_eq : ∀ {ks : List Key} {ns : List Str}, strKs ks = some ns → ks = ns.map Sum.inr
  | [], ns, e => by cases e; rfl
  | .inr i :: ks, ns, e => by
    unfold strKs at e
    obtain ⟨r, e1, rfl⟩ := opt_map e
    rw [strKs_eq e1]; rfl
  | .inl _ :: _, _, e => by unfold strKs at e; cases e
theorem strKs_map : ∀ ns : List Str, strKs (ns.map Sum.inr) = some ns
  | [] => rfl
  | n :: ns => by rw [List.map_cons, strKs, strKs_map ns]; rfl
def cSortedDS : CD := fun xs G Q => match xs with
  | [x] => (match (lkD G x).bind fun p => strKs p.1 with
    | some ns => ns.length < 64 ∧ ∀ ms : List Str, ms.Perm ns → sortedS ms = true → Q (.lst (ms.map D.str)) G
    | none => False)
  | _ => False
theorem lc_sortedDS : LC K (fun xs H Q => ∃ (a : Addr) (kvs : List (Key × V)) (ks : List Str), xs = [.ref a] ∧ Rd H a (.dK kvs) ∧ kvs.map (·.1) = ks.map Sum.inr ∧ ks.length < 64 ∧ ∀ ys p, ys.Perm ks → sortedS ys = true → H p = none → Q (.ref p) (upd H p (.lst (ys.map V.str)))) cSortedDS := fun P G H xs us Q R h w r k => by
  unfold cSortedDS at h
  split at h
  · obtain ⟨u, rfl, r1⟩ := reps1 r
    split at h
    · rename_i ns e
      cases e1 : lkD G _ with
      | none => rw [e1] at e; cases e
      | some p =>
        obtain ⟨ks, ds⟩ := p
        rw [e1] at e
        have e2 := strKs_eq e
        obtain ⟨a, xs, rfl, rr, z, q⟩ := lkD_hp w r1 e1
        refine ⟨a, _, ns, rfl, .inl rr, by rw [List.map_fst_zip (by rw [z, q.length]; exact Nat.le_refl _)]; exact e2, h.1, fun ms l pm up hl => ?_⟩
        obtain ⟨f1, f2⟩ := w.fresh hl
        have st : Step G H G (upd H l (.lst (ms.map V.str))) := Step.new hl
        exact k _ G _ _ st (w.new hl) (rep_lst f1 f2 upd_same (by rw [List.length_map, pm.length_eq]; exact Nat.le_trans (Nat.le_of_lt h.1) (by decide)) reps_of_strs) (h.2 ms pm up)
    · exact h.elim
  · exact h.elim
end
end DL
set_option Elab.async false
set_option linter.all false
set_option maxRecDepth 100000
set_option maxHeartbeats 4000000
namespace DL
open PySem PySem.Spec PyProof.Rows L2 LN
def tab_FORMS : KT := [("shown", ["name"]), ("drop", ["name"]), ("names", []), ("put", ["name", "name", "number", "number", "number"]), ("gone", ["name", "name"]), ("worth", ["name", "name", "number"]), ("slide", ["name", "name", "number", "number"]), ("most", ["name", "benches"]), ("who", ["name", "benches"]), ("row", ["name"]), ("more", ["name", "fewer"]), ("wanted", ["name", "benches", "name"])]
abbrev sc2 : Str := Str.ofString "; "
theorem tl_sc : sc2.cps.toList = [59, 32] := by decide +kernel
theorem lf_mk : lf = ⟨#[10]⟩ := by decide +kernel
def rowT (rows : List (List Str)) : Str := Txt.join sc2 (rows.map glue)
theorem app_tl (a b : Str) : (a ++ b).cps.toList = a.cps.toList ++ b.cps.toList := by
  rw [Str.cps_append, Array.toList_append]
theorem lf_semi {rows : List (List Str)} (h : ∀ r ∈ rows, RowOk r) : Txt.replace (textOf rows) lf sc2 = rowT rows := by
  have e : Txt.replace (textOf rows) lf sc2 = Str.join sc2 (Txt.split (textOf rows) lf) := by
    rw [lf_mk]; exact StrLaws.replace_one _ _ _
  rw [e]
  by_cases hn : rows = []
  · subst hn
    have e2 : textOf [] = Str.empty := join_nil _
    have e3 : rowT [] = Str.empty := join_nil _
    rw [e2, e3]
    decide +kernel
  · rw [split_text hn h, ← TL.join_eq]; rfl
theorem repl_free {z : List Nat} : ∀ {p rest : List Nat}, 59 ∉ p → StrLaws.replL [59, 32] z (p ++ rest) = p ++ StrLaws.replL [59, 32] z rest
  | [], rest, _ => rfl
  | c :: p, rest, h => by
    have h1 : c ≠ 59 := fun e => h (by rw [e]; exact List.mem_cons_self)
    rw [List.cons_append, StrLaws.replL_miss (by
      intro e
      rw [List.length_cons, List.take_succ_cons] at e
      injection e with e1 _
      exact h1 e1), repl_free fun q => h (List.mem_cons_of_mem _ q)]
    rfl
theorem repl_sep {z rest : List Nat} : StrLaws.replL [59, 32] z (59 :: 32 :: rest) = z ++ StrLaws.replL [59, 32] z rest := by
  rw [StrLaws.replL_hit (by simp) (by simp)]
  rfl
theorem replJ : ∀ l : List Str, (∀ p ∈ l, 59 ∉ p.cps.toList) → StrLaws.replL [59, 32] [10] (Txt.join sc2 l).cps.toList = (Txt.join lf l).cps.toList
  | [], _ => by rw [join_nil, join_nil]; rfl
  | [x], h => by
    rw [join_one, join_one]
    have := repl_free (z := [10]) (rest := []) (h x List.mem_cons_self)
    rw [List.append_nil, StrLaws.replL_nil, List.append_nil] at this
    exact this
  | x :: y :: r, h => by
    rw [join_two, join_two, app_tl, app_tl, app_tl, app_tl, List.append_assoc, tl_sc, repl_free (h x List.mem_cons_self), List.cons_append, List.cons_append, List.nil_append, repl_sep, replJ (y :: r) fun p hp => h p (List.mem_cons_of_mem _ hp), List.append_assoc, tl_lf]
theorem glue_free {c : Nat} (hc : c ≠ 32) {r : List Str} (h : ∀ w ∈ r, c ∉ w.cps.toList) : c ∉ (glue r).cps.toList := fun q => by
  rcases mem_joinT q with q | ⟨p, hp, q⟩
  · rw [tl_bl] at q; simp at q; exact hc q
  · exact h p hp q
theorem str_ext {x y : Str} (h : x.cps.toList = y.cps.toList) : x = y := Str.ext' (Array.toList_inj.mp h)
theorem semi_lf {rows : List (List Str)} (h : ∀ r ∈ rows, ∀ w ∈ r, 59 ∉ w.cps.toList) : Txt.replace (rowT rows) sc2 lf = textOf rows := by
  refine str_ext ?_
  rw [StrLaws.replace_list (by decide +kernel), tl_sc, tl_lf]
  exact replJ _ fun p hp => by
    obtain ⟨r, hr, rfl⟩ := List.mem_map.mp hp
    exact glue_free (by decide) (h r hr)
/-- the words ahead of a text, so many -/
def cutW : Nat → Str → Option (List Str × Str)
  | 0, z => some ([], z)
  | n + 1, z => if (Txt.partition z bl).2.1 = Str.ofString "" then none else (cutW n (Txt.partition z bl).2.2).map fun p => ((Txt.partition z bl).1 :: p.1, p.2)
theorem part_bl {a b : Str} (h : 32 ∉ a.cps.toList) : Txt.partition (a ++ bl ++ b) bl = (a, bl, b) := TL.partition_app (s := 32) (S := []) tl_bl h
theorem cutW_one {a b : Str} (h : 32 ∉ a.cps.toList) (n : Nat) : cutW (n + 1) (a ++ bl ++ b) = (cutW n b).map fun p => (a :: p.1, p.2) := by
  have e : ¬ bl = Str.ofString "" := by decide +kernel
  rw [cutW, part_bl h]
  exact if_neg e
theorem cut_at {z : Str} (h : 32 ∈ z.cps.toList) : ∃ a b : Str, z = a ++ bl ++ b ∧ 32 ∉ a.cps.toList := by
  obtain ⟨p, q, e, hp⟩ := List.eq_append_cons_of_mem h
  exact ⟨SX.S p, SX.S q, str_ext (by rw [app_tl, app_tl, tl_bl, e]; simp [SX.S]), hp⟩
theorem part_len (z : Str) : (Txt.partition z bl).1.length ≤ z.length ∧ (Txt.partition z bl).2.2.length ≤ z.length := by
  by_cases h : 32 ∈ z.cps.toList
  · obtain ⟨a, b, rfl, ha⟩ := cut_at h
    rw [part_bl ha, len_app, len_app]
    exact ⟨by show a.length ≤ _; omega, by show b.length ≤ _; omega⟩
  · have e := TL.partition_none (y := bl) (s := 32) (S := []) tl_bl (a := z) h
    rw [e]
    exact ⟨Nat.le_refl _, Nat.zero_le _⟩
theorem starts_S (l p : List Nat) : Txt.startswith (SX.S l) (SX.S p) = decide (l.take p.length = p) := by
  unfold Txt.startswith
  rw [StrLaws.subAt_eq, SX.S_len, SX.S_len]
  have e1 : (SX.S l).cps.toList = l := rfl
  have e2 : (SX.S p).cps.toList = p := rfl
  rw [e1, e2, List.drop_zero, Bool.eq_iff_iff, Bool.and_eq_true, decide_eq_true_iff, decide_eq_true_iff]
  constructor
  · rintro ⟨_, h⟩
    exact eq_of_beq h
  · intro h
    have := congrArg List.length h
    rw [List.length_take] at this
    exact ⟨by omega, by rw [h]; exact beq_self_eq_true p⟩
def figs : List Nat → List Nat
  | 45 :: cs => cs
  | l => l
def isN (z : Str) : Bool := (numW z).isSome && decide ((figs z.cps.toList).length ≤ 14)
def beN (z : Str) (n : Nat) : Bool := isN z && (match numW z with | some i => decide (0 ≤ i ∧ i ≤ (n : Int)) | none => false)
def formB (z form : Str) : Bool := if form = Str.ofString "name" then namB (.str z) else if form = Str.ofString "number" then isN z else if form = Str.ofString "benches" then beN z 24 else beN z 23
def formsB : List Str → List Str → Bool
  | w :: ws, f :: fs => formB w f && formsB ws fs
  | _, _ => true
def rowB (ws : List Str) : Bool := match ws with
  | [] => false
  | w :: r => (match kfind tab_FORMS w with
    | some fs => decide (r.length = fs.length) && formsB r fs
    | none => false)
def F_is_number : Sf := fun ds G Q => ∃ z : Str, ds = [.str z] ∧ z.length ≤ 1000000 ∧ Asc z ∧ Q (.bl (isN z)) G
def F_are_benchesD : Sf := fun ds G Q => ∃ (z : Str) (n : Nat), ds = [.str z, .int (n : Int)] ∧ z.length ≤ 1000000 ∧ Asc z ∧ Q (.bl (beN z n)) G
def F_has_form : Sf := fun ds G Q => ∃ z form : Str, ds = [.str z, .str form] ∧ z.length ≤ 1000 ∧ Asc z ∧ Asc form ∧ Q (.bl (formB z form)) G
def F_split_text : Sx := fun ds G Q U => ∃ (z : Str) (n : Nat), ds = [.str z, .int (n : Int)] ∧ n ≤ 10 ∧ z.length ≤ 1000000 ∧ (∀ ws t, cutW n z = some (ws, t) → Q (.tup [wsD ws, .str (Txt.replace t sc2 lf)]) G) ∧ (cutW n z = none → U ⟨"NoRow", none⟩ G)
def F_words_of : Sx := fun ds G Q U => ∃ z : Str, ds = [.str z] ∧ z.length ≤ 1000000 ∧ Asc z ∧ (∀ w ∈ Txt.split z bl, w.length ≤ 1000) ∧ (rowB (Txt.split z bl) = true → Q (wsD (Txt.split z bl)) G) ∧ (rowB (Txt.split z bl) = false → U ⟨"NoRow", none⟩ G)
def r_is_number : ES :=
  (sSeq (sAsg (eVar 0) (.nm 1))
  (sSeq (sIf (eTru (eM1 mStarts (eVar 0) (eC (.str "-")))) (sAsg (eSlS (eVar 0) (ePart (eC (.int 1))) eNoPart) (.nm 1)) sNext)
  (sSeq (sIf (eOr (eT (eOp oEq (eVar 1) (eC (.str "")))) (eOr (eT (eOp oGt (eCB cLen (eCons (eVar 1) eNil)) (eC (.int 14)))) (eNot (eTru (eCB cAll (eCons (eLc (iS (eVar 1)) (.nm 2) eYes (eOp oInS (eVar 2) (eC (.str "0123456789"))) [2]) eNil)))))) (sRet (eC (.bl false))) sNext)
  (sRet (eOrT (eNotT (eM1 mStarts (eVar 1) (eC (.str "0")))) (eOp oEq (eVar 0) (eC (.str "0"))))))))
def r_are_benchesD : ES :=
  (sRet (eAndT (eCall F_is_number (eCons (eVar 0) eNil)) (eChain oLe oLe (eC (.int 0)) (eCB cIntS (eCons (eVar 0) eNil)) (eVar 1))))
def r_has_form : ES :=
  (sSeq (sIf (eT (eOp oEq (eVar 1) (eC (.str "name")))) (sRet (eCall F_is_name (eCons (eVar 0) eNil))) sNext)
  (sSeq (sIf (eT (eOp oEq (eVar 1) (eC (.str "number")))) (sRet (eCall F_is_number (eCons (eVar 0) eNil))) sNext)
  (sSeq (sIf (eT (eOp oEq (eVar 1) (eC (.str "benches")))) (sRet (eCall F_are_benchesD (eCons (eVar 0) (eCons (eC (.int 24)) eNil)))) sNext)
  (sRet (eCall F_are_benchesD (eCons (eVar 0) (eCons (eOp oSub (eC (.int 24)) (eC (.int 1))) eNil)))))))
def r_split_text_L1 : ES :=
  (sSeq (sAsg (eM1 mPart (eVar 3) (eC (.str " "))) (.tp [5, 6, 3]))
  (sSeq (sIf (eT (eOp oEq (eVar 6) (eC (.str "")))) (sRaise "NoRow") sNext)
  (sDrop (eBm mApp (eVar 2) (eCons (eVar 5) eNil)))))
def r_split_text : ES :=
  (sSeq (sAsg (eLstO eNil) (.nm 2))
  (sSeq (sAsg (eVar 0) (.nm 3))
  (sSeq (sFor (iR1 (eCons (eVar 1) eNil)) (.nm 4) r_split_text_L1)
  (sRet (eTup (eCons (eVar 2) (eCons (eRepl "; " "\n" (eVar 3)) eNil)))))))
def r_words_of_L1 (ka : Str → Addr) : ES :=
  (sIf (eNot (eTru (eCall F_has_form (eCons (eVar 3) (eCons (eVar 4) eNil))))) (sRaise "NoRow") sNext)
def r_words_of (ka : Str → Addr) : ES :=
  (sSeq (sAsg (eM1 mSplit (eVar 0) (eC (.str " "))) (.nm 1))
  (sSeq (sAsg (eKGet ka tab_FORMS (eOp oIx (eVar 1) (eC (.int 0)))) (.nm 2))
  (sSeq (sIf (eOr (eT (eOp oIsN (eVar 2) (eC .non))) (eT (eOp oNe (eCB cLen (eCons (eVar 1) eNil)) (eOp oAdd (eCB (cKLen ka tab_FORMS) (eCons (eVar 2) eNil)) (eC (.int 1)))))) (sRaise "NoRow") sNext)
  (sSeq (sFor (iZK ka tab_FORMS (eCons (eSlL (eVar 1) (ePart (eC (.int 1))) eNoPart) (eCons (eVar 2) eNil))) (.tp [3, 4]) (r_words_of_L1 ka))
  (sRet (eVar 1))))))
theorem isN_num {z : Str} (h : isN z = true) : ∃ i, numW z = some i ∧ PySem.intText? z = some i ∧ z.length ≤ 15 := by
  unfold isN at h
  rw [Bool.and_eq_true, decide_eq_true_iff, Option.isSome_iff_exists] at h
  obtain ⟨⟨i, hi⟩, hf⟩ := h
  refine ⟨i, hi, ?_⟩
  obtain ⟨l, rfl⟩ : ∃ l, z = SX.S l := ⟨_, (S_eta z).symm⟩
  have hi' : numC l = some i := hi
  have hf' : (figs l).length ≤ 14 := hf
  by_cases c : l.head? = some 45
  · obtain ⟨cs, rfl⟩ : ∃ cs, l = 45 :: cs := by
      cases l with
      | nil => cases c
      | cons a r => simp at c; exact ⟨r, by rw [c]⟩
    rw [numC_neg] at hi'
    split at hi'
    · rename_i q
      cases hi'
      have hl : cs.length ≤ 14 := hf'
      exact ⟨intText_neg (x := SX.S (45 :: cs)) rfl (digC_iff.mp q.2.1) q.1 (by rw [SX.S_len, List.length_cons]; omega), by rw [SX.S_len, List.length_cons]; omega⟩
    · cases hi'
  · have hl : l.length ≤ 14 := by
      cases l with
      | nil => simp
      | cons a r =>
        have : figs (a :: r) = a :: r := by
          unfold figs
          split
          · rename_i e; cases e; simp at c
          · rfl
        rw [this] at hf'; exact hf'
    rw [numC_pos c] at hi'
    split at hi'
    · rename_i q
      cases hi'
      exact ⟨intText_digits (x := SX.S l) (digC_iff.mp q.2.1) q.1 (by rw [SX.S_len]; omega), by rw [SX.S_len]; omega⟩
    · cases hi'
theorem d_is_number (ds : List D) (G : Gp) (Q : DK) (h : F_is_number ds G Q) : r_is_number (fin G Q) (startD 3 ds) G := by
  obtain ⟨z, rfl, hz, ha, k⟩ := h
  obtain ⟨l, rfl⟩ : ∃ l, z = SX.S l := ⟨_, (S_eta z).symm⟩
  have hl : l.length ≤ 1000000 := by rw [← SX.S_len]; exact hz
  have hd : Str.ofString "-" = SX.S [45] := by decide +kernel
  have h0 : Str.ofString "0" = SX.S [48] := by decide +kernel
  have hn : Str.ofString "" = SX.S [] := by decide +kernel
  have ad : Asc (Str.ofString "-") := asc_of _
  have a0 : Asc (Str.ofString "0") := asc_of _
  have an : Asc (Str.ofString "") := asc_of _
  refine seq_gen fun W hW => ?_
  (try dsimp only [startD, sAsg, eVar, asg]); (try simp only [List.map_cons, List.map_nil, List.length_cons, List.length_nil, Nat.reduceAdd, List.replicate, List.cons_append, List.nil_append]); (try dsimp only [List.getElem?_cons_zero, List.set_cons_succ, List.set_cons_zero])
  refine hW _ _ ?_
  refine seq_gen fun W2 hW2 => ?_
  have tail : ∀ cs, ((l = 45 :: cs) ∨ (l.head? ≠ some 45 ∧ l = cs)) → W2 [some (.str (SX.S l)), some (.str (SX.S cs)), none] G := by
    intro cs hc
    have ac : Asc (SX.S cs) := by
      rcases hc with e | ⟨_, e⟩
      · subst e; exact fun c hc => ha c (List.mem_cons_of_mem _ hc)
      · subst e; exact ha
    have hcl : cs.length ≤ 1000000 := by
      rcases hc with e | ⟨_, e⟩
      · subst e; simp at hl; omega
      · subst e; exact hl
    have ef : figs l = cs := by
      rcases hc with e | ⟨e1, e⟩
      · subst e; rfl
      · subst e
        unfold figs
        split
        · simp at e1
        · rfl
    have key : numC l = if cs ≠ [] ∧ digC cs = true ∧ (cs.head? ≠ some 48 ∨ l = [48]) then some (if l.head? = some 45 then -((NumText.digitsVal cs : Nat) : Int) else ((NumText.digitsVal cs : Nat) : Int)) else none := by
      rcases hc with e | ⟨e1, e⟩
      · subst e
        rw [numC_neg]
        have : ¬ (45 :: cs = [48]) := by simp
        simp [this]
      · subst e
        rw [numC_pos e1]
        simp [e1]
    have k : Q (.bl ((numC l).isSome && decide ((figs l).length ≤ 14))) G := k
    rw [key, ef] at k
    refine hW2 _ _ ?_
    refine seq_gen fun W3 hW3 => ?_
    (try dsimp only [oGt, sIf, eOr, eT, eOp, eVar, List.getElem?_cons_succ, List.getElem?_cons_zero, sRet, eC, sNext, eCB, eCons, eNot, eTru, eNil, oI0]); (try simp only [if_true]); (skip)
    refine eq_ss ac an ?_
    rw [hn, S_eqd]
    by_cases c0 : cs = []
    · rw [decide_eq_true c0]
      (try dsimp only); (try simp only [if_true]); (skip)
      rw [if_neg (by simp [c0])] at k
      exact fin_id k
    rw [decide_eq_false c0]
    (try dsimp only [cLen]); (try simp only [Bool.false_eq_true, sizeLine_eq, if_false]); (skip)
    refine ⟨by rw [SX.S_len]; omega, ?_⟩
    rw [SX.S_len]
    rcases Nat.lt_or_ge 14 cs.length with c4 | c4
    · rw [decide_eq_true (by omega)]
      (skip); (try simp only [if_true]); (skip)
      rw [decide_eq_false (by omega), Bool.and_false] at k
      exact fin_id k
    rw [decide_eq_false (by omega)]
    rw [decide_eq_true c4, Bool.and_true] at k
    (try dsimp only [eLc, iS, eVar, List.getElem?_cons_succ, List.getElem?_cons_zero, wipeD, List.set_cons_succ, List.set_cons_zero]); (try simp only [Bool.false_eq_true, sizeLine_eq, if_false]); (skip)
    refine ⟨by rw [SX.S_len]; omega, ?_⟩
    unfold sgnD
    refine compW_all (g := fun c => D.str ⟨#[c]⟩) (f := fun c : Nat => D.bl (decide (48 ≤ c ∧ c ≤ 57))) trivial cs [] (fun c hc => ⟨_, rfl, fun R r => ?_⟩) ?_
    · (try dsimp only [List.set_cons_succ, List.set_cons_zero, eOp, eVar, List.getElem?_cons_succ, List.getElem?_cons_zero, oInS, eC]); (skip); (skip)
      rw [dig_in]
      exact r
    (try dsimp only [cAll, lkL_lst, Option.bind_some, truD_bl, List.nil_append]); (skip); (skip)
    rw [blsD_f]
    (try dsimp only); (skip); (skip)
    have ed : (cs.map fun c => decide (48 ≤ c ∧ c ≤ 57)).all id = digC cs := by unfold digC; rw [List.all_map]; rfl
    rw [ed]
    cases cd : digC cs with
    | false =>
      (skip); (try simp only [Bool.not_false, if_true]); (skip)
      rw [if_neg (by simp [cd])] at k
      exact fin_id k
    | true =>
      (skip); (try simp only [Bool.not_true, Bool.false_eq_true, if_false]); (skip)
      refine hW3 _ _ ?_
      (try dsimp only [sRet, eOrT, eNotT, eM1, eVar, List.getElem?_cons_succ, List.getElem?_cons_zero, eOp, eC, truD_bl, mStarts]); (skip); (skip)
      refine ⟨trivial, ?_⟩
      rw [h0, starts_S]
      have e2 : decide (cs.take [48].length = [48]) = decide (cs.head? = some 48) := by
        rw [Bool.eq_iff_iff, decide_eq_true_iff, decide_eq_true_iff]
        cases cs with
        | nil => simp
        | cons a r => simp
      rw [e2]
      by_cases c1 : cs.head? = some 48
      · rw [decide_eq_true c1]
        (skip); (try simp only [Bool.not_true, Bool.false_eq_true, if_false]); (skip)
        refine eq_ss ha (by rw [← h0]; exact a0) ?_
        rw [S_eqd]
        by_cases c2 : l = [48]
        · rw [if_pos ⟨c0, cd, .inr c2⟩] at k
          rw [decide_eq_true c2]
          exact fin_id k
        · rw [if_neg (by
            rintro ⟨_, _, q | q⟩
            · exact q c1
            · exact c2 q)] at k
          rw [decide_eq_false c2]
          exact fin_id k
      · rw [decide_eq_false c1]
        (skip); (try simp only [Bool.not_false, if_true]); (skip)
        rw [if_pos ⟨c0, cd, .inl c1⟩] at k
        exact fin_id k
  (try dsimp only [sIf, eTru, eM1, eVar, List.getElem?_cons_zero, sAsg, asg, List.set_cons_succ, List.set_cons_zero, sNext, mStarts, truD_bl, eC]); (skip); (skip)
  refine ⟨trivial, ?_⟩
  rw [hd, starts_S]
  cases l with
  | nil =>
    rw [decide_eq_false (by simp)]
    (skip); (try simp only [Bool.false_eq_true, if_false]); (skip)
    exact tail [] (.inr ⟨by simp, rfl⟩)
  | cons c r =>
    by_cases c1 : c = 45
    · subst c1
      rw [decide_eq_true (by simp)]
      (try dsimp only [eSlS, eVar, List.getElem?_cons_zero, eNoPart, ePart, eC]); (try simp only [sizeLine_eq, if_true]); (skip)
      refine ⟨by simp at hl; omega, ?_⟩
      rw [SX.slice_from (by decide)]
      exact tail r (.inl rfl)
    · rw [decide_eq_false (by simp [c1])]
      (skip); (try simp only [Bool.false_eq_true, if_false]); (skip)
      exact tail (c :: r) (.inr ⟨by simp [c1], rfl⟩)
theorem d_are_benchesD (ds : List D) (G : Gp) (Q : DK) (h : F_are_benchesD ds G Q) : r_are_benchesD (fin G Q) (startD 2 ds) G := by
  obtain ⟨z, n, rfl, hz, ha, k⟩ := h
  (try dsimp only [startD]); (try simp only [List.map_cons, List.map_nil, List.length_cons, List.length_nil, Nat.reduceAdd, List.cons_append, List.nil_append]); (skip)
  refine ⟨z, rfl, hz, ha, ?_⟩
  unfold beN at k
  cases c : isN z with
  | false =>
    rw [c] at k
    (try dsimp only [truD_bl, oLe, eChain, eC, eCB, eCons, eVar, List.getElem?_cons_zero, oI0, List.getElem?_cons_succ, eNil]); (try simp only [Bool.false_eq_true, if_false]); (skip)
    exact fin_id k
  | true =>
    obtain ⟨i, e1, e2, e3⟩ := isN_num c
    rw [c, e1] at k
    replace k : Q (.bl (decide (0 ≤ i ∧ i ≤ (n : Int)))) G := k
    (try dsimp only [truD_bl, oLe, eChain, eC, eCB, eCons, eVar, List.getElem?_cons_zero, oI0, List.getElem?_cons_succ, cIntS, eNil]); (try simp only [if_true]); (skip)
    refine ⟨i, e2, by omega, ?_⟩
    (skip); (skip); (skip)
    by_cases c1 : 0 ≤ i
    · rw [decide_eq_true c1]
      (skip); (try simp only [if_true]); (skip)
      by_cases c2 : i ≤ (n : Int)
      · rw [decide_eq_true c2]
        rw [decide_eq_true ⟨c1, c2⟩] at k
        exact fin_id k
      · rw [decide_eq_false c2]
        rw [decide_eq_false (fun q => c2 q.2)] at k
        exact fin_id k
    · rw [decide_eq_false c1]
      (skip); (try simp only [Bool.false_eq_true, if_false]); (skip)
      rw [decide_eq_false (fun q => c1 q.1)] at k
      exact fin_id k
theorem d_has_form (ds : List D) (G : Gp) (Q : DK) (h : F_has_form ds G Q) : r_has_form (fin G Q) (startD 2 ds) G := by
  obtain ⟨z, f, rfl, hz, ha, hf, k⟩ := h
  unfold formB at k
  refine seq_gen fun W hW => ?_
  (try dsimp only [startD, sIf, eT, eOp, eVar, sRet, eCall, eCons, eNil, sNext, eC]); (try simp only [List.map_cons, List.map_nil, List.length_cons, List.length_nil, Nat.reduceAdd, List.cons_append, List.nil_append]); (try dsimp only [List.getElem?_cons_succ, List.getElem?_cons_zero])
  refine eq_ss hf (asc_of _) ?_
  by_cases c1 : f = Str.ofString "name"
  · rw [decide_eq_true c1]
    rw [if_pos c1] at k
    (try dsimp only); (try simp only [if_true]); (skip)
    refine ⟨_, rfl, rfl, (fun w e => by cases e; exact ⟨hz, ha⟩), ?_⟩
    exact fin_id k
  rw [decide_eq_false c1]
  rw [if_neg c1] at k
  (try dsimp only); (try simp only [Bool.false_eq_true, if_false]); (skip)
  refine hW _ _ ?_
  refine seq_gen fun W2 hW2 => ?_
  (try dsimp only [sIf, eT, eOp, eVar, List.getElem?_cons_succ, List.getElem?_cons_zero, sRet, eCall, eCons, eNil, sNext, eC]); (skip); (skip)
  refine eq_ss hf (asc_of _) ?_
  by_cases c2 : f = Str.ofString "number"
  · rw [decide_eq_true c2]
    rw [if_pos c2] at k
    (try dsimp only); (try simp only [if_true]); (skip)
    exact ⟨_, rfl, by omega, ha, fin_id k⟩
  rw [decide_eq_false c2]
  rw [if_neg c2] at k
  (try dsimp only); (try simp only [Bool.false_eq_true, if_false]); (skip)
  refine hW2 _ _ ?_
  refine seq_gen fun W3 hW3 => ?_
  (try dsimp only [sIf, eT, eOp, eVar, List.getElem?_cons_succ, List.getElem?_cons_zero, sRet, eCall, eCons, eC, eNil, sNext]); (skip); (skip)
  refine eq_ss hf (asc_of _) ?_
  by_cases c3 : f = Str.ofString "benches"
  · rw [decide_eq_true c3]
    rw [if_pos c3] at k
    (try dsimp only); (try simp only [if_true]); (skip)
    exact ⟨_, 24, rfl, by omega, ha, fin_id k⟩
  rw [decide_eq_false c3]
  rw [if_neg c3] at k
  (try dsimp only); (try simp only [Bool.false_eq_true, if_false]); (skip)
  refine hW3 _ _ ?_
  (try dsimp only [oSub, sRet, eCall, eCons, eVar, List.getElem?_cons_zero, eOp, eC, oI0, eNil]); (skip); (skip)
  exact ⟨_, 23, rfl, by omega, ha, fin_id k⟩
theorem asc_em : Asc Str.empty := fun c hc => by simp [Str.empty] at hc
theorem asc_p1 (z : Str) : Asc (Txt.partition z bl).2.1 := by
  by_cases c : 32 ∈ z.cps.toList
  · obtain ⟨a, b, rfl, ha⟩ := cut_at c
    rw [part_bl ha]
    exact asc_of _
  · rw [TL.partition_none (y := bl) (s := 32) (S := []) tl_bl (a := z) c]
    exact asc_em
theorem fz_w {p : Addr} {L : List D} {z : Str} : frz p L (.tup [.ref p, .str z]) = .tup [.lst L, .str z] := by simp [frz, frzs]
theorem d_split_text (ds : List D) (G : Gp) (Q : DK) (U : Ux) (h : F_split_text ds G Q U) : r_split_text (finX G Q U) (startD 7 ds) G := by
  obtain ⟨z, n, rfl, hn, hz, k1, k2⟩ := h
  refine seq_gen fun W hW => ?_
  (try dsimp only [startD, sAsg, eLstO, eNil, asg]); (try simp only [List.length_nil, sizeLine_eq, Nat.reduceLeDiff, List.map_cons, List.map_nil, List.length_cons, Nat.reduceAdd, List.replicate, List.cons_append, List.nil_append, true_and]); (try dsimp only [List.set_cons_succ, List.set_cons_zero])
  intro p hp
  refine hW _ _ ?_
  refine seq_gen fun W2 hW2 => ?_
  (try dsimp only [sAsg, eVar, List.getElem?_cons_zero, asg, List.set_cons_succ, List.set_cons_zero]); (skip); (skip)
  refine hW2 _ _ ?_
  refine seq_gen fun W3 hW3 => ?_
  have keep : ∀ L a o, G a = some o → gput G p (.lst L) a = some o := fun L a o e => by
    rw [gput_ne (fun z => by rw [z, hp] at e; cases e)]; exact e
  have hs : ∀ (m : Nat) (acc : List Str) (y : Str) (x4 x5 x6 : Option D), n = acc.length + m → y.length ≤ z.length → (cutW n z = (cutW m y).map fun q => (acc ++ q.1, q.2)) → forW (.nm 4) r_split_text_L1 (fun _ => True) { (finX G Q U) with nx := W3 } ((List.range' acc.length m).map fun (i : Nat) => D.int (i : Int)) [some (.str z), some (.int (n : Int)), some (.ref p), some (.str y), x4, x5, x6] (gput G p (.lst (acc.map D.str))) := by
    intro m
    induction m with
    | zero =>
      intro acc y x4 x5 x6 e1 e2 e3
      refine ⟨trivial, hW3 _ _ ?_⟩
      rw [cutW] at e3
      have e4 : cutW n z = some (acc, y) := by rw [e3]; show some (acc ++ [], y) = _; rw [List.append_nil]
      (try dsimp only [sRet, eTup, eCons, eVar, List.getElem?_cons_succ, List.getElem?_cons_zero, eRepl, eNil]); (try simp only [List.length_cons, List.length_nil, Nat.reduceAdd, sizeLine_eq, Nat.reduceLeDiff, true_and]); (skip)
      have el : (Str.ofString "\n").length = 1 := by decide +kernel
      refine ⟨by rw [el]; omega, ?_⟩
      refine fin_frz (G2 := G) (p := p) (ds := acc.map D.str) (fun a o e => keep _ a o e) (fun a o e => ⟨o, e⟩) (fun a o e => .inr e) gput_same hp (refIns_plain (plainDs_map (fun _ => rfl) _)) ?_ ?_
      · rw [fz_w]; exact refIn_plain (by simp [plainD, plainDs]; exact plainDs_map (fun _ => rfl) _)
      · rw [fz_w]; exact k1 _ _ e4
    | succ m ih =>
      intro acc y x4 x5 x6 e1 e2 e3
      have e4 := part_len y
      rw [cutW] at e3
      refine ⟨trivial, ?_⟩
      dsimp only [asg, List.set_cons_zero, List.set_cons_succ]
      refine seq_gen fun W4 hW4 => ?_
      (try dsimp only [sAsg, eM1, eVar, List.getElem?_cons_succ, List.getElem?_cons_zero, asg, mPart, setAll, List.set_cons_succ, List.set_cons_zero, eC]); (skip); (skip)
      refine ⟨trivial, by decide +kernel, by omega, ?_⟩
      (skip); (skip); (skip)
      refine hW4 _ _ ?_
      refine seq_gen fun W5 hW5 => ?_
      (try dsimp only [sIf, eT, eOp, eVar, List.getElem?_cons_succ, List.getElem?_cons_zero, sRaise, sNext, eC]); (skip); (skip)
      refine eq_ss (asc_p1 y) (asc_of _) ?_
      by_cases c : (Txt.partition y bl).2.1 = Str.ofString ""
      · rw [decide_eq_true c]
        rw [if_pos c] at e3
        (try dsimp only); (try simp only [if_true]); (skip)
        exact finX_back (fun a o e => keep _ a o e) (by simp [refX]) (k2 e3)
      · rw [decide_eq_false c]
        rw [if_neg c] at e3
        (try dsimp only); (try simp only [Bool.false_eq_true, if_false]); (skip)
        refine hW5 _ _ ?_
        (try dsimp only [sDrop, eBm, eVar, List.getElem?_cons_succ, List.getElem?_cons_zero, mApp, eCons, eNil]); (try simp only [gput_same, sizeLine_eq]); (skip)
        refine ⟨⟨_, gput_same⟩, by rw [List.length_map]; omega, ?_⟩
        rw [gput_gput]
        have := ih (acc ++ [(Txt.partition y bl).1]) (Txt.partition y bl).2.2 (some (.int (acc.length : Int))) (some (.str (Txt.partition y bl).1)) (some (.str (Txt.partition y bl).2.1)) (by rw [List.length_append, List.length_singleton]; omega) (by omega) (by
          rw [e3, Option.map_map]
          congr 1
          funext q
          simp)
        rw [List.length_append, List.length_singleton, List.map_append] at this
        exact this
  (skip); (skip); (skip)
  refine ⟨by omega, by omega, ?_⟩
  have e0 : rngD 0 ((n : Int)).toNat = (List.range' 0 n).map fun (i : Nat) => D.int (i : Int) := by
    rw [Int.toNat_natCast]; exact rngD_map n
  rw [e0]
  exact hs n [] z none none none (by simp) (Nat.le_refl _) (by simp)
theorem forms_asc : ∀ q ∈ tab_FORMS, ∀ f ∈ q.2, Asc f := by
  unfold tab_FORMS
  simp only [List.forall_mem_cons]
  repeat' first | apply And.intro | exact asc_of _ | (intro _ h; cases h; done)
theorem split_nb (z : Str) : Txt.split z bl ≠ [] := fun e => by
  have h : Txt.join bl (Txt.split z bl) = z := by rw [TL.join_eq]; exact StrLaws.join_split z bl
  rw [e, join_nil] at h
  subst h
  exact absurd e (by decide +kernel)
theorem addI {a b : Int} {G : Gp} {Q : DK} (q : Q (.int (a + b)) G) : oAdd (.int a) (.int b) G Q := q
theorem words_loop (ka : Str → Addr) {G : Gp} {Q : DK} {U : Ux} {W : Sd → Gp → Prop} {z L cl : Option D} : ∀ (r fs : List Str), r.length = fs.length → (∀ w ∈ r, Asc w ∧ w.length ≤ 1000) → (∀ f ∈ fs, Asc f) → (formsB r fs = true → ∀ x3 x4, W [z, L, cl, x3, x4] G) →
    (formsB r fs = false → U ⟨"NoRow", none⟩ G) → ∀ x3 x4, forW (.tp [3, 4]) (r_words_of_L1 ka) (fun _ => True) { finX G Q U with nx := W } ((r.map D.str).zipWith (fun d e => D.tup [d, e]) (fs.map D.str)) [z, L, cl, x3, x4] G
  | [], [], _, _, _, k1, _, x3, x4 => ⟨trivial, k1 rfl x3 x4⟩
  | [], _ :: _, h, _, _, _, _, _, _ => by cases h
  | _ :: _, [], h, _, _, _, _, _, _ => by cases h
  | w :: r, f :: fs, h, ha, hf, k1, k2, x3, x4 => by
    have ih := words_loop ka (G := G) (Q := Q) (U := U) (W := W) (z := z) (L := L) (cl := cl) r fs (by simpa using h) (fun w hw => ha w (List.mem_cons_of_mem _ hw)) (fun f hw => hf f (List.mem_cons_of_mem _ hw))
    have e : formsB (w :: r) (f :: fs) = (formB w f && formsB r fs) := rfl
    rw [e] at k1 k2
    refine ⟨trivial, ?_⟩
    (try dsimp only [asg, setAll, List.set_cons_succ, List.set_cons_zero]); (skip); (skip)
    refine ⟨w, f, rfl, (ha w List.mem_cons_self).2, (ha w List.mem_cons_self).1, hf f List.mem_cons_self, ?_⟩
    (try dsimp only [truD_bl, sRaise, sNext]); (skip); (skip)
    cases c : formB w f with
    | false =>
      rw [c] at k2
      (skip); (try simp only [Bool.not_false, if_true]); (skip)
      exact finX_id (k2 rfl)
    | true =>
      rw [c, Bool.true_and] at k1 k2
      (skip); (try simp only [Bool.not_true, Bool.false_eq_true, if_false]); (skip)
      exact ih k1 k2 _ _
theorem d_words_of (ka : Str → Addr) (ds : List D) (G : Gp) (Q : DK) (U : Ux) (h : F_words_of ds G Q U) : r_words_of ka (finX G Q U) (startD 5 ds) G := by
  obtain ⟨z, rfl, hz, ha, hw, k1, k2⟩ := h
  refine seq_gen fun W hW => ?_
  (try dsimp only [startD, sAsg, eM1, eVar, asg, mSplit, eC]); (try simp only [List.map_cons, List.map_nil, List.length_cons, List.length_nil, Nat.reduceAdd, List.replicate, List.cons_append, List.nil_append, Nat.reduceLeDiff]); (try dsimp only [List.getElem?_cons_zero, List.set_cons_succ, List.set_cons_zero])
  refine ⟨trivial, by decide +kernel, by omega, ?_⟩
  refine hW _ _ ?_
  have hne := split_nb z
  have hal : ∀ w ∈ Txt.split z bl, Asc w ∧ w.length ≤ 1000 := fun w hm => ⟨fun c hc => ha c ((mem_split hm).2 c hc), hw w hm⟩
  have hcount : (Txt.split z bl).length ≤ 1000002 := Nat.le_trans (PyProof.Rows.split_le z bl) (by omega)
  clear hW hw
  clear W
  show sSeq _ _ _ [some (.str z), some (wsD (Txt.split z bl)), none, none, none] G
  generalize Txt.split z bl = ws at *
  cases ws with
  | nil => exact (hne rfl).elim
  | cons w r =>
    refine seq_gen fun W2 hW2 => ?_
    (try dsimp only [sAsg, eKGet, eOp, eVar, List.getElem?_cons_succ, List.getElem?_cons_zero, asg, List.set_cons_succ, List.set_cons_zero, eC]); (skip); (skip)
    refine ws_at (k := 0) rfl ?_
    refine ⟨w, rfl, ?_⟩
    cases hf : kfind tab_FORMS w with
    | none =>
      refine hW2 _ _ ?_
      refine seq_gen fun W3 hW3 => ?_
      (try dsimp only [sIf, eOr, eT, eOp, eVar, List.getElem?_cons_succ, List.getElem?_cons_zero, sRaise, sNext, eCB, eCons, eC, eNil]); (try simp only [if_true]); (skip)
      have : rowB (w :: r) = false := by show (match kfind tab_FORMS w with | some fs => decide (r.length = fs.length) && formsB r fs | none => false) = false; rw [hf]
      exact finX_id (k2 this)
    | some fs =>
      have hfa := forms_asc _ (kfind_mem hf)
      refine hW2 _ _ ?_
      refine seq_gen fun W3 hW3 => ?_
      (try dsimp only [wsD, sIf, eOr, eT, eOp, eVar, List.getElem?_cons_succ, List.getElem?_cons_zero, sRaise, sNext, eCB, eCons, eC, eNil, oIsN]); (try simp only [Bool.false_eq_true, if_true, if_false]); (skip)
      refine len_lst ?_
      (try dsimp only [cKLen]); (skip); (skip)
      refine ⟨w, fs, rfl, hf, ?_⟩
      have rb : rowB (w :: r) = (decide (r.length = fs.length) && formsB r fs) := by show (match kfind tab_FORMS w with | some fs => decide (r.length = fs.length) && formsB r fs | none => false) = _; rw [hf]
      rw [rb] at k1 k2
      (skip); (skip); (skip)
      refine addI ?_
      refine ne_ii ?_
      rw [List.length_map, List.length_cons]
      by_cases c : r.length = fs.length
      · rw [decide_eq_true (by omega)]
        (try dsimp only); (try simp only [Bool.not_true, Bool.false_eq_true, if_false]); (skip)
        refine hW3 _ _ ?_
        refine seq_gen fun W4 hW4 => ?_
        (skip); (skip); (skip)
        refine ⟨_, _, w, fs, rfl, rfl, hf, ?_⟩
        rw [cut_one, List.map_cons, List.drop_succ_cons, List.drop_zero]
        rw [decide_eq_true c, Bool.true_and] at k1 k2
        have hal' : ∀ w ∈ r, Asc w ∧ w.length ≤ 1000 := fun w hm => hal w (List.mem_cons_of_mem _ hm)
        exact words_loop ka r fs c hal' hfa (fun q x3 x4 => by
          refine hW4 _ _ ?_
          (try dsimp only [sRet, eVar, List.getElem?_cons_succ, List.getElem?_cons_zero]); (skip); (skip)
          exact fin_id (k1 q)) k2 none none
      · rw [decide_eq_false (by omega)]
        rw [decide_eq_false c, Bool.false_and] at k2
        (try dsimp only); (try simp only [Bool.not_false, if_true]); (skip)
        exact finX_id (k2 rfl)
end DL
set_option Elab.async false
set_option linter.all false
set_option maxRecDepth 100000
set_option maxHeartbeats 4000000
namespace DL
open PySem PySem.Spec PyProof.Rows L2 LN
abbrev bkD (bk : List Stretch) : D := .lst (bk.map Stretch.d)
structure DkAt (G : Gp) (a p dx : Addr) (ns : List Str) (bks : List (List Stretch)) : Prop where
  ob : G a = some (.ins "Desk" dx ["kept"] [.ref p])
  kp : G p = some (.dct (ns.map Sum.inr) (bks.map bkD))
  len : ns.length = bks.length
def bkAt : List Str → List (List Stretch) → Str → Option (List Stretch)
  | n' :: ns, b :: bks, n => if n' = n then some b else bkAt ns bks n
  | _, _, _ => none
def putN (ns : List Str) (n : Str) : List Str := if n ∈ ns then ns else ns ++ [n]
def putB1 : List Str → List (List Stretch) → Str → List Stretch → List (List Stretch)
  | n' :: ns, b' :: bks, n, b => (if n' = n then b else b') :: putB1 ns bks n b
  | _, _, _, _ => []
def putBk (ns : List Str) (bks : List (List Stretch)) (n : Str) (b : List Stretch) : List (List Stretch) := if n ∈ ns then putB1 ns bks n b else bks ++ [b]
theorem bkAt_v : ∀ (ns : List Str) (bks : List (List Stretch)) (n : Str), valD (ns.map Sum.inr) (bks.map bkD) (.inr n) = (bkAt ns bks n).map bkD
  | [], _, _ => by simp [valD, bkAt]
  | _ :: _, [], _ => by simp [valD, bkAt]
  | n' :: ns, b :: bks, n => by
    rw [List.map_cons, List.map_cons, valD, bkAt]
    by_cases c : n' = n
    · rw [if_pos c, if_pos (by rw [c])]; rfl
    · rw [if_neg c, if_neg (fun e => c (Sum.inr.inj e)), bkAt_v ns bks n]
theorem bkAt_none : ∀ {ns : List Str} {bks : List (List Stretch)} {n : Str}, ns.length = bks.length → (bkAt ns bks n = none ↔ n ∉ ns)
  | [], _, n, _ => by simp [bkAt]
  | _ :: _, [], _, h => by cases h
  | n' :: ns, b :: bks, n, h => by
    rw [bkAt]
    by_cases c : n' = n
    · rw [if_pos c]; simp [c]
    · rw [if_neg c, bkAt_none (by simpa using h)]
      rw [List.mem_cons, not_or]
      exact ⟨fun q => ⟨fun e => c e.symm, q⟩, fun q => q.2⟩
theorem hasK_n (ns : List Str) (n : Str) : hasK (ns.map Sum.inr) (.inr n) = decide (n ∈ ns) := by
  induction ns with
  | nil => rfl
  | cons a r ih =>
    have e : hasK (Sum.inr a :: r.map Sum.inr : List Key) (.inr n) = (decide ((Sum.inr a : Key) = .inr n) || hasK (r.map Sum.inr) (.inr n)) := rfl
    rw [List.map_cons, e, ih, Bool.eq_iff_iff, Bool.or_eq_true, decide_eq_true_iff, decide_eq_true_iff, decide_eq_true_iff, List.mem_cons]
    exact ⟨fun h => h.elim (fun h => .inl (Sum.inr.inj h).symm) .inr, fun h => h.elim (fun h => .inl (by rw [h])) .inr⟩
theorem putK_n (ns : List Str) (n : Str) : putKs (ns.map Sum.inr) (.inr n) = (putN ns n).map Sum.inr := by
  unfold putKs putN
  rw [hasK_n]
  by_cases c : n ∈ ns
  · rw [if_pos c, if_pos (decide_eq_true c)]
  · rw [if_neg c, if_neg (by simp [c])]; simp
theorem putD1 : ∀ (ns : List Str) (bks : List (List Stretch)) (n : Str) (b : List Stretch), putDs (ns.map Sum.inr) (bks.map bkD) (.inr n) (bkD b) = (putB1 ns bks n b).map bkD
  | [], _, _, _ => by simp [putDs, putB1]
  | _ :: _, [], _, _ => by simp [putDs, putB1]
  | n' :: ns, b' :: bks, n, b => by
    rw [List.map_cons, List.map_cons, putDs, putB1, putD1 ns bks n b, List.map_cons]
    by_cases c : n' = n
    · rw [if_pos c, if_pos (by rw [c])]
    · rw [if_neg c, if_neg (fun e => c (Sum.inr.inj e))]
theorem putV_n (ns : List Str) (bks : List (List Stretch)) (n : Str) (b : List Stretch) : putVs (ns.map Sum.inr) (bks.map bkD) (.inr n) (bkD b) = (putBk ns bks n b).map bkD := by
  unfold putVs putBk
  rw [hasK_n]
  by_cases c : n ∈ ns
  · rw [if_pos c, if_pos (decide_eq_true c), putD1]
  · rw [if_neg c, if_neg (by simp [c])]; simp
theorem putB1_len : ∀ {ns : List Str} {bks : List (List Stretch)} {n : Str} {b : List Stretch}, ns.length = bks.length → (putB1 ns bks n b).length = ns.length
  | [], _, _, _, _ => by simp [putB1]
  | _ :: _, [], _, _, h => by cases h
  | n' :: ns, b' :: bks, n, b, h => by
    rw [putB1, List.length_cons, putB1_len (by simpa using h), List.length_cons]
theorem put_len {ns : List Str} {bks : List (List Stretch)} {n : Str} {b : List Stretch} (h : ns.length = bks.length) : (putN ns n).length = (putBk ns bks n b).length := by
  unfold putN putBk
  by_cases c : n ∈ ns
  · rw [if_pos c, if_pos c, putB1_len h]
  · rw [if_neg c, if_neg c]; simp [h]
def dput (G : Gp) (p : Addr) (ns : List Str) (bks : List (List Stretch)) : Gp := gput G p (.dct (ns.map Sum.inr) (bks.map bkD))
theorem DkAt.ne {G : Gp} {a p dx : Addr} {ns : List Str} {bks : List (List Stretch)} (h : DkAt G a p dx ns bks) : a ≠ p := fun e => by
  have h1 := h.ob
  rw [e, h.kp] at h1
  cases h1
theorem dput_at {G : Gp} {a p dx : Addr} {ns ns' : List Str} {bks bks' : List (List Stretch)} (h : DkAt G a p dx ns bks) (hl : ns'.length = bks'.length) : DkAt (dput G p ns' bks') a p dx ns' bks' :=
  ⟨by unfold dput; rw [gput_ne h.ne]; exact h.ob, gput_same, hl⟩
theorem plain_bks (bks : List (List Stretch)) : plainDs (bks.map bkD) = true := plainDs_map (fun bk => by
  show plainDs (bk.map Stretch.d) = true
  exact plain_book bk) bks
inductive Ask where
  | shown | row | most (i : Int) | more (i : Int) | who (i : Int) | wanted (i : Int) (m : Str)
def Ask.ws (n : Str) : Ask → List Str
  | .shown => [Str.ofString "shown", n]
  | .row => [Str.ofString "row", n]
  | .most i => [Str.ofString "most", n, iSt i]
  | .more i => [Str.ofString "more", n, iSt i]
  | .who i => [Str.ofString "who", n, iSt i]
  | .wanted i m => [Str.ofString "wanted", n, iSt i, m]
def Ask.ok : Ask → Prop
  | .shown => True
  | .row => True
  | .most i => 0 ≤ i ∧ i ≤ 24
  | .more i => 0 ≤ i ∧ i ≤ 23
  | .who i => 0 ≤ i ∧ i ≤ 24
  | .wanted i m => (0 ≤ i ∧ i ≤ 24) ∧ NameOk m
def F_Desk___init__ : Sf := fun ds G Q => ∃ x dx, ds = [.ref x] ∧ G x = some (.ins "Desk" dx [] []) ∧ ∀ p, G p = none → Q .non (gput (gput G p (.dct [] [])) x (.ins "Desk" dx ["kept"] [.ref p]))
def F_Desk_book_of : Sx := fun ds G Q U => ∃ a p dx ns bks n, ds = [.ref a, .str n] ∧ DkAt G a p dx ns bks ∧ (∀ bk, bkAt ns bks n = some bk → Q (bkD bk) G) ∧ (bkAt ns bks n = none → U ⟨"Unknown", none⟩ G)
def F_Desk_takes : Sx := fun ds G Q U => ∃ a p dx ns bks z w0 n t, ds = [.ref a, .str z] ∧ DkAt G a p dx ns bks ∧ ns.length ≤ 1000 ∧ z.length ≤ 1000000 ∧ cutW 2 z = some ([w0, n], t) ∧ n.length ≤ 1000 ∧ Asc n ∧ (namB (.str n) = false → U ⟨"NoRow", none⟩ G) ∧
  (namB (.str n) = true → TextOk (Txt.replace t sc2 lf) ∧ (∀ k : Nat, readB (rowsT (Txt.replace t sc2 lf)) [] = .inl k → U ⟨"NoText", some ("row", .int (k : Int))⟩ G) ∧ ∀ bk, readB (rowsT (Txt.replace t sc2 lf)) [] = .inr bk → (n ∉ ns ∧ ns.length = 40 → U ⟨"TooMany", none⟩ G) ∧ (¬ (n ∉ ns ∧ ns.length = 40) → Q (.str "ok") (dput G p (putN ns n) (putBk ns bks n bk))))
def r_Desk___init__ : ES :=
  (sFldD "Desk" "kept" eDnewO (eVar 0))
def r_Desk_book_of : ES :=
  (sSeq (sIf (eT (eOp oDNotIn (eVar 1) (eFld "Desk" "kept" (eVar 0)))) (sRaise "Unknown") sNext)
  (sRet (eOp oDGet (eFld "Desk" "kept" (eVar 0)) (eVar 1))))
def r_Desk_takes : ES :=
  (sSeq (sAsg (eCall (nev F_split_text) (eCons (eVar 1) (eCons (eC (.int 2)) eNil))) (.tp [2, 3]))
  (sSeq (sIf (eNot (eTru (eCall F_is_name (eCons (eOp oIx (eVar 2) (eC (.int 1))) eNil)))) (sRaise "NoRow") sNext)
  (sFz (sAsgX (eCallX F_read_book (eXa (eCons (eVar 3) eNil))) (.nm 4))
  (sSeq (sIf (eAnd (eT (eOp oDNotIn (eOp oIx (eVar 2) (eC (.int 1))) (eFld "Desk" "kept" (eVar 0)))) (eT (eOp oEq (eCB cLenD (eCons (eFld "Desk" "kept" (eVar 0)) eNil)) (eC (.int 40))))) (sRaise "TooMany") sNext)
  (sSeq (sPutD (eVar 4) (eFld "Desk" "kept" (eVar 0)) (eOp oIx (eVar 2) (eC (.int 1))))
  (sRet (eC (.str "ok"))))))))
theorem d_Desk___init__ (ds : List D) (G : Gp) (Q : DK) (h : F_Desk___init__ ds G Q) : r_Desk___init__ (fin G Q) (startD 1 ds) G := by
  obtain ⟨x, dx, rfl, hx, k⟩ := h
  have e0 : startD 1 [D.ref x] = [some (.ref x)] := rfl
  rw [e0]
  (try dsimp only [r_Desk___init__, sFldD, eDnewO, eVar, List.getElem?_cons_zero]); (skip); (skip)
  intro p hp
  have hpx : p ≠ x := fun e => by rw [e, hx] at hp; cases hp
  rw [gput_ne hpx.symm, hx]
  refine ⟨rfl, by decide, ?_⟩
  refine ⟨.non, _, fz_sub (G2 := gput (gput G p (.dct [] [])) x (.ins "Desk" dx ["kept"] [.ref p])) (fun a o e => e) (fun a o e => ?_) (fun a o e => ?_) (by simp only [RefIn]), k p hp⟩
  · by_cases c : a = x
    · subst c; exact ⟨_, gput_same⟩
    · rw [gput_ne c, gput_ne (fun z => by rw [z, hp] at e; cases e)]; exact ⟨o, e⟩
  · by_cases c : a = x
    · subst c
      rw [gput_same] at e
      cases e
      left
      simp only [RefO, RefIns, RefIn, and_true]
      exact ⟨_, by rw [gput_ne hpx]; exact gput_same⟩
    · rw [gput_ne c] at e
      by_cases c2 : a = p
      · subst c2
        rw [gput_same] at e
        cases e
        left
        simp only [RefO, RefIns]
      · rw [gput_ne c2] at e
        exact .inr e
theorem fld_kept {G : Gp} {a p dx : Addr} {ns : List Str} {bks : List (List Stretch)} {s : Sd} {e : EE} {Q : DK} (h : DkAt G a p dx ns bks) (he : e = eVar 0) (hs : s[0]? = some (some (.ref a))) (q : Q (.ref p) G) : eFld "Desk" "kept" e s G Q := by
  subst he
  simp only [eFld, eVar, hs]
  rw [h.ob]
  exact ⟨rfl, q⟩
theorem lkD_kept {G : Gp} {a p dx : Addr} {ns : List Str} {bks : List (List Stretch)} (h : DkAt G a p dx ns bks) : lkD G (.ref p) = some (ns.map Sum.inr, bks.map bkD) := by
  simp only [lkD, h.kp]
theorem d_Desk_book_of (ds : List D) (G : Gp) (Q : DK) (U : Ux) (h : F_Desk_book_of ds G Q U) : r_Desk_book_of (finX G Q U) (startD 2 ds) G := by
  obtain ⟨a, p, dx, ns, bks, n, rfl, da, k1, k2⟩ := h
  refine seq_gen fun W hW => ?_
  (try dsimp only [startD, sIf, eT, eOp, eVar, sRaise, sNext]); (try simp only [List.map_cons, List.map_nil, List.length_cons, List.length_nil, Nat.reduceAdd, List.cons_append, List.nil_append]); (try dsimp only [List.getElem?_cons_succ, List.getElem?_cons_zero])
  refine fld_kept da rfl rfl ?_
  (try dsimp only [oDNotIn, keyD]); (try simp only [lkD_kept da, bkAt_v]); (skip)
  cases e : bkAt ns bks n with
  | none =>
    (try dsimp only [Option.map_none, Option.isSome_none]); (try simp only [Bool.not_false, if_true]); (skip)
    exact finX_id (k2 e)
  | some bk =>
    (try dsimp only [Option.map_some, Option.isSome_some]); (try simp only [Bool.not_true, Bool.false_eq_true, if_false]); (skip)
    refine hW _ _ ?_
    (try dsimp only [sRet, eOp, eVar, List.getElem?_cons_succ, List.getElem?_cons_zero]); (skip); (skip)
    refine fld_kept da rfl rfl ?_
    (try dsimp only [oDGet, keyD]); (try simp only [lkD_kept da, bkAt_v, e, Option.map_some]); (skip)
    exact fin_id (k1 bk e)
theorem fin_dput {G : Gp} {Q : DK} {d : D} {a p dx : Addr} {ns ns' : List Str} {bks bks' : List (List Stretch)} (da : DkAt G a p dx ns bks) (hd : plainD d = true) (q : Q d (dput G p ns' bks')) : (fin G Q).rt d (gput G p (.dct (ns'.map Sum.inr) (bks'.map bkD))) :=
  fin_sub (fun a o e => e) (fun b o e => by
    by_cases c : b = p
    · subst c; exact ⟨_, gput_same⟩
    · rw [gput_ne c]; exact ⟨o, e⟩) (fun b o e => by
    by_cases c : b = p
    · subst c
      rw [gput_same] at e
      cases e
      left
      exact refIns_plain (plain_bks bks')
    · rw [gput_ne c] at e; exact .inr e) (refIn_plain hd) q
theorem d_Desk_takes (ds : List D) (G : Gp) (Q : DK) (U : Ux) (h : F_Desk_takes ds G Q U) : r_Desk_takes (finX G Q U) (startD 5 ds) G := by
  obtain ⟨a, p, dx, ns, bks, z, w0, n, t, rfl, da, hns, hz, hc, hn, han, u1, k⟩ := h
  refine seq_gen fun W hW => ?_
  (try dsimp only [startD, sAsg, eCall, eCons, eVar, asg, eC, eNil]); (try simp only [List.map_cons, List.map_nil, List.length_cons, List.length_nil, Nat.reduceAdd, List.replicate, List.cons_append, List.nil_append]); (try dsimp only [List.getElem?_cons_succ, List.getElem?_cons_zero])
  refine ⟨z, 2, rfl, by decide, hz, (fun ws t' e => ?_), (fun e => by rw [hc] at e; cases e)⟩
  rw [hc] at e
  cases e
  (try dsimp only [wsD, setAll, List.set_cons_succ, List.set_cons_zero]); (skip); (skip)
  refine hW _ _ ?_
  refine seq_gen fun W2 hW2 => ?_
  (try dsimp only [sIf, eNot, eTru, eCall, eCons, eOp, eVar, List.getElem?_cons_succ, List.getElem?_cons_zero, sRaise, sNext, eNil, eC]); (skip); (skip)
  refine ix_at (atI_nat (j := 1) rfl) ?_
  refine ⟨_, rfl, rfl, (fun z e => by cases e; exact ⟨hn, han⟩), ?_⟩
  cases c : namB (.str n) with
  | false =>
    (try dsimp only [truD_bl]); (try simp only [Bool.not_false, if_true]); (skip)
    exact finX_id (u1 c)
  | true =>
    obtain ⟨tk, u2, k⟩ := k c
    (try dsimp only [truD_bl]); (try simp only [Bool.not_true, Bool.false_eq_true, if_false]); (skip)
    refine hW2 _ _ ?_
    show sFz _ _ _ _ _
    unfold sFz
    (try dsimp only [sAsgX, eCallX, eXa, eCons, eVar, List.getElem?_cons_succ, List.getElem?_cons_zero, asg, List.set_cons_succ, List.set_cons_zero, eNil]); (skip); (skip)
    refine ⟨_, rfl, rfl, (fun h => absurd rfl (h _)), fun z' ez => ?_⟩
    cases ez
    refine ⟨tk, (fun j e => finX_id (u2 j e)), fun bk e q hq => ?_⟩
    obtain ⟨k1, k2⟩ := k bk e
    have eG : gdel (gput G q (.lst (bk.map Stretch.d))) q = G := gdel_put hq
    have qa : a ≠ q := fun z => by have h1 := da.ob; rw [z, hq] at h1; cases h1
    refine ⟨q, bk.map Stretch.d, hq, gput_same, plain_book bk, (fun b o eb => .inr (by rw [eG] at eb; exact eb)), ?_, ?_⟩
    · rw [eG]
      intro i d ed
      match i with
      | 0 => exact .inl ed
      | 1 => exact .inl ed
      | 2 => exact .inl ed
      | 3 => exact .inl ed
      | 4 =>
        cases ed
        right
        rw [show frz q (bk.map Stretch.d) (.ref q) = bkD bk from by simp [frz]]
        exact refIn_plain (plain_book bk)
      | i + 5 => cases ed
    · rw [eG]
      have es : ([some (.ref a), some (.str z), some (.lst [.str w0, .str n]), some (.str (Txt.replace t sc2 lf)), some (.ref q)] : Sd).map (Option.map (frz q (bk.map Stretch.d))) = [some (.ref a), some (.str z), some (.lst [.str w0, .str n]), some (.str (Txt.replace t sc2 lf)), some (bkD bk)] := by
        simp [frz, frzs, qa]
      show sSeq _ _ _ (List.map (Option.map (frz q (bk.map Stretch.d))) ([some (.ref a), some (.str z), some (.lst [.str w0, .str n]), some (.str (Txt.replace t sc2 lf)), some (.ref q)] : Sd)) G
      rw [es]
      refine seq_gen fun W3 hW3 => ?_
      (try dsimp only [sIf, eAnd, eT, eOp, eVar, List.getElem?_cons_succ, List.getElem?_cons_zero, sRaise, sNext, eCB, eCons, eC, eNil]); (try simp only [Bool.false_eq_true, if_false]); (skip)
      refine ix_at (atI_nat (j := 1) rfl) ?_
      refine fld_kept da rfl rfl ?_
      have bn := bkAt_none (n := n) da.len
      (try dsimp only [oDNotIn, keyD]); (try simp only [lkD_kept da, bkAt_v]); (skip)
      have put : ¬ (n ∉ ns ∧ ns.length = 40) → W3 [some (.ref a), some (.str z), some (.lst [.str w0, .str n]), some (.str (Txt.replace t sc2 lf)), some (bkD bk)] G := fun c => by
        refine hW3 _ _ ?_
        refine seq_gen fun W4 hW4 => ?_
        (try dsimp only [sPutD, eVar, List.getElem?_cons_succ, List.getElem?_cons_zero, eOp, eC]); (try simp only [sizeLine_eq]); (skip)
        refine fld_kept da rfl rfl ?_
        refine ix_at (atI_nat (j := 1) rfl) ?_
        (try dsimp only [keyD]); (try simp only [da.kp]); (skip)
        refine ⟨by rw [List.length_map]; omega, ?_⟩
        rw [putK_n, putV_n]
        refine hW4 _ _ ?_
        (try dsimp only [sRet, eC]); (skip); (skip)
        exact fin_dput da rfl (k2 c)
      cases e : bkAt ns bks n with
      | none =>
        (try dsimp only [Option.map_none, Option.isSome_none]); (try simp only [Bool.not_false, if_true]); (skip)
        refine fld_kept da rfl rfl ?_
        (try dsimp only [cLenD]); (try simp only [lkD_kept da, List.length_map]); (skip)
        refine eq_ii ?_
        by_cases c : ns.length = 40
        · rw [decide_eq_true (by omega)]
          (try dsimp only); (try simp only [if_true]); (skip)
          exact finX_id (k1 ⟨bn.mp e, c⟩)
        · rw [decide_eq_false (by omega)]
          (try dsimp only); (try simp only [Bool.false_eq_true, if_false]); (skip)
          exact put fun q => c q.2
      | some b0 =>
        (try dsimp only [Option.map_some, Option.isSome_some]); (try simp only [Bool.not_true, Bool.false_eq_true, if_false]); (skip)
        exact put fun c => by rw [bn.mpr c.1] at e; cases e
theorem ins_dk {G : Gp} {a p dx : Addr} {ns : List Str} {bks : List (List Stretch)} {m : Str} (h : DkAt G a p dx ns bks) (hm : m ≠ Str.ofString "kept") : isIns "Desk" m G (.ref a) := by
  simp only [isIns, h.ob]
  exact ⟨trivial, by simpa using hm⟩
theorem w_if {w k : Str} {r : List Str} {A B : ES} {N : En} {s : Sd} {G : Gp} (hs : s[1]? = some (some (wsD (w :: r)))) (hw : Asc w) (hk : Asc k) (h : if w = k then A N s G else B N s G) :
    sIf (eT (eOp oEq (eOp oIx (eVar 1) (eC (.int 0))) (eC (.str k)))) A B N s G := by
  have h2 : oIx (wsD (w :: r)) (.int 0) G fun x G1 => oEq x (.str k) G1 fun d G2 => match d with | .bl b => if b = true then A N s G2 else B N s G2 | _ => False := by
    refine ws_at (k := 0) rfl ?_
    refine eq_ss hw hk ?_
    by_cases c : w = k
    · rw [if_pos c] at h
      show if decide (w = k) = true then A N s G else B N s G
      rw [decide_eq_true c]; exact h
    · rw [if_neg c] at h
      show if decide (w = k) = true then A N s G else B N s G
      rw [decide_eq_false c]; exact h
  simp only [sIf, eT, eOp, eVar, eC, hs]
  exact h2
theorem isN_st {i : Int} (h : 0 ≤ i ∧ i ≤ 24) : isN (iSt i) = true := by
  unfold isN
  rw [numW_int, Bool.and_eq_true, decide_eq_true_iff]
  refine ⟨rfl, ?_⟩
  obtain ⟨n, rfl⟩ : ∃ n : Nat, i = (n : Int) := ⟨i.toNat, by omega⟩
  have e : (iSt (n : Int)).cps.toList = TL.numL n := TL.tl_num n
  rw [e]
  have h1 := TL.numL_len (n := n) (k := 2) (by decide) (by omega)
  have h2 : (figs (TL.numL n)).length ≤ (TL.numL n).length := by
    unfold figs
    split
    · rename_i e; rw [e, List.length_cons]; omega
    · exact Nat.le_refl _
  omega
theorem beN_st {i : Int} {m : Nat} (h : 0 ≤ i ∧ i ≤ 24) (hm : i ≤ (m : Int)) : beN (iSt i) m = true := by
  unfold beN
  rw [isN_st h, numW_int, Bool.true_and]
  exact decide_eq_true ⟨h.1, hm⟩
theorem tru_str {G : Gp} {z : Str} (h : z.length ≤ 16777216) : truD G (.str z) = some (((z.length : Nat) : Int) != 0) := by
  simp only [truD, sizeLine_eq, if_pos h]
theorem book_ln {bk : List Stretch} (hb : BOk bk) : (textOf (bk.map wS)).length ≤ 1000000 := (book_back hb).1.len
theorem row_S' {bk : List Stretch} (hb : ∀ s ∈ bk, SOk s) : ∀ r ∈ bk.map wS, RowOk r := fun r hr => by
  obtain ⟨s, h1, rfl⟩ := List.mem_map.mp hr
  exact row_S (hb s h1)
end DL
set_option Elab.async false
set_option linter.all false
set_option maxRecDepth 100000
set_option maxHeartbeats 4000000
namespace DL
open PySem PySem.Spec PyProof.Rows L2 LN
def SayBook (G : Gp) (p : Addr) (ns : List Str) (bks : List (List Stretch)) (z : Str) (Q : DK) (U : Ux) : Prop := ∃ n t, z = Str.ofString "book " ++ (n ++ bl ++ t) ∧ NameOk n ∧ TextOk (Txt.replace t sc2 lf) ∧ (∀ k : Nat, readB (rowsT (Txt.replace t sc2 lf)) [] = .inl k → U ⟨"NoText", some ("row", .int (k : Int))⟩ G) ∧
  ∀ bk, readB (rowsT (Txt.replace t sc2 lf)) [] = .inr bk → (n ∉ ns ∧ ns.length = 40 → U ⟨"TooMany", none⟩ G) ∧ (¬ (n ∉ ns ∧ ns.length = 40) → Q (.str "ok") (dput G p (putN ns n) (putBk ns bks n bk)))
def SayNames (G : Gp) (ns : List Str) (z : Str) (Q : DK) : Prop := z = Str.ofString "names" ∧ (∀ n ∈ ns, NameOk n) ∧ ∀ ms : List Str, ms.Perm ns → sortedS ms = true → Q (.str (if ms = [] then Str.ofString "-" else Txt.join bl ms)) G
theorem starts_app (a b : Str) : Txt.startswith (a ++ b) a = true := by
  have e1 := S_eta a
  have e2 := S_eta (a ++ b)
  have h := starts_S (a ++ b).cps.toList a.cps.toList
  rw [e1, e2, app_tl] at h
  rw [h]
  exact decide_eq_true List.take_left
theorem starts_ne {z p : Str} {c d : Nat} {r q : List Nat} (hz : z.cps.toList = c :: r) (hp : p.cps.toList = d :: q) (h : c ≠ d) : Txt.startswith z p = false := by
  rw [← S_eta z, ← S_eta p, starts_S, hz, hp]
  refine decide_eq_false fun e => ?_
  rw [List.length_cons, List.take_succ_cons] at e
  injection e with e1 _
  exact h e1
theorem in_tstrs {m : Str} {l : List Str} {G : Gp} {Q : DK} (q : Q (.bl (decide (m ∈ l))) G) : oIn false (.str m) (.tup (l.map D.str)) G Q := by
  simp only [oIn, flD, lkQ, Option.bind_some, flDs_strs, inV_strs, Bool.false_eq_true, if_false]
  exact q
theorem w_if2 {w k : Str} {r : List Str} {A B : ES} {N : En} {s : Sd} {G : Gp} (hs : s[2]? = some (some (wsD (w :: r)))) (hw : Asc w) (hk : Asc k) (h : if w = k then A N s G else B N s G) :
    sIf (eT (eOp oEq (eOp oIx (eVar 2) (eC (.int 0))) (eC (.str k)))) A B N s G := by
  have h2 : oIx (wsD (w :: r)) (.int 0) G fun x G1 => oEq x (.str k) G1 fun d G2 => match d with | .bl b => if b = true then A N s G2 else B N s G2 | _ => False := by
    refine ws_at (k := 0) rfl ?_
    refine eq_ss hw hk ?_
    by_cases c : w = k
    · rw [if_pos c] at h
      show if decide (w = k) = true then A N s G else B N s G
      rw [decide_eq_true c]; exact h
    · rw [if_neg c] at h
      show if decide (w = k) = true then A N s G else B N s G
      rw [decide_eq_false c]; exact h
  simp only [sIf, eT, eOp, eVar, eC, hs]
  exact h2
theorem row_of_words {w : Str} {r : List Str} (h1 : 1 ≤ w.length) (hl : (w :: r).length ≤ 6) (h : ∀ v ∈ w :: r, v.length ≤ 61 ∧ Asc v ∧ 32 ∉ v.cps.toList ∧ 10 ∉ v.cps.toList) : RowOk (w :: r) :=
  ⟨by simp, glue_pos h1, by
    have := glue_le (l := w :: r) (B := 61) fun y hy => (h y hy).1
    have h2 : (w :: r).length * (61 + 1) ≤ 6 * 62 := Nat.mul_le_mul_right _ hl
    omega, fun v hv => (h v hv).2.2, fun v hv => (h v hv).2.1⟩
theorem ask_row {n : Str} {q : Ask} (hn : NameOk n) (hq : q.ok) : ∃ w r, q.ws n = w :: n :: r ∧ RowOk (q.ws n) ∧ rowB (q.ws n) = true ∧ Asc w ∧ w ≠ Str.ofString "names" ∧ w ≠ Str.ofString "drop" ∧ w ∉ [Str.ofString "put", Str.ofString "gone", Str.ofString "worth", Str.ofString "slide"] := by
  have wn : ∀ {m : Str}, NameOk m → m.length ≤ 61 ∧ Asc m ∧ 32 ∉ m.cps.toList ∧ 10 ∉ m.cps.toList := fun {m} h => ⟨by have := h.l8; omega, asc_name h, free_name h (by decide), free_name h (by decide)⟩
  have wi : ∀ {i : Int}, 0 ≤ i ∧ i ≤ 24 → (iSt i).length ≤ 61 ∧ Asc (iSt i) ∧ 32 ∉ (iSt i).cps.toList ∧ 10 ∉ (iSt i).cps.toList := fun {i} h => ⟨(iS_ok (i := i) ⟨by omega, by omega⟩).1, (iS_ok (i := i) ⟨by omega, by omega⟩).2.1, free_int (by decide), free_int (by decide)⟩
  have fn : ∀ {m : Str}, NameOk m → formB m (Str.ofString "name") = true := fun {m} h => by unfold formB; rw [if_pos rfl]; exact namB_iff.mpr h
  have fb : ∀ {i : Int}, 0 ≤ i ∧ i ≤ 24 → formB (iSt i) (Str.ofString "benches") = true := fun {i} h => by
    unfold formB
    rw [if_neg (by decide +kernel), if_neg (by decide +kernel), if_pos rfl]
    exact beN_st h h.2
  have ff : ∀ {i : Int}, 0 ≤ i ∧ i ≤ 23 → formB (iSt i) (Str.ofString "fewer") = true := fun {i} h => by
    unfold formB
    rw [if_neg (by decide +kernel), if_neg (by decide +kernel), if_neg (by decide +kernel)]
    exact beN_st ⟨h.1, by omega⟩ h.2
  have rb : ∀ {w : Str} {r fs : List Str}, kfind tab_FORMS w = some fs → r.length = fs.length → formsB r fs = true → rowB (w :: r) = true := fun {w r fs} h1 h2 h3 => by
    show (match kfind tab_FORMS w with | some fs => decide (r.length = fs.length) && formsB r fs | none => false) = true
    rw [h1]
    show (decide (r.length = fs.length) && formsB r fs) = true
    rw [h3, decide_eq_true h2]; rfl
  cases q with
  | shown => exact ⟨_, _, rfl, row_of_words (by decide +kernel) (by simp) (List.forall_mem_cons.mpr ⟨⟨by decide +kernel, asc_of _, by decide +kernel, by decide +kernel⟩, (List.forall_mem_cons.mpr ⟨wn hn, (fun _ h => by cases h)⟩)⟩), rb (fs := [Str.ofString "name"]) (by decide +kernel) rfl (by simp [formsB, fn hn]), asc_of _, by decide +kernel, by decide +kernel, by decide +kernel⟩
  | row => exact ⟨_, _, rfl, row_of_words (by decide +kernel) (by simp) (List.forall_mem_cons.mpr ⟨⟨by decide +kernel, asc_of _, by decide +kernel, by decide +kernel⟩, (List.forall_mem_cons.mpr ⟨wn hn, (fun _ h => by cases h)⟩)⟩), rb (fs := [Str.ofString "name"]) (by decide +kernel) rfl (by simp [formsB, fn hn]), asc_of _, by decide +kernel, by decide +kernel, by decide +kernel⟩
  | most i => exact ⟨_, _, rfl, row_of_words (by decide +kernel) (by simp) (List.forall_mem_cons.mpr ⟨⟨by decide +kernel, asc_of _, by decide +kernel, by decide +kernel⟩, (List.forall_mem_cons.mpr ⟨wn hn, (List.forall_mem_cons.mpr ⟨wi hq, (fun _ h => by cases h)⟩)⟩)⟩), rb (fs := [Str.ofString "name", Str.ofString "benches"]) (by decide +kernel) rfl (by simp [formsB, fn hn, fb hq]), asc_of _, by decide +kernel, by decide +kernel, by decide +kernel⟩
  | more i => exact ⟨_, _, rfl, row_of_words (by decide +kernel) (by simp) (List.forall_mem_cons.mpr ⟨⟨by decide +kernel, asc_of _, by decide +kernel, by decide +kernel⟩, (List.forall_mem_cons.mpr ⟨wn hn, (List.forall_mem_cons.mpr ⟨wi ⟨hq.1, by have := hq.2; omega⟩, (fun _ h => by cases h)⟩)⟩)⟩), rb (fs := [Str.ofString "name", Str.ofString "fewer"]) (by decide +kernel) rfl (by simp [formsB, fn hn, ff hq]), asc_of _, by decide +kernel, by decide +kernel, by decide +kernel⟩
  | who i => exact ⟨_, _, rfl, row_of_words (by decide +kernel) (by simp) (List.forall_mem_cons.mpr ⟨⟨by decide +kernel, asc_of _, by decide +kernel, by decide +kernel⟩, (List.forall_mem_cons.mpr ⟨wn hn, (List.forall_mem_cons.mpr ⟨wi hq, (fun _ h => by cases h)⟩)⟩)⟩), rb (fs := [Str.ofString "name", Str.ofString "benches"]) (by decide +kernel) rfl (by simp [formsB, fn hn, fb hq]), asc_of _, by decide +kernel, by decide +kernel, by decide +kernel⟩
  | wanted i m => exact ⟨_, _, rfl, row_of_words (by decide +kernel) (by simp) (List.forall_mem_cons.mpr ⟨⟨by decide +kernel, asc_of _, by decide +kernel, by decide +kernel⟩, (List.forall_mem_cons.mpr ⟨wn hn, (List.forall_mem_cons.mpr ⟨wi hq.1, (List.forall_mem_cons.mpr ⟨wn hq.2, (fun _ h => by cases h)⟩)⟩)⟩)⟩), rb (fs := [Str.ofString "name", Str.ofString "benches", Str.ofString "name"]) (by decide +kernel) rfl (by simp [formsB, fn hn, fb hq.1, fn hq.2]), asc_of _, by decide +kernel, by decide +kernel, by decide +kernel⟩
theorem rowT_len {rows : List (List Str)} (h : ∀ r ∈ rows, RowOk r) : (rowT rows).length ≤ rows.length * 642 := by
  have h1 := join_le sc2 (rows.map glue)
  have h2 := sumS_le (B := 640) (rows.map glue) fun y hy => by
    obtain ⟨r, hr, rfl⟩ := List.mem_map.mp hy
    exact (h r hr).le
  have h4 : sc2.length = 2 := by decide +kernel
  rw [List.length_map] at h1 h2
  rw [h4] at h1
  unfold rowT
  omega
theorem rowT_asc {rows : List (List Str)} (h : ∀ r ∈ rows, RowOk r) : Asc (rowT rows) := asc_joinT (asc_of _) fun y hy => by
  obtain ⟨r, hr, rfl⟩ := List.mem_map.mp hy
  exact asc_joinT (asc_of _) fun w hw => (h r hr).asc w hw
theorem rowT_lf {rows : List (List Str)} (h : ∀ r ∈ rows, RowOk r) : 10 ∉ (rowT rows).cps.toList := fun c => by
  rcases mem_joinT c with q | ⟨p, hp, q⟩
  · rw [tl_sc] at q; simp at q
  · obtain ⟨r, hr, rfl⟩ := List.mem_map.mp hp
    exact glue_lf (h r hr) q
theorem glue_asc {r : List Str} (h : RowOk r) : Asc (glue r) := asc_joinT (asc_of _) fun w hw => h.asc w hw
theorem free_app {a b : Str} {c : Nat} (ha : c ∉ a.cps.toList) (hb : c ∉ b.cps.toList) : c ∉ (a ++ b).cps.toList := fun hc => by
  rw [app_tl] at hc
  rcases List.mem_append.mp hc with q | q
  · exact ha q
  · exact hb q
theorem semi_S {s : Stretch} (h : SOk s) : ∀ w ∈ wS s, 59 ∉ w.cps.toList := fun w hw => by
  simp only [wS, List.mem_cons, List.not_mem_nil, or_false] at hw
  rcases hw with rfl | rfl | rfl | rfl | rfl
  · decide +kernel
  · exact free_name h.nm (by decide)
  all_goals exact free_int (by decide)
end DL
set_option Elab.async false
set_option linter.all false
set_option maxRecDepth 100000
set_option maxHeartbeats 4000000
namespace DL
open PySem PySem.Spec PyProof.Rows L2
section
variable {P : Program} {w : World} {K : PySem.W.Frag} {mg : Str → Option Value} {base : Heap}
/-- as fkQ_ok, a token out -/
theorem fkQT_ok {x qual : Str} {params : Arguments} {body : List Stmt} {scope : Scope} {kws : List (Str × V)} {dvs : List V} {f : Addr} {fd : FuncData} {N ps : List Str} {k : Nat} {F : Sx} {es : ES}
    (FF : FunD K x qual params body scope dvs kws f fd) (S : FnScope N ps scope) (hnc : ∀ y ∈ scope.names, y.2 ≠ .cell) (hps : 1 ≤ ps.length)
    (hJ : ∀ (cdv : Value) (A : Around) (outer : List Env) (s : Shared) (H : Hp) (E : XK), Room k (A.deeper (envOfC qual scope s.heap.objs.size f cdv)) → L2Q.Takes (cxOf (L2Q.CX P w) P w K mg base N qual scope f cdv A outer s H E) (wE E).w →
      PassesOwn (model P w) (A.deeper (envOfC qual scope s.heap.objs.size f cdv)) (envOfC qual scope s.heap.objs.size f cdv) (cxOf (L2Q.CX P w) P w K mg base N qual scope f cdv A outer s H E).xe → JSsT (cxOf (L2Q.CX P w) P w K mg base N qual scope f cdv A outer s H E) (wE E) body es)
    (hR : ∀ ds G Q U, F ds G Q U → es (finX G Q U) (startD N.length ds) G) : FnOk P w K mg base (L2Q.CX P w) (k + 1) f fd ps (LfX K ps.length F) := by
  obtain ⟨oc, od, dV, kV, doc, pm, an, cdv, ct, osl, rfl, lk, hcd, _, _⟩ := FF.ex
  refine fn_ofT lk hcd S hnc hps (fun vs H Q E h => h.1) (fun A outer s H vs Q E hr h => ?_)
  obtain ⟨_, P', ds, G, Q', U, wo, r, hf, kk, kx⟩ := h
  obtain ⟨a, b⟩ := hJ cdv A outer s H E hr (L2Q.takes_of rfl rfl rfl rfl) (passes_of rfl)
  refine ⟨_, a, ?_⟩
  refine b P' (startD N.length ds) G (finX G Q' U) _ H _ (hR ds G Q' U hf) (rl_start wo r) ⟨?_, ?_, ?_, ?_, ?_⟩
  · intro s' G' σ' H' st rl hq
    obtain ⟨d2, G2, fz, q2⟩ := hq
    obtain ⟨b1, b2, b3⟩ := fz K P' H H' .non wo st rl.wo rep_non
    exact kk d2 G2 .non H' b1 b2 b3 q2
  · intro d G' v H' st w' rp hq
    obtain ⟨d2, G2, fz, q2⟩ := hq
    obtain ⟨b1, b2, b3⟩ := fz K P' H H' v wo st w' rp
    exact kk d2 G2 v H' b1 b2 b3 q2
  · intro s' G' σ' H' st rl hq
    exact hq.elim
  · intro s' G' σ' H' st rl hq
    exact hq.elim
  · intro x s' G' cls d σ' H' st rl rx hq
    obtain ⟨G2, fz, q2⟩ := hq
    obtain ⟨b1, b2, b3⟩ := fz K P' H H' cls d wo st rl.wo rx
    exact kx x G2 cls d H' b1 b2 b3 q2
theorem calQT_ok {x : Str} {st : Stmt} {N ps : List Str} {k : Nat} {F : Sx} {es : ES} (D : Df K mg x st) (S : FnScope N ps (defScope st))
    (hb : ∀ (kV doc pm : Value) (an : Option Addr) (cdv ct : Value) (us : List Value), us.length = ps.length → bindArgs (PySem.W.fnOf x x (defArgs st) (defBody st) (defScope st) .none kV doc pm an cdv ct) ⟨us, []⟩ = pure (ps.zip us))
    (hJ : ∀ (f : Addr) (cdv : Value) (A : Around) (outer : List Env) (s : Shared) (H : Hp) (E : XK), Room k (A.deeper (envOfC x (defScope st) s.heap.objs.size f cdv)) → L2Q.Takes (cxOf (L2Q.CX P w) P w K mg base N x (defScope st) f cdv A outer s H E) (wE E).w →
      PassesOwn (model P w) (A.deeper (envOfC x (defScope st) s.heap.objs.size f cdv)) (envOfC x (defScope st) s.heap.objs.size f cdv) (cxOf (L2Q.CX P w) P w K mg base N x (defScope st) f cdv A outer s H E).xe → JSsT (cxOf (L2Q.CX P w) P w K mg base N x (defScope st) f cdv A outer s H E) (wE E) (defBody st) es)
    (hR : ∀ ds G Q U, F ds G Q U → es (finX G Q U) (startD N.length ds) G) (hnc : ∀ y ∈ (defScope st).names, y.2 ≠ .cell := by decide +kernel) (hps : 1 ≤ ps.length := by decide) : CalQ P w K mg base (k + 1) x ps F := by
  obtain ⟨f, fd, h1, h2⟩ := D.ex
  exact ⟨f, fd, fkQT_ok h1 S hnc hps (hJ f) hR, h2, h1.kp, h1.bindsN hb⟩
end
end DL
set_option Elab.async false
set_option linter.all false
set_option maxRecDepth 100000
set_option maxHeartbeats 4000000
namespace DL
open PySem PySem.Spec PyProof.Rows L2
section
variable {M : Model} {A : Around} {E : Value → Shared → Prop} {s0 s : Shared} {m cm : Str → Option Value} {env : Env}
/-- a local name is stored: a token is out -/
theorem stl1 {n : Str} {v : Value} {Q : Unit → Shared → Prop} (x : InCallC s0 env.locals m env.cells cm s) (hk : env.scope.kind = .function) (hl : env.kindOf n = some .local)
    (h : ∀ s', InCallC s0 env.locals (fun y => if y = n then some v else m y) env.cells cm s' → 1 ≤ s'.toks → Q () s') : wpAny M A (storeName env n v) Q E s := by
  refine wpAny_storeName_local hl x.toInCall.ns (fun g gn gs => h _ ⟨⟨?_, gn, fun b o e => gs.extBut b o (Nat.ne_of_lt (Nat.lt_of_lt_of_le (Heap.lt_size e) x.toInCall.fresh)) (x.toInCall.keep b o e), x.toInCall.fresh⟩, fun k c hc => (x.cell k c hc).sameBut gs (Nat.ne_of_gt (x.above k c (mem_of_lookup hc))), x.apart, x.above⟩ (Nat.le_add_left 1 _)) (by rw [hk]; rfl)
  obtain ⟨h1, tk, e⟩ := x.toInCall.same
  exact ⟨g, _, by rw [e]⟩
theorem bind1 (f : Str × Value → PUnit → Sem (ForInStep PUnit)) (hf : ∀ n v u, f (n, v) u = (do storeName env n v; pure (.yield ⟨⟩))) (hk : env.scope.kind = .function) {n : Str} {v : Value} {r : List (Str × Value)} {Q : PUnit → Shared → Prop} (x : InCallC s0 env.locals m env.cells cm s)
    (hl : env.kindOf n = some .local) (hr : ∀ x ∈ r, env.kindOf x.1 = some .local ∨ (env.kindOf x.1 = some .cell ∧ (env.cells.lookup x.1).isSome = true))
    (h : ∀ s', InCallC s0 env.locals (bindL env.kindOf ((n, v) :: r) m) env.cells (bindC env.kindOf ((n, v) :: r) cm) s' → 1 ≤ s'.toks → Q ⟨⟩ s') : wpAny M A (forIn ((n, v) :: r) ⟨⟩ f) Q E s := by
  rw [List.forIn_cons, hf]
  refine wpAny_bind (wpAny_bind (stl1 x hk hl fun s1 x1 t1 => wpAny_pure ?_))
  refine wpAny_mono (PySem.wpAny_toks (wpAny_bindParams (E := E) f hf hk r _ _ s1 (fun u s2 => InCallC s0 env.locals (bindL env.kindOf ((n, v) :: r) m) env.cells (bindC env.kindOf ((n, v) :: r) cm) s2) x1 hr fun s2 x2 => ?_)) (fun u s2 q => ?_) fun _ _ e => e.2
  · unfold bindL bindC
    rw [if_pos hl, if_pos hl]
    exact x2
  · exact h s2 q.2 (Nat.le_trans t1 q.1)
end
section
variable {M : Model} {A : Around} {E : Value → Shared → Prop} {s : Shared}
theorem env1 {scope : Scope} {globals : Addr} {n : Str} {v : Value} {r : List (Str × Value)} {qual : Str} {func : Option Addr} {code : Value} {builtins : Addr} {Q : Env → Shared → Prop} (hk : scope.kind = .function) (hl : scope.names.lookup n = some .local)
    (hr : ∀ x ∈ r, scope.names.lookup x.1 = some .local ∨ (scope.names.lookup x.1 = some .cell ∧ ((cellsFrom (s.heap.objs.size + 1) scope.names []).lookup x.1).isSome = true))
    (hQ : ∀ env, env = newEnv scope s.heap.objs.size globals (cellsFrom (s.heap.objs.size + 1) scope.names []) qual func code none builtins →
      ∀ s', InCallC s env.locals (bindL env.kindOf ((n, v) :: r) fun _ => none) env.cells (bindC env.kindOf ((n, v) :: r) fun _ => none) s' → 1 ≤ s'.toks → Q env s') :
    wpAny M A (newFunctionEnv scope globals [] ((n, v) :: r) qual func code none builtins) Q E s := by
  simp only [newFunctionEnv, Option.isSome_none, Bool.false_eq_true, if_false]
  refine wpAny_bind (wpAny_alloc (wpAny_bind (wpAny_layCells _ (fun name kind cells => by cases hkc : kind == NameKind.cell <;> simp [hkc]) _ _ _ _ ?_)))
  have ok := cellsFrom_ok scope.names (s.heap.push { cls := .type "frame", data := .dict #[] }) (s.heap.objs.size + 1) [] ⟨fun _ _ hm => (nomatch hm), List.Pairwise.nil⟩ (by rw [Heap.size_push]; exact Nat.le_refl _)
  rw [Heap.size_push] at ok; rw [show ({ s with heap := s.heap.push { cls := .type "frame", data := .dict #[] } } : Shared).heap.objs.size = s.heap.objs.size + 1 from Heap.size_push ..]
  refine wpAny_bind (bind1 (s0 := s) (m := fun _ => none) (cm := fun _ => none) (env := newEnv scope s.heap.objs.size globals (cellsFrom (s.heap.objs.size + 1) scope.names []) qual func code none builtins) _ (fun _ _ _ => rfl) hk ⟨⟨⟨_, _, rfl⟩, (Heap.Ns.new s.heap (.type "frame")).keeps (pushCells_keeps _ _), fun b o e => pushCells_keeps _ _ b o (Heap.get?_push_of_some _ e), Nat.le_refl _⟩,
      fun n c hc => (ok.empty n c (mem_of_lookup hc)).1, ok.apart, fun n c hm => (ok.empty n c hm).2⟩ hl hr fun s' x t => wpAny_pure (hQ _ rfl s' x t))
end
theorem fn_ofT1 {CX : CXT} {P : Program} {w : World} {K : PySem.W.Frag} {mg : Str → Option Value} {base : Heap} {k : Nat} {f : Addr} {name qual : Str} {params : Arguments} {body : List Stmt} {scope : Scope} {dV kV doc pm cdv ct oc : Value} {an od : Option Addr}
    {osl : Array (Option Value)} {N : List Str} {p0 : Str} {pr : List Str} {sp : Sp} (lk : K.lookup f = some ⟨oc, od, .func (PySem.W.fnOf name qual params body scope dV kV doc pm an cdv ct), osl⟩) (hcd : PySem.W.codeIn K cdv qual = true) (S : FnScope N (p0 :: pr) scope)
    (h0 : scope.names.lookup p0 = some .local) (len : ∀ vs H Q E, sp vs H Q E → vs.length = (p0 :: pr).length)
    (hbody : ∀ (A : Around) (outer : List Env) (s : Shared) (H : Hp) (vs : List V) (Q : VK) (E : XK), Room k (A.deeper (envOfC qual scope s.heap.objs.size f cdv)) → sp vs H Q E →
      ∃ t, PSsT (cxOf CX P w K mg base N qual scope f cdv A outer s H E) body t ∧ t { nx := fun _ H' => Q .non H', rt := Q } (start N vs) H) :
    FnOk P w K mg base CX (k + 1) f (PySem.W.fnOf name qual params body scope dV kV doc pm an cdv ct) (p0 :: pr) sp := by
  refine ⟨len, fun A outer s H args us vs Q E hr e0 hb r hsp => ?_⟩
  have hl := len _ _ _ _ hsp
  have KX : K.In s.heap := e0.mod.kin.keeps fun b o e => (e0.bs b o e).1
  have lim : s.heap.NoLimit := e0.mod.nolimit.keeps fun b o e => (e0.bs b o e).1
  have hul : us.length = (p0 :: pr).length := by rw [← r.length, hl]
  cases us with
  | nil => cases hul
  | cons u us =>
  have kinds : ∀ y ∈ pr.zip us, scope.names.lookup y.1 = some .local ∨ (scope.names.lookup y.1 = some .cell ∧ ((cellsFrom (s.heap.objs.size + 1) scope.names []).lookup y.1).isSome = true) := fun ⟨n, v⟩ hy => by
    rcases S.par n (List.mem_cons_of_mem _ (List.of_mem_zip hy).1) with q | q
    · exact .inl q
    · exact .inr ⟨q, PySem.W.cellsFrom_some _ _ _ (.inl q)⟩
  refine codeAny_call_function hr.depth (KX _ _ lk) rfl S.co S.gen rfl (PySem.W.codeRec_of KX hcd) (hb _ _ _ _ ?_)
  rw [List.zip_cons_cons]
  refine env1 S.kind h0 kinds fun env he s1 x hto => ?_
  subst he
  refine ⟨lim.keeps x.toInCall.keep, codeAny_func ?_⟩
  obtain ⟨t, ht, hq⟩ := hbody A outer s H vs Q E (hr.deeper _) hsp
  have I : Inv (cxOf CX P w K mg base N qual scope f cdv A outer s H E) [] (start N vs) H s1 := inv_start S hr.hd e0 hl r x
  refine wpAny_mono (ht [] s1 (start N vs) H _ hto I hq) (fun fl s' hs => ?_) fun e s' hs => hs
  have fin : ∀ {σ' : L2.St} {H' : Hp} {v : V} {u : Value}, Inv (cxOf CX P w K mg base N qual scope f cdv A outer s H E) [] σ' H' s' → RelV v u → Q v H' → CE outer P w H s Q u s' := fun {σ' H' v u} J rv q => ⟨v, H', J.os, J.bare, J.base, J.hok, rv, q⟩
  cases fl with
  | ret u => obtain ⟨v, σ', H', J, rv, q⟩ := hs; exact fin J rv q
  | next => obtain ⟨σ', H', J, q⟩ := hs; exact fin (v := V.non) (u := Value.none) J rfl q
  | brk => obtain ⟨_, _, _, q⟩ := hs; exact q.elim
  | cont => obtain ⟨_, _, _, q⟩ := hs; exact q.elim
section
variable {P : Program} {w : World} {K : PySem.W.Frag} {mg : Str → Option Value} {base : Heap}
/-- as fkQ_ok, a token out -/
theorem fkQT1_ok {x qual : Str} {params : Arguments} {body : List Stmt} {scope : Scope} {kws : List (Str × V)} {dvs : List V} {f : Addr} {fd : FuncData} {N : List Str} {p0 : Str} {pr : List Str} {k : Nat} {F : Sx} {es : ES}
    (FF : FunD K x qual params body scope dvs kws f fd) (S : FnScope N (p0 :: pr) scope) (h0 : scope.names.lookup p0 = some .local)
    (hJ : ∀ (cdv : Value) (A : Around) (outer : List Env) (s : Shared) (H : Hp) (E : XK), Room k (A.deeper (envOfC qual scope s.heap.objs.size f cdv)) → L2Q.Takes (cxOf (L2Q.CX P w) P w K mg base N qual scope f cdv A outer s H E) (wE E).w →
      PassesOwn (model P w) (A.deeper (envOfC qual scope s.heap.objs.size f cdv)) (envOfC qual scope s.heap.objs.size f cdv) (cxOf (L2Q.CX P w) P w K mg base N qual scope f cdv A outer s H E).xe → JSsT (cxOf (L2Q.CX P w) P w K mg base N qual scope f cdv A outer s H E) (wE E) body es)
    (hR : ∀ ds G Q U, F ds G Q U → es (finX G Q U) (startD N.length ds) G) : FnOk P w K mg base (L2Q.CX P w) (k + 1) f fd (p0 :: pr) (LfX K (p0 :: pr).length F) := by
  obtain ⟨oc, od, dV, kV, doc, pm, an, cdv, ct, osl, rfl, lk, hcd, _, _⟩ := FF.ex
  refine fn_ofT1 lk hcd S h0 (fun vs H Q E h => h.1) (fun A outer s H vs Q E hr h => ?_)
  obtain ⟨_, P', ds, G, Q', U, wo, r, hf, kk, kx⟩ := h
  obtain ⟨a, b⟩ := hJ cdv A outer s H E hr (L2Q.takes_of rfl rfl rfl rfl) (passes_of rfl)
  refine ⟨_, a, ?_⟩
  refine b P' (startD N.length ds) G (finX G Q' U) _ H _ (hR ds G Q' U hf) (rl_start wo r) ⟨?_, ?_, ?_, ?_, ?_⟩
  · intro s' G' σ' H' st rl hq
    obtain ⟨d2, G2, fz, q2⟩ := hq
    obtain ⟨b1, b2, b3⟩ := fz K P' H H' .non wo st rl.wo rep_non
    exact kk d2 G2 .non H' b1 b2 b3 q2
  · intro d G' v H' st w' rp hq
    obtain ⟨d2, G2, fz, q2⟩ := hq
    obtain ⟨b1, b2, b3⟩ := fz K P' H H' v wo st w' rp
    exact kk d2 G2 v H' b1 b2 b3 q2
  · intro s' G' σ' H' st rl hq
    exact hq.elim
  · intro s' G' σ' H' st rl hq
    exact hq.elim
  · intro x s' G' cls d σ' H' st rl rx hq
    obtain ⟨G2, fz, q2⟩ := hq
    obtain ⟨b1, b2, b3⟩ := fz K P' H H' cls d wo st rl.wo rx
    exact kx x G2 cls d H' b1 b2 b3 q2
theorem fk_methQT1 {C m q : Str} {st : Stmt} {N : List Str} {p0 : Str} {pr : List Str} {k : Nat} {F : Sx} {es : ES} (D : DfM K C m q st) (S : FnScope N (p0 :: pr) (defScope st))
    (hb : ∀ (kV doc pm : Value) (an : Option Addr) (cdv ct : Value) (us : List Value), us.length = (p0 :: pr).length → bindArgs (PySem.W.fnOf m q (defArgs st) (defBody st) (defScope st) .none kV doc pm an cdv ct) ⟨us, []⟩ = pure ((p0 :: pr).zip us))
    (hJ : ∀ (f : Addr) (cdv : Value) (A : Around) (outer : List Env) (s : Shared) (H : Hp) (E : XK), Room k (A.deeper (envOfC q (defScope st) s.heap.objs.size f cdv)) → L2Q.Takes (cxOf (L2Q.CX P w) P w K mg base N q (defScope st) f cdv A outer s H E) (wE E).w →
      PassesOwn (model P w) (A.deeper (envOfC q (defScope st) s.heap.objs.size f cdv)) (envOfC q (defScope st) s.heap.objs.size f cdv) (cxOf (L2Q.CX P w) P w K mg base N q (defScope st) f cdv A outer s H E).xe → JSsT (cxOf (L2Q.CX P w) P w K mg base N q (defScope st) f cdv A outer s H E) (wE E) (defBody st) es)
    (hR : ∀ ds G Q U, F ds G Q U → es (finX G Q U) (startD N.length ds) G) (h0 : (defScope st).names.lookup p0 = some .local := by decide +kernel) : ∃ fd, FnOk P w K mg base (L2Q.CX P w) (k + 1) (He.ma K (He.ga K C) m) fd (p0 :: pr) (LfX K (p0 :: pr).length F) ∧ Binds K fd (p0 :: pr) [] := by
  obtain ⟨fd, h1⟩ := D.ex
  exact ⟨fd, fkQT1_ok h1 S h0 (hJ _) hR, h1.bindsN hb⟩
end
section
variable {X : Cx} {K : PySem.W.Frag} {C : Str}
theorem j_make0 {k : Nat} {ps : List Str} {F : Sf} {p pos : Pos} (c : CalK X.prog X.w K X.mg X.base k C ps F) (hr : Room (k + 1) X.A) (hg : Gl X C) (hK : X.K = K := by rfl) (hlen : 1 = ps.length := by rfl) (hdb : (C == ("__debug__" : Str)) = false := by decide) : JE X (.Call (.Name C p) [] [] pos) (eMake C F eNil) := by
  subst hK
  obtain ⟨fd, h1, h2, h3, h4⟩ := c.ex
  have h1' := h1
  unfold FK at h1'
  rw [← hlen] at h1'
  exact ⟨pe_make0 h2 h1' hr hg h4 h3 .nil pass0 hdb, le_make (n := 0) (E := fun _ _ _ => False) la_nil⟩
end
end DL
set_option Elab.async false
set_option linter.all false
set_option maxRecDepth 100000
set_option maxHeartbeats 4000000
namespace DL
open PySem PySem.Spec PyProof.Rows L2 LN
def suiteS (x : Xd) (a dd : Addr) : ES :=
    (sSeq (sAsg (eLst (eCons (eIsE a dd x 4 (isSub x.c "NoRow")) (eCons (eIsE a dd x 4 (isSub x.c "Unknown")) (eCons (eIsE a dd x 4 (isSub x.c "NoStretch")) eNil)))) (.nm 5))
  (sSeq (sAsg (eOp oAdd (eVar 5) (eLst (eCons (eIsE a dd x 4 (isSub x.c "NoText")) (eCons (eIsE a dd x 4 (isSub x.c "TooMany")) (eCons (eIsE a dd x 4 (isSub x.c "NoBook")) eNil))))) (.nm 5))
  (sSeq (sAsg (eOp oAdd (eVar 5) (eLst (eCons (eIsE a dd x 4 (isSub x.c "NoBenches")) (eCons (eIsE a dd x 4 (isSub x.c "NoTree")) (eCons (eIsE a dd x 4 (isSub x.c "Crowded")) eNil))))) (.nm 5))
  (sSeq (sAsg (eOp oAdd (eVar 5) (eLst (eCons (eIsE a dd x 4 (isSub x.c "NoRing")) (eCons (eIsE a dd x 4 (isSub x.c "NoTurn")) (eCons (eIsE a dd x 4 (isSub x.c "NoUndo")) eNil))))) (.nm 5))
  (sSeq (sAsg (eLst (eCons (eC (.str "NoRow")) (eCons (eC (.str "Unknown")) (eCons (eC (.str "NoStretch")) (eCons (eC (.str "NoText")) (eCons (eC (.str "TooMany")) (eCons (eC (.str "NoBook")) eNil))))))) (.nm 6))
  (sSeq (sAsg (eOp oAdd (eVar 6) (eLst (eCons (eC (.str "NoBenches")) (eCons (eC (.str "NoTree")) (eCons (eC (.str "Crowded")) (eCons (eC (.str "NoRing")) (eCons (eC (.str "NoTurn")) (eCons (eC (.str "NoUndo")) eNil)))))))) (.nm 6))
  (sSeq (sAsg (eOp oAdd (eC (.str "!")) (eM1 mJoin (eC (.str "")) (eLc (iZ (eCons (eVar 6) (eCons (eVar 5) eNil))) (.tp [7, 8]) (eTru (eVar 8)) (eVar 7) [7, 8]))) (.nm 3))
  (sIf (eNot (eTru (eIsE a dd x 4 true))) (sAsg (eC (.str "!")) (.nm 3)) sNext))))))))
theorem isE_ok {a dd : Addr} {x : Xd} {i : Nat} {b : Bool} {s : Sd} {G : Gp} {Q : DK} (h : s[i]? = some (some (excD a dd x))) (q : Q (.bl b) G) : eIsE a dd x i b s G Q := by
  obtain ⟨c, f⟩ := x
  cases f with
  | none =>
    have h2 : s[i]? = some (some (.cl a)) := h
    simp only [eIsE, h2]
    exact ⟨trivial, rfl, q⟩
  | some r =>
    obtain ⟨n, e⟩ := r
    have h2 : s[i]? = some (some (.exc a dd n e)) := h
    simp only [eIsE, h2]
    exact ⟨trivial, rfl, q⟩
def bang (c : Str) : Str := Str.ofString "!" ++ c
def SaidC (c : Str) : Prop := c = Str.ofString "NoRow" ∨ c = Str.ofString "Unknown" ∨ c = Str.ofString "NoStretch" ∨ c = Str.ofString "NoText" ∨ c = Str.ofString "TooMany"
theorem suiteS_ok {x : Xd} {a dd : Addr} {N : En} {v0 v1 o5 o6 o7 o8 : Option D} {G : Gp} (hc : SaidC x.c)
    (k : ∀ o5 o6, N.nx [v0, v1, some .non, some (.str (bang x.c)), none, o5, o6, o7, o8] G) : suiteS x a dd (behind 4 N) [v0, v1, some .non, some (.str ""), some (excD a dd x), o5, o6, o7, o8] G := by
  unfold suiteS
  have i4 : ∀ o5 o6, ([v0, v1, some .non, some (.str (Str.ofString "")), some (excD a dd x), o5, o6, o7, o8] : Sd)[4]? = some (some (excD a dd x)) := fun _ _ => rfl
  rcases hc with h | h | h | h | h
  · rw [h] at k ⊢
    have i_NoRow : isSub (Str.ofString "NoRow") (Str.ofString "NoRow") = true := by decide +kernel
    have i_Unknown : isSub (Str.ofString "NoRow") (Str.ofString "Unknown") = false := by decide +kernel
    have i_NoStretch : isSub (Str.ofString "NoRow") (Str.ofString "NoStretch") = false := by decide +kernel
    have i_NoText : isSub (Str.ofString "NoRow") (Str.ofString "NoText") = false := by decide +kernel
    have i_TooMany : isSub (Str.ofString "NoRow") (Str.ofString "TooMany") = false := by decide +kernel
    have i_NoBook : isSub (Str.ofString "NoRow") (Str.ofString "NoBook") = false := by decide +kernel
    have i_NoBenches : isSub (Str.ofString "NoRow") (Str.ofString "NoBenches") = false := by decide +kernel
    have i_NoTree : isSub (Str.ofString "NoRow") (Str.ofString "NoTree") = false := by decide +kernel
    have i_Crowded : isSub (Str.ofString "NoRow") (Str.ofString "Crowded") = false := by decide +kernel
    have i_NoRing : isSub (Str.ofString "NoRow") (Str.ofString "NoRing") = false := by decide +kernel
    have i_NoTurn : isSub (Str.ofString "NoRow") (Str.ofString "NoTurn") = false := by decide +kernel
    have i_NoUndo : isSub (Str.ofString "NoRow") (Str.ofString "NoUndo") = false := by decide +kernel
    rw [i_NoRow, i_Unknown, i_NoStretch, i_NoText, i_TooMany, i_NoBook, i_NoBenches, i_NoTree, i_Crowded, i_NoRing, i_NoTurn, i_NoUndo]
    refine seq_gen fun W hW => ?_
    (try dsimp only [sAsg, eLst, eCons, asg, List.set_cons_succ, List.set_cons_zero, eNil]); (try simp only [List.length_cons, List.length_nil, Nat.reduceAdd, sizeLine_eq, Nat.reduceLeDiff, true_and]); (skip)
    refine isE_ok (i4 _ _) (isE_ok (i4 _ _) (isE_ok (i4 _ _) ?_))
    refine hW _ _ ?_
    refine seq_gen fun W2 hW2 => ?_
    (try dsimp only [sAsg, eOp, eVar, List.getElem?_cons_succ, List.getElem?_cons_zero, asg, List.set_cons_succ, List.set_cons_zero, eLst, eCons, eNil]); (try simp only [List.length_cons, List.length_nil, Nat.reduceAdd, sizeLine_eq, Nat.reduceLeDiff, true_and]); (skip)
    refine isE_ok (i4 _ _) (isE_ok (i4 _ _) (isE_ok (i4 _ _) ?_))
    refine add_ok (by simp) (hW2 _ _ ?_)
    refine seq_gen fun W3 hW3 => ?_
    (try dsimp only [sAsg, eOp, eVar, List.getElem?_cons_succ, List.getElem?_cons_zero, asg, List.set_cons_succ, List.set_cons_zero, eLst, eCons, eNil]); (try simp only [List.length_cons, List.length_nil, Nat.reduceAdd, sizeLine_eq, Nat.reduceLeDiff, true_and]); (skip)
    refine isE_ok (i4 _ _) (isE_ok (i4 _ _) (isE_ok (i4 _ _) ?_))
    refine add_ok (by simp) (hW3 _ _ ?_)
    refine seq_gen fun W4 hW4 => ?_
    (try dsimp only [sAsg, eOp, eVar, List.getElem?_cons_succ, List.getElem?_cons_zero, asg, List.set_cons_succ, List.set_cons_zero, eLst, eCons, eNil]); (try simp only [List.length_cons, List.length_nil, Nat.reduceAdd, sizeLine_eq, Nat.reduceLeDiff, true_and]); (skip)
    refine isE_ok (i4 _ _) (isE_ok (i4 _ _) (isE_ok (i4 _ _) ?_))
    refine add_ok (by simp) (hW4 _ _ ?_)
    refine seq_gen fun W5 hW5 => ?_
    (try dsimp only [sAsg, eLst, eCons, eC, eNil, asg, List.set_cons_succ, List.set_cons_zero]); (try simp only [List.length_cons, List.length_nil, Nat.reduceAdd, sizeLine_eq, Nat.reduceLeDiff, true_and]); (skip)
    refine hW5 _ _ ?_
    refine seq_gen fun W6 hW6 => ?_
    (try dsimp only [sAsg, eOp, eVar, List.getElem?_cons_succ, List.getElem?_cons_zero, asg, List.set_cons_succ, List.set_cons_zero, eLst, eCons, eC, eNil]); (try simp only [List.length_cons, List.length_nil, Nat.reduceAdd, sizeLine_eq, Nat.reduceLeDiff, true_and]); (skip)
    refine add_ok (by simp) (hW6 _ _ ?_)
    refine seq_gen fun W7 hW7 => ?_
    (try dsimp only [sAsg, eOp, eC, eM1, isStr, asg, List.set_cons_succ, List.set_cons_zero, eLc, iZ, eCons, eVar, List.getElem?_cons_succ, List.getElem?_cons_zero, eNil, lkL_lst]); (try simp only [true_and]); (skip)
    refine compW_mapE (xs := [(Str.ofString "NoRow", true), (Str.ofString "Unknown", false), (Str.ofString "NoStretch", false), (Str.ofString "NoText", false), (Str.ofString "TooMany", false), (Str.ofString "NoBook", false), (Str.ofString "NoBenches", false), (Str.ofString "NoTree", false), (Str.ofString "Crowded", false), (Str.ofString "NoRing", false), (Str.ofString "NoTurn", false), (Str.ofString "NoUndo", false)]) (g := fun q : Str × Bool => D.tup [.str q.1, .bl q.2]) (p := fun q => q.2) (f := fun q => D.str q.1) rfl ⟨trivial, trivial⟩ (fun q _ => ⟨_, rfl, fun R r => ?_, fun _ R r => ?_⟩) ?_
    · (try dsimp only [wipeD, List.set_cons_succ, List.set_cons_zero, eTru, eVar, List.getElem?_cons_succ, List.getElem?_cons_zero, truD_bl]); (skip); (skip)
      exact r
    · (try dsimp only [wipeD, List.set_cons_succ, List.set_cons_zero, eVar, List.getElem?_cons_succ, List.getElem?_cons_zero]); (skip); (skip)
      exact r
    (try dsimp only [List.filter]); (try simp only [List.map_cons, List.map_nil]); (skip)
    unfold mJoin
    refine ⟨_, [Str.ofString "NoRow"], lkL_lst, fun ns e => (by cases e), rfl, by decide +kernel, ?_⟩
    rw [join_one]
    refine add_ss (by decide +kernel) (hW7 _ _ ?_)
    (try dsimp only [sIf, eNot, eTru, sAsg, eC, asg, List.set_cons_succ, List.set_cons_zero, sNext]); (skip); (skip)
    refine isE_ok (by rfl) ?_
    (try dsimp only [truD_bl]); (try simp only [Bool.not_true, Bool.false_eq_true, if_false]); (skip)
    simp only [behind]
    exact k _ _
  · rw [h] at k ⊢
    have i_NoRow : isSub (Str.ofString "Unknown") (Str.ofString "NoRow") = false := by decide +kernel
    have i_Unknown : isSub (Str.ofString "Unknown") (Str.ofString "Unknown") = true := by decide +kernel
    have i_NoStretch : isSub (Str.ofString "Unknown") (Str.ofString "NoStretch") = false := by decide +kernel
    have i_NoText : isSub (Str.ofString "Unknown") (Str.ofString "NoText") = false := by decide +kernel
    have i_TooMany : isSub (Str.ofString "Unknown") (Str.ofString "TooMany") = false := by decide +kernel
    have i_NoBook : isSub (Str.ofString "Unknown") (Str.ofString "NoBook") = false := by decide +kernel
    have i_NoBenches : isSub (Str.ofString "Unknown") (Str.ofString "NoBenches") = false := by decide +kernel
    have i_NoTree : isSub (Str.ofString "Unknown") (Str.ofString "NoTree") = false := by decide +kernel
    have i_Crowded : isSub (Str.ofString "Unknown") (Str.ofString "Crowded") = false := by decide +kernel
    have i_NoRing : isSub (Str.ofString "Unknown") (Str.ofString "NoRing") = false := by decide +kernel
    have i_NoTurn : isSub (Str.ofString "Unknown") (Str.ofString "NoTurn") = false := by decide +kernel
    have i_NoUndo : isSub (Str.ofString "Unknown") (Str.ofString "NoUndo") = false := by decide +kernel
    rw [i_NoRow, i_Unknown, i_NoStretch, i_NoText, i_TooMany, i_NoBook, i_NoBenches, i_NoTree, i_Crowded, i_NoRing, i_NoTurn, i_NoUndo]
    refine seq_gen fun W hW => ?_
    (try dsimp only [sAsg, eLst, eCons, asg, List.set_cons_succ, List.set_cons_zero, eNil]); (try simp only [List.length_cons, List.length_nil, Nat.reduceAdd, sizeLine_eq, Nat.reduceLeDiff, true_and]); (skip)
    refine isE_ok (i4 _ _) (isE_ok (i4 _ _) (isE_ok (i4 _ _) ?_))
    refine hW _ _ ?_
    refine seq_gen fun W2 hW2 => ?_
    (try dsimp only [sAsg, eOp, eVar, List.getElem?_cons_succ, List.getElem?_cons_zero, asg, List.set_cons_succ, List.set_cons_zero, eLst, eCons, eNil]); (try simp only [List.length_cons, List.length_nil, Nat.reduceAdd, sizeLine_eq, Nat.reduceLeDiff, true_and]); (skip)
    refine isE_ok (i4 _ _) (isE_ok (i4 _ _) (isE_ok (i4 _ _) ?_))
    refine add_ok (by simp) (hW2 _ _ ?_)
    refine seq_gen fun W3 hW3 => ?_
    (try dsimp only [sAsg, eOp, eVar, List.getElem?_cons_succ, List.getElem?_cons_zero, asg, List.set_cons_succ, List.set_cons_zero, eLst, eCons, eNil]); (try simp only [List.length_cons, List.length_nil, Nat.reduceAdd, sizeLine_eq, Nat.reduceLeDiff, true_and]); (skip)
    refine isE_ok (i4 _ _) (isE_ok (i4 _ _) (isE_ok (i4 _ _) ?_))
    refine add_ok (by simp) (hW3 _ _ ?_)
    refine seq_gen fun W4 hW4 => ?_
    (try dsimp only [sAsg, eOp, eVar, List.getElem?_cons_succ, List.getElem?_cons_zero, asg, List.set_cons_succ, List.set_cons_zero, eLst, eCons, eNil]); (try simp only [List.length_cons, List.length_nil, Nat.reduceAdd, sizeLine_eq, Nat.reduceLeDiff, true_and]); (skip)
    refine isE_ok (i4 _ _) (isE_ok (i4 _ _) (isE_ok (i4 _ _) ?_))
    refine add_ok (by simp) (hW4 _ _ ?_)
    refine seq_gen fun W5 hW5 => ?_
    (try dsimp only [sAsg, eLst, eCons, eC, eNil, asg, List.set_cons_succ, List.set_cons_zero]); (try simp only [List.length_cons, List.length_nil, Nat.reduceAdd, sizeLine_eq, Nat.reduceLeDiff, true_and]); (skip)
    refine hW5 _ _ ?_
    refine seq_gen fun W6 hW6 => ?_
    (try dsimp only [sAsg, eOp, eVar, List.getElem?_cons_succ, List.getElem?_cons_zero, asg, List.set_cons_succ, List.set_cons_zero, eLst, eCons, eC, eNil]); (try simp only [List.length_cons, List.length_nil, Nat.reduceAdd, sizeLine_eq, Nat.reduceLeDiff, true_and]); (skip)
    refine add_ok (by simp) (hW6 _ _ ?_)
    refine seq_gen fun W7 hW7 => ?_
    (try dsimp only [sAsg, eOp, eC, eM1, isStr, asg, List.set_cons_succ, List.set_cons_zero, eLc, iZ, eCons, eVar, List.getElem?_cons_succ, List.getElem?_cons_zero, eNil, lkL_lst]); (try simp only [true_and]); (skip)
    refine compW_mapE (xs := [(Str.ofString "NoRow", false), (Str.ofString "Unknown", true), (Str.ofString "NoStretch", false), (Str.ofString "NoText", false), (Str.ofString "TooMany", false), (Str.ofString "NoBook", false), (Str.ofString "NoBenches", false), (Str.ofString "NoTree", false), (Str.ofString "Crowded", false), (Str.ofString "NoRing", false), (Str.ofString "NoTurn", false), (Str.ofString "NoUndo", false)]) (g := fun q : Str × Bool => D.tup [.str q.1, .bl q.2]) (p := fun q => q.2) (f := fun q => D.str q.1) rfl ⟨trivial, trivial⟩ (fun q _ => ⟨_, rfl, fun R r => ?_, fun _ R r => ?_⟩) ?_
    · (try dsimp only [wipeD, List.set_cons_succ, List.set_cons_zero, eTru, eVar, List.getElem?_cons_succ, List.getElem?_cons_zero, truD_bl]); (skip); (skip)
      exact r
    · (try dsimp only [wipeD, List.set_cons_succ, List.set_cons_zero, eVar, List.getElem?_cons_succ, List.getElem?_cons_zero]); (skip); (skip)
      exact r
    (try dsimp only [List.filter]); (try simp only [List.map_cons, List.map_nil]); (skip)
    unfold mJoin
    refine ⟨_, [Str.ofString "Unknown"], lkL_lst, fun ns e => (by cases e), rfl, by decide +kernel, ?_⟩
    rw [join_one]
    refine add_ss (by decide +kernel) (hW7 _ _ ?_)
    (try dsimp only [sIf, eNot, eTru, sAsg, eC, asg, List.set_cons_succ, List.set_cons_zero, sNext]); (skip); (skip)
    refine isE_ok (by rfl) ?_
    (try dsimp only [truD_bl]); (try simp only [Bool.not_true, Bool.false_eq_true, if_false]); (skip)
    simp only [behind]
    exact k _ _
  · rw [h] at k ⊢
    have i_NoRow : isSub (Str.ofString "NoStretch") (Str.ofString "NoRow") = false := by decide +kernel
    have i_Unknown : isSub (Str.ofString "NoStretch") (Str.ofString "Unknown") = false := by decide +kernel
    have i_NoStretch : isSub (Str.ofString "NoStretch") (Str.ofString "NoStretch") = true := by decide +kernel
    have i_NoText : isSub (Str.ofString "NoStretch") (Str.ofString "NoText") = false := by decide +kernel
    have i_TooMany : isSub (Str.ofString "NoStretch") (Str.ofString "TooMany") = false := by decide +kernel
    have i_NoBook : isSub (Str.ofString "NoStretch") (Str.ofString "NoBook") = false := by decide +kernel
    have i_NoBenches : isSub (Str.ofString "NoStretch") (Str.ofString "NoBenches") = false := by decide +kernel
    have i_NoTree : isSub (Str.ofString "NoStretch") (Str.ofString "NoTree") = false := by decide +kernel
    have i_Crowded : isSub (Str.ofString "NoStretch") (Str.ofString "Crowded") = false := by decide +kernel
    have i_NoRing : isSub (Str.ofString "NoStretch") (Str.ofString "NoRing") = false := by decide +kernel
    have i_NoTurn : isSub (Str.ofString "NoStretch") (Str.ofString "NoTurn") = false := by decide +kernel
    have i_NoUndo : isSub (Str.ofString "NoStretch") (Str.ofString "NoUndo") = false := by decide +kernel
    rw [i_NoRow, i_Unknown, i_NoStretch, i_NoText, i_TooMany, i_NoBook, i_NoBenches, i_NoTree, i_Crowded, i_NoRing, i_NoTurn, i_NoUndo]
    refine seq_gen fun W hW => ?_
    (try dsimp only [sAsg, eLst, eCons, asg, List.set_cons_succ, List.set_cons_zero, eNil]); (try simp only [List.length_cons, List.length_nil, Nat.reduceAdd, sizeLine_eq, Nat.reduceLeDiff, true_and]); (skip)
    refine isE_ok (i4 _ _) (isE_ok (i4 _ _) (isE_ok (i4 _ _) ?_))
    refine hW _ _ ?_
    refine seq_gen fun W2 hW2 => ?_
    (try dsimp only [sAsg, eOp, eVar, List.getElem?_cons_succ, List.getElem?_cons_zero, asg, List.set_cons_succ, List.set_cons_zero, eLst, eCons, eNil]); (try simp only [List.length_cons, List.length_nil, Nat.reduceAdd, sizeLine_eq, Nat.reduceLeDiff, true_and]); (skip)
    refine isE_ok (i4 _ _) (isE_ok (i4 _ _) (isE_ok (i4 _ _) ?_))
    refine add_ok (by simp) (hW2 _ _ ?_)
    refine seq_gen fun W3 hW3 => ?_
    (try dsimp only [sAsg, eOp, eVar, List.getElem?_cons_succ, List.getElem?_cons_zero, asg, List.set_cons_succ, List.set_cons_zero, eLst, eCons, eNil]); (try simp only [List.length_cons, List.length_nil, Nat.reduceAdd, sizeLine_eq, Nat.reduceLeDiff, true_and]); (skip)
    refine isE_ok (i4 _ _) (isE_ok (i4 _ _) (isE_ok (i4 _ _) ?_))
    refine add_ok (by simp) (hW3 _ _ ?_)
    refine seq_gen fun W4 hW4 => ?_
    (try dsimp only [sAsg, eOp, eVar, List.getElem?_cons_succ, List.getElem?_cons_zero, asg, List.set_cons_succ, List.set_cons_zero, eLst, eCons, eNil]); (try simp only [List.length_cons, List.length_nil, Nat.reduceAdd, sizeLine_eq, Nat.reduceLeDiff, true_and]); (skip)
    refine isE_ok (i4 _ _) (isE_ok (i4 _ _) (isE_ok (i4 _ _) ?_))
    refine add_ok (by simp) (hW4 _ _ ?_)
    refine seq_gen fun W5 hW5 => ?_
    (try dsimp only [sAsg, eLst, eCons, eC, eNil, asg, List.set_cons_succ, List.set_cons_zero]); (try simp only [List.length_cons, List.length_nil, Nat.reduceAdd, sizeLine_eq, Nat.reduceLeDiff, true_and]); (skip)
    refine hW5 _ _ ?_
    refine seq_gen fun W6 hW6 => ?_
    (try dsimp only [sAsg, eOp, eVar, List.getElem?_cons_succ, List.getElem?_cons_zero, asg, List.set_cons_succ, List.set_cons_zero, eLst, eCons, eC, eNil]); (try simp only [List.length_cons, List.length_nil, Nat.reduceAdd, sizeLine_eq, Nat.reduceLeDiff, true_and]); (skip)
    refine add_ok (by simp) (hW6 _ _ ?_)
    refine seq_gen fun W7 hW7 => ?_
    (try dsimp only [sAsg, eOp, eC, eM1, isStr, asg, List.set_cons_succ, List.set_cons_zero, eLc, iZ, eCons, eVar, List.getElem?_cons_succ, List.getElem?_cons_zero, eNil, lkL_lst]); (try simp only [true_and]); (skip)
    refine compW_mapE (xs := [(Str.ofString "NoRow", false), (Str.ofString "Unknown", false), (Str.ofString "NoStretch", true), (Str.ofString "NoText", false), (Str.ofString "TooMany", false), (Str.ofString "NoBook", false), (Str.ofString "NoBenches", false), (Str.ofString "NoTree", false), (Str.ofString "Crowded", false), (Str.ofString "NoRing", false), (Str.ofString "NoTurn", false), (Str.ofString "NoUndo", false)]) (g := fun q : Str × Bool => D.tup [.str q.1, .bl q.2]) (p := fun q => q.2) (f := fun q => D.str q.1) rfl ⟨trivial, trivial⟩ (fun q _ => ⟨_, rfl, fun R r => ?_, fun _ R r => ?_⟩) ?_
    · (try dsimp only [wipeD, List.set_cons_succ, List.set_cons_zero, eTru, eVar, List.getElem?_cons_succ, List.getElem?_cons_zero, truD_bl]); (skip); (skip)
      exact r
    · (try dsimp only [wipeD, List.set_cons_succ, List.set_cons_zero, eVar, List.getElem?_cons_succ, List.getElem?_cons_zero]); (skip); (skip)
      exact r
    (try dsimp only [List.filter]); (try simp only [List.map_cons, List.map_nil]); (skip)
    unfold mJoin
    refine ⟨_, [Str.ofString "NoStretch"], lkL_lst, fun ns e => (by cases e), rfl, by decide +kernel, ?_⟩
    rw [join_one]
    refine add_ss (by decide +kernel) (hW7 _ _ ?_)
    (try dsimp only [sIf, eNot, eTru, sAsg, eC, asg, List.set_cons_succ, List.set_cons_zero, sNext]); (skip); (skip)
    refine isE_ok (by rfl) ?_
    (try dsimp only [truD_bl]); (try simp only [Bool.not_true, Bool.false_eq_true, if_false]); (skip)
    simp only [behind]
    exact k _ _
  · rw [h] at k ⊢
    have i_NoRow : isSub (Str.ofString "NoText") (Str.ofString "NoRow") = false := by decide +kernel
    have i_Unknown : isSub (Str.ofString "NoText") (Str.ofString "Unknown") = false := by decide +kernel
    have i_NoStretch : isSub (Str.ofString "NoText") (Str.ofString "NoStretch") = false := by decide +kernel
    have i_NoText : isSub (Str.ofString "NoText") (Str.ofString "NoText") = true := by decide +kernel
    have i_TooMany : isSub (Str.ofString "NoText") (Str.ofString "TooMany") = false := by decide +kernel
    have i_NoBook : isSub (Str.ofString "NoText") (Str.ofString "NoBook") = false := by decide +kernel
    have i_NoBenches : isSub (Str.ofString "NoText") (Str.ofString "NoBenches") = false := by decide +kernel
    have i_NoTree : isSub (Str.ofString "NoText") (Str.ofString "NoTree") = false := by decide +kernel
    have i_Crowded : isSub (Str.ofString "NoText") (Str.ofString "Crowded") = false := by decide +kernel
    have i_NoRing : isSub (Str.ofString "NoText") (Str.ofString "NoRing") = false := by decide +kernel
    have i_NoTurn : isSub (Str.ofString "NoText") (Str.ofString "NoTurn") = false := by decide +kernel
    have i_NoUndo : isSub (Str.ofString "NoText") (Str.ofString "NoUndo") = false := by decide +kernel
    rw [i_NoRow, i_Unknown, i_NoStretch, i_NoText, i_TooMany, i_NoBook, i_NoBenches, i_NoTree, i_Crowded, i_NoRing, i_NoTurn, i_NoUndo]
    refine seq_gen fun W hW => ?_
    (try dsimp only [sAsg, eLst, eCons, asg, List.set_cons_succ, List.set_cons_zero, eNil]); (try simp only [List.length_cons, List.length_nil, Nat.reduceAdd, sizeLine_eq, Nat.reduceLeDiff, true_and]); (skip)
    refine isE_ok (i4 _ _) (isE_ok (i4 _ _) (isE_ok (i4 _ _) ?_))
    refine hW _ _ ?_
    refine seq_gen fun W2 hW2 => ?_
    (try dsimp only [sAsg, eOp, eVar, List.getElem?_cons_succ, List.getElem?_cons_zero, asg, List.set_cons_succ, List.set_cons_zero, eLst, eCons, eNil]); (try simp only [List.length_cons, List.length_nil, Nat.reduceAdd, sizeLine_eq, Nat.reduceLeDiff, true_and]); (skip)
    refine isE_ok (i4 _ _) (isE_ok (i4 _ _) (isE_ok (i4 _ _) ?_))
    refine add_ok (by simp) (hW2 _ _ ?_)
    refine seq_gen fun W3 hW3 => ?_
    (try dsimp only [sAsg, eOp, eVar, List.getElem?_cons_succ, List.getElem?_cons_zero, asg, List.set_cons_succ, List.set_cons_zero, eLst, eCons, eNil]); (try simp only [List.length_cons, List.length_nil, Nat.reduceAdd, sizeLine_eq, Nat.reduceLeDiff, true_and]); (skip)
    refine isE_ok (i4 _ _) (isE_ok (i4 _ _) (isE_ok (i4 _ _) ?_))
    refine add_ok (by simp) (hW3 _ _ ?_)
    refine seq_gen fun W4 hW4 => ?_
    (try dsimp only [sAsg, eOp, eVar, List.getElem?_cons_succ, List.getElem?_cons_zero, asg, List.set_cons_succ, List.set_cons_zero, eLst, eCons, eNil]); (try simp only [List.length_cons, List.length_nil, Nat.reduceAdd, sizeLine_eq, Nat.reduceLeDiff, true_and]); (skip)
    refine isE_ok (i4 _ _) (isE_ok (i4 _ _) (isE_ok (i4 _ _) ?_))
    refine add_ok (by simp) (hW4 _ _ ?_)
    refine seq_gen fun W5 hW5 => ?_
    (try dsimp only [sAsg, eLst, eCons, eC, eNil, asg, List.set_cons_succ, List.set_cons_zero]); (try simp only [List.length_cons, List.length_nil, Nat.reduceAdd, sizeLine_eq, Nat.reduceLeDiff, true_and]); (skip)
    refine hW5 _ _ ?_
    refine seq_gen fun W6 hW6 => ?_
    (try dsimp only [sAsg, eOp, eVar, List.getElem?_cons_succ, List.getElem?_cons_zero, asg, List.set_cons_succ, List.set_cons_zero, eLst, eCons, eC, eNil]); (try simp only [List.length_cons, List.length_nil, Nat.reduceAdd, sizeLine_eq, Nat.reduceLeDiff, true_and]); (skip)
    refine add_ok (by simp) (hW6 _ _ ?_)
    refine seq_gen fun W7 hW7 => ?_
    (try dsimp only [sAsg, eOp, eC, eM1, isStr, asg, List.set_cons_succ, List.set_cons_zero, eLc, iZ, eCons, eVar, List.getElem?_cons_succ, List.getElem?_cons_zero, eNil, lkL_lst]); (try simp only [true_and]); (skip)
    refine compW_mapE (xs := [(Str.ofString "NoRow", false), (Str.ofString "Unknown", false), (Str.ofString "NoStretch", false), (Str.ofString "NoText", true), (Str.ofString "TooMany", false), (Str.ofString "NoBook", false), (Str.ofString "NoBenches", false), (Str.ofString "NoTree", false), (Str.ofString "Crowded", false), (Str.ofString "NoRing", false), (Str.ofString "NoTurn", false), (Str.ofString "NoUndo", false)]) (g := fun q : Str × Bool => D.tup [.str q.1, .bl q.2]) (p := fun q => q.2) (f := fun q => D.str q.1) rfl ⟨trivial, trivial⟩ (fun q _ => ⟨_, rfl, fun R r => ?_, fun _ R r => ?_⟩) ?_
    · (try dsimp only [wipeD, List.set_cons_succ, List.set_cons_zero, eTru, eVar, List.getElem?_cons_succ, List.getElem?_cons_zero, truD_bl]); (skip); (skip)
      exact r
    · (try dsimp only [wipeD, List.set_cons_succ, List.set_cons_zero, eVar, List.getElem?_cons_succ, List.getElem?_cons_zero]); (skip); (skip)
      exact r
    (try dsimp only [List.filter]); (try simp only [List.map_cons, List.map_nil]); (skip)
    unfold mJoin
    refine ⟨_, [Str.ofString "NoText"], lkL_lst, fun ns e => (by cases e), rfl, by decide +kernel, ?_⟩
    rw [join_one]
    refine add_ss (by decide +kernel) (hW7 _ _ ?_)
    (try dsimp only [sIf, eNot, eTru, sAsg, eC, asg, List.set_cons_succ, List.set_cons_zero, sNext]); (skip); (skip)
    refine isE_ok (by rfl) ?_
    (try dsimp only [truD_bl]); (try simp only [Bool.not_true, Bool.false_eq_true, if_false]); (skip)
    simp only [behind]
    exact k _ _
  · rw [h] at k ⊢
    have i_NoRow : isSub (Str.ofString "TooMany") (Str.ofString "NoRow") = false := by decide +kernel
    have i_Unknown : isSub (Str.ofString "TooMany") (Str.ofString "Unknown") = false := by decide +kernel
    have i_NoStretch : isSub (Str.ofString "TooMany") (Str.ofString "NoStretch") = false := by decide +kernel
    have i_NoText : isSub (Str.ofString "TooMany") (Str.ofString "NoText") = false := by decide +kernel
    have i_TooMany : isSub (Str.ofString "TooMany") (Str.ofString "TooMany") = true := by decide +kernel
    have i_NoBook : isSub (Str.ofString "TooMany") (Str.ofString "NoBook") = false := by decide +kernel
    have i_NoBenches : isSub (Str.ofString "TooMany") (Str.ofString "NoBenches") = false := by decide +kernel
    have i_NoTree : isSub (Str.ofString "TooMany") (Str.ofString "NoTree") = false := by decide +kernel
    have i_Crowded : isSub (Str.ofString "TooMany") (Str.ofString "Crowded") = false := by decide +kernel
    have i_NoRing : isSub (Str.ofString "TooMany") (Str.ofString "NoRing") = false := by decide +kernel
    have i_NoTurn : isSub (Str.ofString "TooMany") (Str.ofString "NoTurn") = false := by decide +kernel
    have i_NoUndo : isSub (Str.ofString "TooMany") (Str.ofString "NoUndo") = false := by decide +kernel
    rw [i_NoRow, i_Unknown, i_NoStretch, i_NoText, i_TooMany, i_NoBook, i_NoBenches, i_NoTree, i_Crowded, i_NoRing, i_NoTurn, i_NoUndo]
    refine seq_gen fun W hW => ?_
    (try dsimp only [sAsg, eLst, eCons, asg, List.set_cons_succ, List.set_cons_zero, eNil]); (try simp only [List.length_cons, List.length_nil, Nat.reduceAdd, sizeLine_eq, Nat.reduceLeDiff, true_and]); (skip)
    refine isE_ok (i4 _ _) (isE_ok (i4 _ _) (isE_ok (i4 _ _) ?_))
    refine hW _ _ ?_
    refine seq_gen fun W2 hW2 => ?_
    (try dsimp only [sAsg, eOp, eVar, List.getElem?_cons_succ, List.getElem?_cons_zero, asg, List.set_cons_succ, List.set_cons_zero, eLst, eCons, eNil]); (try simp only [List.length_cons, List.length_nil, Nat.reduceAdd, sizeLine_eq, Nat.reduceLeDiff, true_and]); (skip)
    refine isE_ok (i4 _ _) (isE_ok (i4 _ _) (isE_ok (i4 _ _) ?_))
    refine add_ok (by simp) (hW2 _ _ ?_)
    refine seq_gen fun W3 hW3 => ?_
    (try dsimp only [sAsg, eOp, eVar, List.getElem?_cons_succ, List.getElem?_cons_zero, asg, List.set_cons_succ, List.set_cons_zero, eLst, eCons, eNil]); (try simp only [List.length_cons, List.length_nil, Nat.reduceAdd, sizeLine_eq, Nat.reduceLeDiff, true_and]); (skip)
    refine isE_ok (i4 _ _) (isE_ok (i4 _ _) (isE_ok (i4 _ _) ?_))
    refine add_ok (by simp) (hW3 _ _ ?_)
    refine seq_gen fun W4 hW4 => ?_
    (try dsimp only [sAsg, eOp, eVar, List.getElem?_cons_succ, List.getElem?_cons_zero, asg, List.set_cons_succ, List.set_cons_zero, eLst, eCons, eNil]); (try simp only [List.length_cons, List.length_nil, Nat.reduceAdd, sizeLine_eq, Nat.reduceLeDiff, true_and]); (skip)
    refine isE_ok (i4 _ _) (isE_ok (i4 _ _) (isE_ok (i4 _ _) ?_))
    refine add_ok (by simp) (hW4 _ _ ?_)
    refine seq_gen fun W5 hW5 => ?_
    (try dsimp only [sAsg, eLst, eCons, eC, eNil, asg, List.set_cons_succ, List.set_cons_zero]); (try simp only [List.length_cons, List.length_nil, Nat.reduceAdd, sizeLine_eq, Nat.reduceLeDiff, true_and]); (skip)
    refine hW5 _ _ ?_
    refine seq_gen fun W6 hW6 => ?_
    (try dsimp only [sAsg, eOp, eVar, List.getElem?_cons_succ, List.getElem?_cons_zero, asg, List.set_cons_succ, List.set_cons_zero, eLst, eCons, eC, eNil]); (try simp only [List.length_cons, List.length_nil, Nat.reduceAdd, sizeLine_eq, Nat.reduceLeDiff, true_and]); (skip)
    refine add_ok (by simp) (hW6 _ _ ?_)
    refine seq_gen fun W7 hW7 => ?_
    (try dsimp only [sAsg, eOp, eC, eM1, isStr, asg, List.set_cons_succ, List.set_cons_zero, eLc, iZ, eCons, eVar, List.getElem?_cons_succ, List.getElem?_cons_zero, eNil, lkL_lst]); (try simp only [true_and]); (skip)
    refine compW_mapE (xs := [(Str.ofString "NoRow", false), (Str.ofString "Unknown", false), (Str.ofString "NoStretch", false), (Str.ofString "NoText", false), (Str.ofString "TooMany", true), (Str.ofString "NoBook", false), (Str.ofString "NoBenches", false), (Str.ofString "NoTree", false), (Str.ofString "Crowded", false), (Str.ofString "NoRing", false), (Str.ofString "NoTurn", false), (Str.ofString "NoUndo", false)]) (g := fun q : Str × Bool => D.tup [.str q.1, .bl q.2]) (p := fun q => q.2) (f := fun q => D.str q.1) rfl ⟨trivial, trivial⟩ (fun q _ => ⟨_, rfl, fun R r => ?_, fun _ R r => ?_⟩) ?_
    · (try dsimp only [wipeD, List.set_cons_succ, List.set_cons_zero, eTru, eVar, List.getElem?_cons_succ, List.getElem?_cons_zero, truD_bl]); (skip); (skip)
      exact r
    · (try dsimp only [wipeD, List.set_cons_succ, List.set_cons_zero, eVar, List.getElem?_cons_succ, List.getElem?_cons_zero]); (skip); (skip)
      exact r
    (try dsimp only [List.filter]); (try simp only [List.map_cons, List.map_nil]); (skip)
    unfold mJoin
    refine ⟨_, [Str.ofString "TooMany"], lkL_lst, fun ns e => (by cases e), rfl, by decide +kernel, ?_⟩
    rw [join_one]
    refine add_ss (by decide +kernel) (hW7 _ _ ?_)
    (try dsimp only [sIf, eNot, eTru, sAsg, eC, asg, List.set_cons_succ, List.set_cons_zero, sNext]); (skip); (skip)
    refine isE_ok (by rfl) ?_
    (try dsimp only [truD_bl]); (try simp only [Bool.not_true, Bool.false_eq_true, if_false]); (skip)
    simp only [behind]
    exact k _ _
/-- what a def may hand back of a changed heap -/
structure GoodG (G G1 : Gp) (d : D) : Prop where
  old : ∀ a o, G a = some o → ∃ o', G1 a = some o'
  new : ∀ a o, G1 a = some o → RefO G1 o ∨ G a = some o
  val : RefIn G1 d
theorem good_id {G : Gp} {t : Str} : GoodG G G (.str t) := ⟨fun a o e => ⟨o, e⟩, fun a o e => .inr e, by simp only [RefIn]⟩
theorem good_dput {G : Gp} {a p dx : Addr} {ns ns' : List Str} {bks bks' : List (List Stretch)} {t : Str} (da : DkAt G a p dx ns bks) : GoodG G (dput G p ns' bks') (.str t) := ⟨fun b o e => by
    by_cases c : b = p
    · subst c; exact ⟨_, gput_same⟩
    · unfold dput; rw [gput_ne c]; exact ⟨o, e⟩, fun b o e => by
    unfold dput at e
    by_cases c : b = p
    · subst c
      rw [gput_same] at e
      cases e
      left
      exact refIns_plain (plain_bks bks')
    · rw [gput_ne c] at e; exact .inr e, by simp only [RefIn]⟩
def F__law_textD : Sf := fun ds G Q => ∃ (bk : List Stretch), ds = [bkD bk] ∧ (∀ s ∈ bk, SOk s) ∧ bk.length ≤ 1000 ∧ Q (.str (rowT (bk.map wS))) G
def r__law_textD_L1 : ES :=
  (sDrop (eBm mApp (eVar 1) (eCons (eM1 mJoin (eC (.str " ")) (eLst (eCons (eC (.str "stretch")) (eCons (eOp oIx (eVar 2) (eC (.int 0))) (eCons (eCB cStrI (eCons (eOp oIx (eVar 2) (eC (.int 1))) eNil)) (eCons (eCB cStrI (eCons (eOp oIx (eVar 2) (eC (.int 2))) eNil)) (eCons (eCB cStrI (eCons (eOp oIx (eVar 2) (eC (.int 3))) eNil)) eNil))))))) eNil)))
def r__law_textD : ES :=
  (sSeq (sAsg (eLstO eNil) (.nm 1))
  (sSeq (sFor (iL (eVar 0)) (.nm 2) r__law_textD_L1)
  (sRet (eM1 mJoin (eC (.str "; ")) (eVar 1)))))
theorem d__law_textD (ds : List D) (G : Gp) (Q : DK) (h : F__law_textD ds G Q) : r__law_textD (fin G Q) (startD 3 ds) G := by
  obtain ⟨bk, rfl, hb, hl, k⟩ := h
  have hrs := row_S' hb
  refine seq_gen fun W hW => ?_
  (try dsimp only [startD, sAsg, eLstO, eNil, asg]); (try simp only [List.length_nil, sizeLine_eq, Nat.reduceLeDiff, List.map_cons, List.map_nil, List.length_cons, Nat.reduceAdd, List.replicate, List.cons_append, List.nil_append, true_and]); (try dsimp only [List.set_cons_succ, List.set_cons_zero])
  intro p hp
  refine hW _ _ ?_
  refine seq_gen fun W2 hW2 => ?_
  (try dsimp only [sFor, iL, eVar, List.getElem?_cons_zero, lkL_lst]); (skip); (skip)
  refine forW_ind (g := Stretch.d) (fun r s G' => ∃ (acc : List Stretch) (o : Option D), bk = acc ++ r ∧ s = [some (bkD bk), some (.ref p), o] ∧ G' = gput G p (.lst ((acc.map fun s => glue (wS s)).map D.str))) (fun _ _ _ _ => trivial) ?_ ?_ bk _ _ ⟨[], none, rfl, rfl, rfl⟩
  · rintro s r st G' W3 ⟨acc, o, e, rfl, rfl⟩ hW3
    have hs : SOk s := hb s (by rw [e]; simp)
    have ha : acc.length < 1000 := by have := congrArg List.length e; simp at this; omega
    (try dsimp only [asg, List.set_cons_succ, List.set_cons_zero]); (skip); (skip)
    unfold r__law_textD_L1
    (try dsimp only [sDrop, eBm, eVar, List.getElem?_cons_succ, List.getElem?_cons_zero, isLst, eCons, eM1, eC, eNil, eLst, eOp, eCB]); (try simp only [List.length_cons, List.length_nil, Nat.reduceAdd, sizeLine_eq, Nat.reduceLeDiff, true_and]); (skip)
    refine ⟨⟨_, gput_same⟩, ?_⟩
    obtain ⟨f1, f2, f3⟩ := far_sok hs
    refine ⟨trivial, ?_⟩
    refine ixt_0 (atI_nat (j := 0) rfl) ?_
    refine ixt_0 (atI_nat (j := 1) rfl) ?_
    (try dsimp only [cStrI]); (skip); (skip)
    refine ⟨(iS_ok f1).2.2, ?_⟩
    refine ixt_0 (atI_nat (j := 2) rfl) ?_
    (try dsimp only); (skip); (skip)
    refine ⟨(iS_ok f2).2.2, ?_⟩
    refine ixt_0 (atI_nat (j := 3) rfl) ?_
    (try dsimp only); (skip); (skip)
    refine ⟨(iS_ok f3).2.2, ?_⟩
    have hg := glueS_le hs
    have e1 : (Str.ofString " ").length = 1 := by decide +kernel
    have e2 : (Str.ofString "stretch").length = 7 := by decide +kernel
    have n8 := hs.nm.l8
    have x1 : (iSt s.b).length ≤ 61 := (iS_ok f1).1
    have x2 : (iSt s.e).length ≤ 61 := (iS_ok f2).1
    have x3 : (iSt s.w).length ≤ 61 := (iS_ok f3).1
    unfold mJoin
    refine ⟨_, wS s, lkL_lst, (fun ns e => by cases e), rfl, ?_, ?_⟩
    · rw [e1]
      simp only [wS, List.map_cons, List.map_nil, List.sum_cons, List.sum_nil, List.length_cons, List.length_nil, e2]
      omega
    (try dsimp only [mApp]); (try simp only [gput_same, sizeLine_eq]); (skip)
    refine ⟨by simp; omega, ?_⟩
    rw [gput_gput]
    refine hW3 _ _ ⟨acc ++ [s], _, by rw [e]; simp, rfl, ?_⟩
    rw [List.map_append, List.map_append]
    rfl
  · rintro st G' ⟨acc, o, e, rfl, rfl⟩
    rw [List.append_nil] at e
    subst e
    refine hW2 _ _ ?_
    (try dsimp only [sRet, eM1, eC, eVar, List.getElem?_cons_succ, List.getElem?_cons_zero]); (skip); (skip)
    refine ⟨trivial, ?_⟩
    have e2 : (Str.ofString "; ").length = 2 := by decide +kernel
    have hsum := sumS_le (B := 505) (bk.map fun s => glue (wS s)) fun y hy => by
      obtain ⟨s, hs, rfl⟩ := List.mem_map.mp hy
      exact glueS_le (hb s hs)
    rw [List.length_map] at hsum
    unfold mJoin
    refine ⟨(bk.map fun s => glue (wS s)).map D.str, bk.map (fun s => glue (wS s)), by simp only [lkL, gput_same], (fun ns e => by cases e), by have := strsD_f (f := fun x : Str => x) (bk.map fun s => glue (wS s)); rw [List.map_id'] at this; exact this, ?_, ?_⟩
    · rw [e2, List.length_map]; omega
    · have er : Txt.join (Str.ofString "; ") (bk.map fun s => glue (wS s)) = rowT (bk.map wS) := by unfold rowT; rw [List.map_map]; rfl
      rw [er]
      exact fin_back (fun a o e => by rw [gput_ne (fun z => by rw [z, hp] at e; cases e)]; exact e) (by simp only [RefIn]) k
theorem bang_ok {c : Str} (h : SaidC c) : Asc (bang c) ∧ bang c ≠ Str.ofString "" := by
  rcases h with rfl | rfl | rfl | rfl | rfl
  all_goals exact ⟨asc_app (asc_of _) (asc_of _), by decide +kernel⟩
end DL
set_option Elab.async false
set_option linter.all false
set_option maxRecDepth 100000
set_option maxHeartbeats 4000000
namespace DL
open PySem PySem.Spec PyProof.Rows L2 LN
theorem ne_tt {a b : Str} {G : Gp} {Q : DK} (ha : Asc a) (hb : Asc b) (e : a = b) (q : Q (.bl false) G) : oNe (.str a) (.str b) G Q := by
  refine ne_ss ha hb ?_
  rw [decide_eq_true e]
  exact q
theorem keepN {G : Gp} {q a : Addr} {o x : GO} (h : G q = none) (e : G a = some o) : gput G q x a = some o := by
  rw [gput_ne (fun z => by rw [z, h] at e; cases e)]; exact e
end DL
set_option Elab.async false
set_option linter.all false
set_option maxRecDepth 100000
set_option maxHeartbeats 4000000
namespace DL
open PySem PySem.Spec PyProof.Rows L2
def refsM (o : Obj) : List Addr := match o.data with
  | .dict es _ => es.toList.flatMap fun e => He.refV e.val
  | .func fd => He.refV fd.code
  | .cls cd => [cd.ns]
  | _ => []
def nextM (g : Addr → Option Obj) (as : List Addr) : List Addr := as.flatMap fun a => match g a with
  | some o => refsM o
  | none => []
def addM (g : Addr → Option Obj) : Nat → List Addr → List Addr
  | 0, as => as
  | n + 1, as => as ++ addM g n (nextM g as)
def asM (g : Addr → Option Obj) : List Addr := addM g 4 [mainGlobals]
def obsY (fa : List He.Fa) (fn : List He.DefD) (ts : List He.Tab) (tf : List He.Defn) (ex : PySem.W.Frag → Bool) (g : Addr → Option Obj) : He.AlX := (He.obsT fa fn ts (He.frT g (asM g)), ex (He.frT g (asM g)) && He.tabsB g tf (He.frT g (asM g)))
theorem saysY_of {fa : List He.Fa} {fn : List He.DefD} {ts : List He.Tab} {tf : List He.Defn} {ex : PySem.W.Frag → Bool} {w : World} {h : Heap} (e : obsY fa fn ts tf ex h.get? = He.valX fn ts w) : He.SaysX fa fn ts tf ex w h (He.frT h.get? (asM h.get?)) := by
  have e1 : He.obsT fa fn ts (He.frT h.get? (asM h.get?)) = He.valT fn ts w := congrArg (fun z : He.AlX => z.1) e
  have e2 : (ex (He.frT h.get? (asM h.get?)) && He.tabsB h.get? tf (He.frT h.get? (asM h.get?))) = true := congrArg (fun z : He.AlX => z.2) e
  clear e
  generalize asM h.get? = as at e1 e2 ⊢
  obtain ⟨h1, h2⟩ := He.ba e2
  have key : ∀ p ∈ tf, PySem.W.codeHdIn (He.frT h.get? as) (He.cT (He.frT h.get? as) p).1 (He.cT (He.frT h.get? as) p).2 = true ∧ ∃ o, h.get? (He.cT (He.frT h.get? as) p).2 = some o ∧ He.emptyTab o = true := fun p hp => by
    obtain ⟨h3, h4⟩ := He.ba (List.all_eq_true.mp h2 p hp)
    refine ⟨h3, ?_⟩
    cases q : h.get? (He.cT (He.frT h.get? as) p).2 with
    | none => rw [q] at h4; cases h4
    | some o => rw [q] at h4; exact ⟨o, rfl, h4⟩
  exact ⟨e1, h1, fun p hp => (key p hp).1, fun p hp => let ⟨_, o, q, z⟩ := key p hp; He.frT_none q z, fun p hp => by
    obtain ⟨_, o, q, z⟩ := key p hp
    rw [q, He.emptyTab_eq z]⟩
def hookY (fa : List He.Fa) (fn : List He.DefD) (ts : List He.Tab) (tf : List He.Defn) (ex : PySem.W.Frag → Bool) : PySem.W.Hook where
  α := He.AlX
  obs := fun s => obsY fa fn ts tf ex s.heap.get?
  val := fun w => He.valX fn ts w
  says := fun w h => ∃ K : PySem.W.Frag, K.In h ∧ He.SaysX fa fn ts tf ex w h K
  of := fun _ _ e => ⟨_, He.frT_in, saysY_of e⟩
  keeps := fun _ _ _ ⟨K, hK, c⟩ k => ⟨K, PySem.W.Frag.In.keeps hK k, ⟨c.t, c.more, c.hd, c.out, fun p hp => k _ _ (c.empty p hp)⟩⟩
theorem obsY_eq {fa : List He.Fa} {fn : List He.DefD} {ts : List He.Tab} {tf : List He.Defn} {ex : PySem.W.Frag → Bool} {g : Addr → Option Obj} {s : Shared} (h : ∀ a, g a = s.heap.get? a) : obsY fa fn ts tf ex g = (hookY fa fn ts tf ex).obs s := by
  have e : g = s.heap.get? := funext h
  rw [e]; rfl
end DL
set_option Elab.async false
set_option linter.all false
set_option maxRecDepth 100000
set_option maxHeartbeats 4000000
namespace DL
open PySem PySem.Spec PyProof.Rows L2
def cSortedS : CD := fun xs G Q => match xs with
  | [x] => (match (lkL G x).bind strsD with
    | some ns => ns.length < 64 ∧ ∀ ms : List Str, ms.Perm ns → sortedS ms = true → Q (.lst (ms.map D.str)) G
    | none => False)
  | _ => False
section
variable {K : PySem.W.Frag}
theorem lk_strs {P : Addr → Prop} {G : Gp} {H : Hp} (w : Wo K P G H) {x : D} {u : V} {ns : List Str} (r : Rep K H G P x u) (e : (lkL G x).bind strsD = some ns) : ∃ a, u = .ref a ∧ SqL K H a (ns.map V.str) := by
  cases e1 : lkL G x with
  | none => rw [e1] at e; cases e
  | some ds =>
    rw [e1] at e
    have e2 := strsD_eq e
    obtain ⟨a, ys, rfl, s, q, z⟩ := lk_sq w r e1
    rw [e2] at q z
    rw [reps_strs q] at s
    exact ⟨a, rfl, s⟩
theorem lc_sortedS : LC K (rSortedS K) cSortedS := fun P G H xs us Q R h w r k => by
  unfold cSortedS at h
  split at h
  · obtain ⟨u, rfl, r1⟩ := reps1 r
    split at h
    · rename_i ns e
      obtain ⟨a, rfl, s⟩ := lk_strs w r1 e
      refine ⟨a, ns, rfl, s, h.1, fun ms l pm up hl => ?_⟩
      obtain ⟨f1, f2⟩ := w.fresh hl
      have st : Step G H G (upd H l (.lst (ms.map V.str))) := Step.new hl
      exact k _ G _ _ st (w.new hl) (rep_lst f1 f2 upd_same (by rw [List.length_map, pm.length_eq]; exact Nat.le_trans (Nat.le_of_lt h.1) (by decide)) reps_of_strs) (h.2 ms pm up)
    · exact h.elim
  · exact h.elim
end
theorem rising_pair : ∀ (l : List Str) (p : Str), risingS p l = true → (p :: l).Pairwise fun a b => a.cps.toList ≤ b.cps.toList
  | [], p, _ => List.pairwise_singleton _ _
  | x :: r, p, h => by
    have h' : (!ltCps x.cps.toList p.cps.toList && risingS x r) = true := h
    rw [Bool.and_eq_true, ltCps_eq] at h'
    have h1 : p.cps.toList ≤ x.cps.toList := by
      have := h'.1
      simp only [Bool.not_eq_true', decide_eq_false_iff_not] at this
      exact this
    have ih := rising_pair r x h'.2
    refine List.pairwise_cons.mpr ⟨fun b hb => ?_, ih⟩
    rcases List.mem_cons.mp hb with rfl | hb
    · exact h1
    · exact List.le_trans h1 ((List.pairwise_cons.mp ih).1 b hb)
theorem sorted_pair {l : List Str} (h : sortedS l = true) : l.Pairwise fun a b => a.cps.toList ≤ b.cps.toList := by
  cases l with
  | nil => exact .nil
  | cons x r => exact rising_pair r x h
theorem sorted_uniq {l ms ns : List Str} (h1 : ms.Perm l) (h2 : ns.Perm l) (s1 : sortedS ms = true) (s2 : sortedS ns = true) : ms = ns :=
  List.Perm.eq_of_pairwise (le := fun a b : Str => a.cps.toList ≤ b.cps.toList) (fun a b _ _ h h' => by
    have := List.le_antisymm h h'
    exact Str.ext' (Array.toList_inj.mp this)) (sorted_pair s1) (sorted_pair s2) (h1.trans h2.symm)
end DL
set_option Elab.async false
set_option linter.all false
set_option maxRecDepth 100000
set_option maxHeartbeats 4000000
namespace DL
open PySem PySem.Spec PyProof.Rows L2 LN
structure PtOk (p : Str) : Prop where
  len : p.length ≤ 640
  asc : Asc p
  nolf : 10 ∉ p.cps.toList
  cl : ∀ rest, StrLaws.replL [59, 32] [10] (p.cps.toList ++ rest) = p.cps.toList ++ StrLaws.replL [59, 32] [10] rest
theorem pt_free {p : Str} (h1 : p.length ≤ 640) (h2 : Asc p) (h3 : 10 ∉ p.cps.toList) (h4 : 59 ∉ p.cps.toList) : PtOk p := ⟨h1, h2, h3, fun _ => repl_free h4⟩
theorem replJ2 : ∀ l : List Str, (∀ p ∈ l, PtOk p) → StrLaws.replL [59, 32] [10] (Txt.join sc2 l).cps.toList = (Txt.join lf l).cps.toList
  | [], _ => by rw [join_nil, join_nil]; rfl
  | [x], h => by
    rw [join_one, join_one]
    have := (h x List.mem_cons_self).cl []
    rw [List.append_nil, StrLaws.replL_nil, List.append_nil] at this
    exact this
  | x :: y :: r, h => by
    rw [join_two, join_two, app_tl, app_tl, app_tl, app_tl, List.append_assoc, tl_sc, (h x List.mem_cons_self).cl, List.cons_append, List.cons_append, List.nil_append, repl_sep, replJ2 (y :: r) fun p hp => h p (List.mem_cons_of_mem _ hp), List.append_assoc, tl_lf]
theorem parts_repl {l : List Str} (ok : ∀ p ∈ l, PtOk p) : Txt.replace (Txt.join sc2 l) sc2 lf = Txt.join lf l := by
  refine str_ext ?_
  rw [StrLaws.replace_list (by decide +kernel), tl_sc, tl_lf]
  exact replJ2 _ ok
theorem parts_split {l : List Str} (hne : l ≠ []) (ok : ∀ p ∈ l, PtOk p) : Txt.split (Txt.join lf l) lf = l := TL.split_join (s := 10) (S := []) tl_lf (by decide +kernel) hne fun p hp => (ok p hp).nolf
/-- a text of parts: its size and signs, and its rows -/
structure PtsOk (t : Str) (l : List Str) : Prop where
  len : t.length ≤ 100000
  asc : Asc t
  nolf : 10 ∉ t.cps.toList
  ok : TextOk (Txt.replace t sc2 lf)
  rows : rowsT (Txt.replace t sc2 lf) = l.map fun r => Txt.split r bl
theorem pts_ok {l : List Str} (hl : l.length ≤ 100) (ok : ∀ p ∈ l, PtOk p) (c : ∃ p ∈ l, 1 ≤ p.length) : PtsOk (Txt.join sc2 l) l := by
  obtain ⟨p0, hp0, c0⟩ := c
  have hne : l ≠ [] := fun e => by subst e; cases hp0
  have e2 := parts_repl ok
  have es := parts_split hne ok
  have h1 : (l.map (·.length)).sum ≤ l.length * 640 := StrLaws.sumLen_le (B := 640) l fun y hy => (ok y hy).len
  have h2 := join_le sc2 l
  have h3 := join_le lf l
  have h4 : sc2.length = 2 := by decide +kernel
  have h5 : lf.length = 1 := by decide +kernel
  rw [h4] at h2
  rw [h5] at h3
  have nz : Txt.join lf l ≠ Str.ofString "" := fun e => by
    have h2 := (mem_join_len (y := lf) (l := l) (p := p0) hp0).1
    rw [← TL.join_eq, e] at h2
    have : (Str.ofString "").length = 0 := by decide +kernel
    omega
  refine ⟨by omega, asc_joinT (asc_of _) fun y hy => (ok y hy).asc, fun q => ?_, ?_, ?_⟩
  · rcases mem_joinT q with q | ⟨p, hp, q⟩
    · rw [tl_sc] at q; simp at q
    · exact (ok p hp).nolf q
  · rw [e2]
    exact ⟨by omega, asc_joinT (asc_of _) fun y hy => (ok y hy).asc, fun r hr => by rw [es] at hr; exact (ok r hr).len⟩
  · rw [e2, rowsT, if_neg nz, es]
theorem row_pt {r : List Str} (h : RowOk r) (h2 : ∀ w ∈ r, 59 ∉ w.cps.toList) : PtOk (glue r) := pt_free h.le (glue_asc h) (glue_lf h) (glue_free (by decide) h2)
theorem wS_pt {s : Stretch} (h : SOk s) : PtOk (glue (wS s)) := row_pt (row_S' (bk := [s]) (fun x hx => by simp at hx; subst hx; exact h) _ (by simp)) (semi_S h)
theorem dk_st {G : Gp} {d p dx a : Addr} {ns : List Str} {bks : List (List Stretch)} {x y z x' y' z' : Int} (h : DkAt G d p dx ns bks) (hG : G a = some (stO x y z)) : DkAt (gput G a (stO x' y' z')) d p dx ns bks := by
  have e1 : d ≠ a := fun e => by subst e; rw [h.ob] at hG; cases hG
  have e2 : p ≠ a := fun e => by subst e; rw [h.kp] at hG; cases hG
  exact ⟨by rw [gput_ne e1]; exact h.ob, by rw [gput_ne e2]; exact h.kp, h.len⟩
theorem sumS_lt {l : List Str} (h : ∀ p ∈ l, PtOk p) (h2 : l.length ≤ 100) : (l.map (·.length)).sum + l.length * (Str.ofString "; ").length ≤ 16777216 := by
  have h1 : (l.map (·.length)).sum ≤ l.length * 640 := StrLaws.sumLen_le (B := 640) l fun y hy => (h y hy).len
  have h4 : (Str.ofString "; ").length = 2 := by decide +kernel
  rw [h4]
  omega
theorem eq_said {a b : Str} {G : Gp} {Q : DK} (ha : Asc a) (e : a = b) (q : Q (.bl true) G) : oEq (.lst [.str a]) (.lst [.str b]) G Q := by
  subst e
  exact eq_self (u := .list [.str a]) (n := 1) (shp_list fun x hx => by
    simp only [List.mem_singleton] at hx
    subst hx
    exact shp_str ha) (by simp) (by simp) q
theorem ne_said {a b : Str} {G : Gp} {Q : DK} (ha : Asc a) (e : a = b) (q : Q (.bl false) G) : oNe (.lst [.str a]) (.lst [.str b]) G Q := by
  subst e
  exact ne_self (u := .list [.str a]) (n := 1) (shp_list fun x hx => by
    simp only [List.mem_singleton] at hx
    subst hx
    exact shp_str ha) (by simp) (by simp) q
theorem bang_un : bang (Str.ofString "Unknown") = Str.ofString "!Unknown" := by decide +kernel
theorem bang_nt : bang (Str.ofString "NoText") = Str.ofString "!NoText" := by decide +kernel
theorem gl2s {w x u : Str} (hw : w = u ++ bl) : w ++ x = glue [u, x] := by
  subst hw
  unfold glue
  rw [join_two, join_one]
theorem eq_tt {a b : Str} {G : Gp} {Q : DK} (ha : Asc a) (e : a = b) (q : Q (.bl true) G) : oEq (.str a) (.str b) G Q := by
  subst e
  exact eq_ss ha ha (by rw [decide_eq_true rfl]; exact q)
def delN (ns : List Str) (n : Str) : List Str := ns.filter fun m => decide (m ≠ n)
def delB : List Str → List (List Stretch) → Str → List (List Stretch)
  | n' :: ns, b :: bks, n => if n' = n then delB ns bks n else b :: delB ns bks n
  | _, _, _ => []
theorem dropK_n (ns : List Str) (n : Str) : dropKs (ns.map Sum.inr) (.inr n) = (delN ns n).map Sum.inr := by
  induction ns with
  | nil => rfl
  | cons a r ih =>
    rw [List.map_cons, dropKs, ih]
    unfold delN
    by_cases c : a = n
    · rw [if_pos (by rw [c]), List.filter_cons_of_neg (by simp [c])]
    · rw [if_neg (fun e => c (Sum.inr.inj e)), List.filter_cons_of_pos (by simp [c])]; rfl
theorem dropV_n : ∀ (ns : List Str) (bks : List (List Stretch)) (n : Str), dropDs (ns.map Sum.inr) (bks.map bkD) (.inr n) = (delB ns bks n).map bkD
  | [], _, _ => by simp [dropDs, delB]
  | _ :: _, [], _ => by simp [dropDs, delB]
  | a :: r, b :: bks, n => by
    rw [List.map_cons, List.map_cons, dropDs, dropV_n r bks n, delB]
    by_cases c : a = n
    · rw [if_pos (by rw [c]), if_pos c]
    · rw [if_neg (fun e => c (Sum.inr.inj e)), if_neg c, List.map_cons]
theorem del_len : ∀ {ns : List Str} {bks : List (List Stretch)} {n : Str}, ns.length = bks.length → (delN ns n).length = (delB ns bks n).length
  | [], _, _, _ => by simp [delN, delB]
  | _ :: _, [], _, h => by cases h
  | a :: r, b :: bks, n, h => by
    have ih := del_len (ns := r) (bks := bks) (n := n) (by simpa using h)
    unfold delN at ih ⊢
    rw [delB]
    by_cases c : a = n
    · rw [if_pos c, List.filter_cons_of_neg (by simp [c])]; exact ih
    · rw [if_neg c, List.filter_cons_of_pos (by simp [c])]; simpa using ih
theorem bkAt_mem : ∀ {ns : List Str} {bks : List (List Stretch)} {n : Str} {bk : List Stretch}, bkAt ns bks n = some bk → n ∈ ns ∧ bk ∈ bks
  | [], _, _, _, h => by simp [bkAt] at h
  | _ :: _, [], _, _, h => by simp [bkAt] at h
  | a :: r, b :: bks, n, bk, h => by
    rw [bkAt] at h
    by_cases c : a = n
    · rw [if_pos c] at h
      cases h
      exact ⟨by rw [c]; exact List.mem_cons_self, List.mem_cons_self⟩
    · rw [if_neg c] at h
      have := bkAt_mem h
      exact ⟨List.mem_cons_of_mem _ this.1, List.mem_cons_of_mem _ this.2⟩
theorem putB1_mem : ∀ {ns : List Str} {bks : List (List Stretch)} {n : Str} {b c : List Stretch}, c ∈ putB1 ns bks n b → c = b ∨ c ∈ bks
  | [], _, _, _, _, h => by simp [putB1] at h
  | _ :: _, [], _, _, _, h => by simp [putB1] at h
  | a :: r, b' :: bks, n, b, c, h => by
    rw [putB1] at h
    rcases List.mem_cons.mp h with h | h
    · by_cases e : a = n
      · rw [if_pos e] at h; exact .inl h
      · rw [if_neg e] at h; exact .inr (by rw [h]; exact List.mem_cons_self)
    · rcases putB1_mem h with h | h
      · exact .inl h
      · exact .inr (List.mem_cons_of_mem _ h)
theorem putBk_mem {ns : List Str} {bks : List (List Stretch)} {n : Str} {b c : List Stretch} (h : c ∈ putBk ns bks n b) : c = b ∨ c ∈ bks := by
  unfold putBk at h
  split at h
  · exact putB1_mem h
  · rcases List.mem_append.mp h with h | h
    · exact .inr h
    · simp at h; exact .inl h
theorem delB_mem : ∀ {ns : List Str} {bks : List (List Stretch)} {n : Str} {c : List Stretch}, c ∈ delB ns bks n → c ∈ bks
  | [], _, _, _, h => by simp [delB] at h
  | _ :: _, [], _, _, h => by simp [delB] at h
  | a :: r, b' :: bks, n, c, h => by
    rw [delB] at h
    split at h
    · exact List.mem_cons_of_mem _ (delB_mem h)
    · rcases List.mem_cons.mp h with h | h
      · rw [h]; exact List.mem_cons_self
      · exact List.mem_cons_of_mem _ (delB_mem h)
theorem putN_mem {ns : List Str} {n m : Str} : m ∈ putN ns n ↔ m = n ∨ m ∈ ns := by
  unfold putN
  split
  · rename_i h
    exact ⟨.inr, fun q => q.elim (fun e => by rw [e]; exact h) id⟩
  · rw [List.mem_append, List.mem_singleton]; exact Or.comm
theorem putN_nd {ns : List Str} {n : Str} (h : ns.Nodup) : (putN ns n).Nodup := by
  unfold putN
  split
  · exact h
  · rename_i c
    rw [List.nodup_append]
    exact ⟨h, by simp, fun a ha b hb e => by simp at hb; subst hb; exact c (e ▸ ha)⟩
theorem delN_mem {ns : List Str} {n m : Str} : m ∈ delN ns n ↔ m ∈ ns ∧ m ≠ n := by
  unfold delN
  rw [List.mem_filter]
  simp
theorem delN_nd {ns : List Str} {n : Str} (h : ns.Nodup) : (delN ns n).Nodup := h.sublist List.filter_sublist
theorem nd_len : ∀ {l m : List Str}, l.Nodup → (∀ x ∈ l, x ∈ m) → l.length ≤ m.length
  | [], m, _, _ => Nat.zero_le _
  | a :: l, m, h, hs => by
    obtain ⟨h1, h2⟩ := List.nodup_cons.mp h
    have ha := hs a List.mem_cons_self
    have := nd_len (l := l) (m := m.erase a) h2 fun x hx => (List.mem_erase_of_ne (fun e : x = a => h1 (e ▸ hx))).mpr (hs x (List.mem_cons_of_mem _ hx))
    rw [List.length_erase_of_mem ha] at this
    have : 0 < m.length := List.length_pos_of_mem ha
    rw [List.length_cons]
    omega
end DL
set_option Elab.async false
set_option linter.all false
set_option maxRecDepth 100000
set_option maxHeartbeats 4000000
namespace DL
open PySem PySem.Spec PyProof.Rows L2 LN
def SayShow (G : Gp) (ns : List Str) (bks : List (List Stretch)) (z : Str) (Q : DK) (U : Ux) : Prop := ∃ n, z = glue [Str.ofString "shown", n] ∧ NameOk n ∧ (bkAt ns bks n = none → U ⟨"Unknown", none⟩ G) ∧ ∀ bk, bkAt ns bks n = some bk → BOk bk ∧ Q (.str (rowT (bk.map wS))) G
def SayDrop (G : Gp) (p : Addr) (ns : List Str) (bks : List (List Stretch)) (z : Str) (Q : DK) (U : Ux) : Prop := ∃ n, z = glue [Str.ofString "drop", n] ∧ NameOk n ∧ (bkAt ns bks n = none → U ⟨"Unknown", none⟩ G) ∧ ∀ bk, bkAt ns bks n = some bk → Q (.str "ok") (dput G p (delN ns n) (delB ns bks n))
def F_Desk_tellsS : Sx := fun ds G Q U => ∃ (x : D) (bk : List Stretch) (n : Str), ds = [x, wsD [Str.ofString "shown", n], bkD bk] ∧ BOk bk ∧ Q (.str (rowT (bk.map wS))) G
def F_Desk_sayS : Sx := fun ds G Q U => ∃ a p dx ns bks z, ds = [.ref a, .str z] ∧ DkAt G a p dx ns bks ∧ ns.length ≤ 40 ∧ z.length ≤ 1000000 ∧ Asc z ∧ 10 ∉ z.cps.toList ∧ (SayBook G p ns bks z Q U ∨ SayNames G ns z Q ∨ SayShow G ns bks z Q U ∨ SayDrop G p ns bks z Q U)
def F__law_saidS : Sf := fun ds G Q => ∃ a p dx ns bks z, ds = [.ref a, .str z] ∧ DkAt G a p dx ns bks ∧ F_Desk_sayS [.ref a, .str z] G (fun d G1 => (∃ t : Str, d = .str t) ∧ GoodG G G1 d ∧ Q d G1) (fun x G1 => G1 = G ∧ SaidC x.c ∧ Q (.lst [.str (bang x.c)]) G)
structure BadB (t : Str) : Prop where
  len : t.length ≤ 100000
  asc : Asc t
  nolf : 10 ∉ t.cps.toList
  ok : TextOk (Txt.replace t sc2 lf)
  bad : ∃ k, readB (rowsT (Txt.replace t sc2 lf)) [] = .inl k
def F__law_bad_text : Sf := fun ds G Q => ∃ (a : Addr) (x y z : Int) (bk : List Stretch), ds = [.ref a, bkD bk] ∧ G a = some (stO x y z) ∧ Ok3 x y z ∧ BOk bk ∧ bk.length ≤ 5 ∧ ∀ t x' y' z', Ok3 x' y' z' → BadB t → Q (.str t) (gput G a (stO x' y' z'))
def NamesA (ms : List Str) : Str := if ms = [] then Str.ofString "-" else Txt.join bl ms
inductive DoneIs (ns : List Str) (bks : List (List Stretch)) (nm : List Str) : Str → D → D → D → Prop
  | book (n : Str) (bk : List Stretch) : n ∈ nm → BOk bk → DoneIs ns bks nm (Str.ofString "book " ++ (n ++ bl ++ rowT (bk.map wS))) (.str "ok") (.str n) (bkD bk)
  | bad (n t : Str) : n ∈ nm → BadB t → DoneIs ns bks nm (Str.ofString "book " ++ (n ++ bl ++ t)) (.lst [.str "!NoText"]) .non .non
  | names (ms : List Str) : ms.Perm ns → sortedS ms = true → DoneIs ns bks nm (Str.ofString "names") (.str (NamesA ms)) .non .non
  | unkS (n : Str) : n ∈ nm → n ∉ ns → DoneIs ns bks nm (glue [Str.ofString "shown", n]) (.lst [.str "!Unknown"]) .non .non
  | unkD (n : Str) : n ∈ nm → n ∉ ns → DoneIs ns bks nm (glue [Str.ofString "drop", n]) (.lst [.str "!Unknown"]) .non .non
  | drop (n : Str) : n ∈ nm → n ∈ ns → DoneIs ns bks nm (glue [Str.ofString "drop", n]) (.str "ok") (.str n) .non
  | shown (n : Str) (bk : List Stretch) : n ∈ nm → bkAt ns bks n = some bk → DoneIs ns bks nm (glue [Str.ofString "shown", n]) (.str (rowT (bk.map wS))) .non .non
def F__law_doneS : Sf := fun ds G Q => ∃ (kp a : Addr) (ns nm : List Str) (bks : List (List Stretch)) (x y z : Int), ds = [.ref kp, .lst (nm.map D.str), .ref a] ∧ G kp = some (.dct (ns.map Sum.inr) (bks.map bkD)) ∧ ns.length = bks.length ∧ ns.length < 64 ∧ (∀ n ∈ ns, NameOk n) ∧ (∀ b ∈ bks, BOk b) ∧
  1 ≤ nm.length ∧ nm.length ≤ 10 ∧ (∀ n ∈ nm, NameOk n) ∧ G a = some (stO x y z) ∧ Ok3 x y z ∧ ∀ r d1 d2 d3 x' y' z', Ok3 x' y' z' → DoneIs ns bks nm r d1 d2 d3 → Q (.tup [.str r, d1, d2, d3]) (gput G a (stO x' y' z'))
def r_Desk_tellsS : ES :=
  (sSeq (sIf (eT (eOp oEq (eOp oIx (eVar 1) (eC (.int 0))) (eC (.str "shown")))) (sRet (eRepl "\n" "; " (eCall F_write_book (eCons (eVar 2) eNil)))) sNext)
  sNever)
def r_Desk_sayS : ES :=
  (sSeq (sIf (eOr (eNot (eTru (eCB cIsi (eCons (eVar 1) (eCons (eC (.ty "str")) eNil))))) (eT (eOp oInS (eC (.str "\n")) (eVar 1)))) (sRaise "NoRow") sNext)
  (sSeq (sIf (eTru (eM1 mStarts (eVar 1) (eC (.str "book ")))) (sRetX (eMethX "Desk" "takes" F_Desk_takes (eVar 0) (eXa (eCons (eVar 1) eNil)))) sNext)
  (sSeq (sIf (eTru (eM1 mStarts (eVar 1) (eC (.str "claim ")))) sNever sNext)
  (sSeq (sAsgX (eCallX F_words_of (eXa (eCons (eVar 1) eNil))) (.nm 2))
  (sSeq (sIf (eT (eOp oEq (eOp oIx (eVar 2) (eC (.int 0))) (eC (.str "names")))) (sRet (eOrT (eM1 mJoin (eC (.str " ")) (eCB cSortedDS (eCons (eFld "Desk" "kept" (eVar 0)) eNil))) (eC (.str "-")))) sNext)
  (sSeq (sAsgX (eMethX "Desk" "book_of" F_Desk_book_of (eVar 0) (eXa (eCons (eOp oIx (eVar 2) (eC (.int 1))) eNil))) (.nm 3))
  (sSeq (sIf (eT (eOp (oIn false) (eOp oIx (eVar 2) (eC (.int 0))) (eTup (eCons (eC (.str "put")) (eCons (eC (.str "gone")) (eCons (eC (.str "worth")) (eCons (eC (.str "slide")) eNil))))))) sNever sNext)
  (sSeq (sIf (eT (eOp oEq (eOp oIx (eVar 2) (eC (.int 0))) (eC (.str "drop")))) (sSeq (sDrop (eDPop1 (eFld "Desk" "kept" (eVar 0)) (eOp oIx (eVar 2) (eC (.int 1)))))
  (sRet (eC (.str "ok")))) sNext)
  (sRetX (eMethX "Desk" "tells" F_Desk_tellsS (eVar 0) (eXa (eCons (eVar 2) (eCons (eVar 3) eNil)))))))))))))
def r__law_saidS : ES :=
  (sSeq (sAsg (eC .non) (.nm 2))
  (sSeq (sAsg (eC (.str "")) (.nm 3))
  (sSeq (sTryAs (["NoBenches", "NoBook", "NoRow", "NoStretch", "NoText", "TooMany", "Unknown"] : List Str) "BenchError" 4 (sAsgX (eMethX "Desk" "say" F_Desk_sayS (eVar 0) (eXa (eCons (eVar 1) eNil))) (.nm 2)) (fun a dd x =>
    (sSeq (sAsg (eLst (eCons (eIsE a dd x 4 (isSub x.c "NoRow")) (eCons (eIsE a dd x 4 (isSub x.c "Unknown")) (eCons (eIsE a dd x 4 (isSub x.c "NoStretch")) eNil)))) (.nm 5))
  (sSeq (sAsg (eOp oAdd (eVar 5) (eLst (eCons (eIsE a dd x 4 (isSub x.c "NoText")) (eCons (eIsE a dd x 4 (isSub x.c "TooMany")) (eCons (eIsE a dd x 4 (isSub x.c "NoBook")) eNil))))) (.nm 5))
  (sSeq (sAsg (eOp oAdd (eVar 5) (eLst (eCons (eIsE a dd x 4 (isSub x.c "NoBenches")) (eCons (eIsE a dd x 4 (isSub x.c "NoTree")) (eCons (eIsE a dd x 4 (isSub x.c "Crowded")) eNil))))) (.nm 5))
  (sSeq (sAsg (eOp oAdd (eVar 5) (eLst (eCons (eIsE a dd x 4 (isSub x.c "NoRing")) (eCons (eIsE a dd x 4 (isSub x.c "NoTurn")) (eCons (eIsE a dd x 4 (isSub x.c "NoUndo")) eNil))))) (.nm 5))
  (sSeq (sAsg (eLst (eCons (eC (.str "NoRow")) (eCons (eC (.str "Unknown")) (eCons (eC (.str "NoStretch")) (eCons (eC (.str "NoText")) (eCons (eC (.str "TooMany")) (eCons (eC (.str "NoBook")) eNil))))))) (.nm 6))
  (sSeq (sAsg (eOp oAdd (eVar 6) (eLst (eCons (eC (.str "NoBenches")) (eCons (eC (.str "NoTree")) (eCons (eC (.str "Crowded")) (eCons (eC (.str "NoRing")) (eCons (eC (.str "NoTurn")) (eCons (eC (.str "NoUndo")) eNil)))))))) (.nm 6))
  (sSeq (sAsg (eOp oAdd (eC (.str "!")) (eM1 mJoin (eC (.str "")) (eLc (iZ (eCons (eVar 6) (eCons (eVar 5) eNil))) (.tp [7, 8]) (eTru (eVar 8)) (eVar 7) [7, 8]))) (.nm 3))
  (sIf (eNot (eTru (eIsE a dd x 4 true))) (sAsg (eC (.str "!")) (.nm 3)) sNext))))))))))
  (sSeq (sIf (eT (eOp oNe (eVar 3) (eC (.str "")))) (sRet (eLst (eCons (eVar 3) eNil))) sNext)
  (sRet (eVar 2))))))
def r__law_bad_text : ES :=
  (sSeq (sAsg (eLc (iL (eVar 1)) (.nm 5) eYes (eM1 mJoin (eC (.str " ")) (eLst (eCons (eC (.str "stretch")) (eCons (eOp oIx (eVar 5) (eC (.int 0))) (eCons (eCB cStrI (eCons (eOp oIx (eVar 5) (eC (.int 1))) eNil)) (eCons (eCB cStrI (eCons (eOp oIx (eVar 5) (eC (.int 2))) eNil)) (eCons (eCB cStrI (eCons (eOp oIx (eVar 5) (eC (.int 3))) eNil)) eNil))))))) [5]) (.nm 2))
  (sSeq (sAsg (eCall F__law_take (eCons (eVar 0) (eCons (eOp oAdd (eCB cLen (eCons (eVar 2) eNil)) (eC (.int 1))) eNil))) (.nm 3))
  (sSeq (sAsg (eLst (eCons (eC (.str "")) (eCons (eC (.str "stretch a 5 5 1")) (eCons (eC (.str "stretch A 1 2 3")) (eCons (eC (.str "stretch b 1 2")) (eCons (eC (.str "stretch b 1 2 -1")) (eCons (eC (.str "stretch b 01 2 3")) eNil))))))) (.nm 4))
  (sSeq (sAsg (eOp oAdd (eVar 4) (eLst (eCons (eC (.str "stretch b 1 2 3 ")) (eCons (eC (.str " stretch b 1 2 3")) (eCons (eC (.str "stretch b 1  2 3")) (eCons (eC (.str "chosen a")) (eCons (eC (.str "price 1 2")) eNil))))))) (.nm 4))
  (sSeq (sAsg (eOp oAdd (eVar 4) (eLst (eCons (eC (.str "stretch b 1 2 1000000000001")) (eCons (eOp oAdd (eC (.str "stretch b 1 2 ")) (eOp oRepS (eC (.str "1")) (eC (.int 15)))) (eCons (eOp oAdd (eOp oAdd (eC (.str "stretch b 1 ")) (eOp oRepS (eC (.str "9")) (eC (.int 60)))) (eC (.str " 3"))) eNil))))) (.nm 4))
  (sSeq (sAsg (eOp oAdd (eVar 4) (eLst (eCons (eC (.str "stretch\tb 1 2 3")) (eCons (eC (.str "stretch b 1 2 3;stretch c 1 2 3")) (eCons (eC (.str "stretch b 1 2 3 4")) (eCons (eC (.str "stretch b 2 1 3")) eNil)))))) (.nm 4))
  (sSeq (sIf (eAnd (eT (eOp oEq (eVar 2) (eLst eNil))) (eT (eOp oEq (eOp oIx (eVar 4) (eC (.int 0))) (eC (.str ""))))) (sAsg (eSlL (eVar 4) (ePart (eC (.int 1))) eNoPart) (.nm 4)) sNext)
  (sRet (eM1 mJoin (eC (.str "; ")) (eOp oAdd (eOp oAdd (eSlL (eVar 2) eNoPart (ePart (eVar 3))) (eLst (eCons (eOp oIx (eVar 4) (eCall F__law_take (eCons (eVar 0) (eCons (eCB cLen (eCons (eVar 4) eNil)) eNil)))) eNil))) (eSlL (eVar 2) (ePart (eVar 3)) eNoPart)))))))))))
def r__law_doneS : ES :=
  (sSeq (sAsg (eCall F__law_take (eCons (eVar 2) (eCons (eC (.int 8)) eNil))) (.nm 3))
  (sSeq (sAsg (eOp oIx (eVar 1) (eCall F__law_take (eCons (eVar 2) (eCons (eCB cLen (eCons (eVar 1) eNil)) eNil)))) (.nm 4))
  (sSeq (sIf (eT (eOp oLt (eVar 3) (eC (.int 3)))) (sSeq (sAsg (eCall F__law_book (eCons (eVar 2) (eCons (eC (.int 4)) eNil))) (.nm 5))
  (sRet (eTup (eCons (eOp oAdd (eOp oAdd (eOp oAdd (eC (.str "book ")) (eVar 4)) (eC (.str " "))) (eCall F__law_textD (eCons (eVar 5) eNil))) (eCons (eC (.str "ok")) (eCons (eVar 4) (eCons (eVar 5) eNil))))))) sNext)
  (sSeq (sIf (eT (eOp oEq (eVar 3) (eC (.int 3)))) (sSeq (sAsg (eOp oAdd (eOp oAdd (eOp oAdd (eC (.str "book ")) (eVar 4)) (eC (.str " "))) (eCall F__law_bad_text (eCons (eVar 2) (eCons (eCall F__law_book (eCons (eVar 2) (eCons (eC (.int 3)) eNil))) eNil)))) (.nm 6))
  (sRet (eTup (eCons (eVar 6) (eCons (eLst (eCons (eC (.str "!NoText")) eNil)) (eCons (eC .non) (eCons (eC .non) eNil))))))) sNext)
  (sSeq (sIf (eT (eOp oEq (eVar 3) (eC (.int 4)))) (sRet (eTup (eCons (eC (.str "names")) (eCons (eOrT (eM1 mJoin (eC (.str " ")) (eCB cSortedDS (eCons (eVar 0) eNil))) (eC (.str "-"))) (eCons (eC .non) (eCons (eC .non) eNil)))))) sNext)
  (sSeq (sIf (eT (eOp oDNotIn (eVar 4) (eVar 0))) (sRet (eTup (eCons (eOp oAdd (eOp oIx (eLst (eCons (eC (.str "shown ")) (eCons (eC (.str "drop ")) eNil))) (eOp oMod (eVar 3) (eC (.int 2)))) (eVar 4)) (eCons (eLst (eCons (eC (.str "!Unknown")) eNil)) (eCons (eC .non) (eCons (eC .non) eNil)))))) sNext)
  (sSeq (sIf (eT (eOp oEq (eVar 3) (eC (.int 5)))) (sRet (eTup (eCons (eOp oAdd (eC (.str "drop ")) (eVar 4)) (eCons (eC (.str "ok")) (eCons (eVar 4) (eCons (eC .non) eNil)))))) sNext)
  (sRet (eTup (eCons (eOp oAdd (eC (.str "shown ")) (eVar 4)) (eCons (eCall F__law_textD (eCons (eOp oDGet (eVar 0) (eVar 4)) eNil)) (eCons (eC .non) (eCons (eC .non) eNil)))))))))))))
def r_law_L1 : ES :=
  (sSeq (sAsg (eCall F__law_doneS (eCons (eVar 3) (eCons (eVar 5) (eCons (eCall F__law_begun (eCons (eVar 0) (eCons (eVar 6) eNil))) eNil)))) (.tp [7, 8, 9, 10]))
  (sSeq (sIf (eT (eOp oNe (eCall F__law_saidS (eCons (eVar 1) (eCons (eVar 7) eNil))) (eVar 8))) (sRet (eC (.bl false))) sNext)
  (sIf (eAnd (eT (eOp oNotN (eVar 9) (eC .non))) (eT (eOp oIsN (eVar 10) (eC .non)))) (sDrop (eDPop1 (eVar 3) (eVar 9))) (sIf (eT (eOp oNotN (eVar 9) (eC .non))) (sPutD (eVar 10) (eVar 3) (eVar 9)) sNext))))
def r_law_L2 : ES :=
  (sSeq (sAsg (eM1 mJoin (eC (.str " ")) (eLst (eCons (eC (.str "book")) (eCons (eOp oIx (eVar 12) (eVar 6)) (eCons (eC (.str "stretch")) (eCons (eC (.str "a")) (eCons (eC (.str "1")) (eCons (eCB cStrI (eCons (eOp oAdd (eC (.int 2)) (eVar 6)) eNil)) (eCons (eCB cStrI (eCons (eVar 6) eNil)) eNil))))))))) (.nm 7))
  (sIf (eT (eOp oNe (eMeth "Desk" "say" (nev F_Desk_sayS) (eVar 2) (eCons (eVar 7) eNil)) (eC (.str "ok")))) (sRet (eC (.bl false))) sNext))
def r_law : ES :=
  (sSeq (sAsg (eMake "Desk" F_Desk___init__ eNil) (.nm 1))
  (sSeq (sAsg (eMake "Desk" F_Desk___init__ eNil) (.nm 2))
  (sSeq (sAsg eDnewO (.nm 3))
  (sSeq (sAsg (eCall F__law_begun (eCons (eVar 0) (eCons (eC (.int 0)) eNil))) (.nm 4))
  (sSeq (sAsg (eLc (iR1 (eCons (eC (.int 6)) eNil)) (.nm 6) eYes (eCall F__law_name (eCons (eVar 4) (eCons (eVar 6) eNil))) [6]) (.nm 5))
  (sSeq (sFor (iR2 (eCons (eC (.int 1)) (eCons (eOp oAdd (eCB cMin2 (eCons (eCB cLen (eCons (eVar 0) eNil)) (eCons (eC (.int 50)) eNil))) (eC (.int 2))) eNil))) (.nm 6) r_law_L1)
  (sSeq (sIf (eOr (eT (eOp oNe (eMeth "Desk" "say" (nev F_Desk_sayS) (eVar 1) (eCons (eC (.str "names")) eNil)) (eOrT (eM1 mJoin (eC (.str " ")) (eCB cSortedDS (eCons (eVar 3) eNil))) (eC (.str "-"))))) (eT (eOp oNe (eMeth "Desk" "say" (nev F_Desk_sayS) (eVar 2) (eCons (eC (.str "names")) eNil)) (eC (.str "-"))))) (sRet (eC (.bl false))) sNext)
  (sSeq (sAsg (eC (.str "abcdefghijklmnopqrstuvwxyz")) (.nm 11))
  (sSeq (sAsg (eLc (iR1 (eCons (eC (.int 40)) eNil)) (.nm 6) eYes (eOp oRepT (eOp oIx (eVar 11) (eOp oMod (eVar 6) (eC (.int 26)))) (eOp oAdd (eC (.int 1)) (eOp oDivW (eVar 6) (eC (.int 26))))) [6]) (.nm 12))
  (sSeq (sFor (iR1 (eCons (eC (.int 40)) eNil)) (.nm 6) r_law_L2)
  (sSeq (sAsg (eOp oAdd (eOp oRepT (eOp oIx (eVar 11) (eOp oAdd (eCall F__law_take (eCons (eVar 4) (eCons (eC (.int 12)) eNil))) (eC (.int 14)))) (eC (.int 2))) (eC (.str " "))) (.nm 13))
  (sSeq (sIf (eT (eOp oNe (eCall F__law_saidS (eCons (eVar 2) (eCons (eOp oAdd (eOp oAdd (eC (.str "book ")) (eVar 13)) (eC (.str "stretch a 1 1 1"))) eNil))) (eLst (eCons (eC (.str "!NoText")) eNil)))) (sRet (eC (.bl false))) sNext)
  (sSeq (sIf (eT (eOp oNe (eCall F__law_saidS (eCons (eVar 2) (eCons (eOp oAdd (eC (.str "book ")) (eVar 13)) eNil))) (eLst (eCons (eC (.str "!TooMany")) eNil)))) (sRet (eC (.bl false))) sNext)
  (sSeq (sIf (eT (eOp oNe (eCall F__law_saidS (eCons (eVar 2) (eCons (eOp oAdd (eC (.str "shown ")) (eSlS (eVar 13) eNoPart (ePart (eC (.int 2))))) eNil))) (eLst (eCons (eC (.str "!Unknown")) eNil)))) (sRet (eC (.bl false))) sNext)
  (sSeq (sIf (eT (eOp oNe (eMeth "Desk" "say" (nev F_Desk_sayS) (eVar 2) (eCons (eC (.str "names")) eNil)) (eM1 mJoin (eC (.str " ")) (eCB cSortedS (eCons (eVar 12) eNil))))) (sRet (eC (.bl false))) sNext)
  (sSeq (sIf (eOr (eT (eOp oNe (eMeth "Desk" "say" (nev F_Desk_sayS) (eVar 2) (eCons (eC (.str "book bb ")) eNil)) (eC (.str "ok")))) (eT (eOp oNe (eMeth "Desk" "say" (nev F_Desk_sayS) (eVar 2) (eCons (eC (.str "shown bb")) eNil)) (eC (.str ""))))) (sRet (eC (.bl false))) sNext)
  (sSeq (sIf (eT (eOp oNe (eMeth "Desk" "say" (nev F_Desk_sayS) (eVar 2) (eCons (eC (.str "shown aa")) eNil)) (eC (.str "stretch a 1 28 26")))) (sRet (eC (.bl false))) sNext)
  (sSeq (sDrop (eMeth "Desk" "say" (nev F_Desk_sayS) (eVar 2) (eCons (eC (.str "drop bb")) eNil)))
  (sRet (eAndT (eOp oEq (eMeth "Desk" "say" (nev F_Desk_sayS) (eVar 2) (eCons (eOp oAdd (eC (.str "book ")) (eVar 13)) eNil)) (eC (.str "ok"))) (eOp oEq (eCall F__law_saidS (eCons (eVar 2) (eCons (eC (.str "book bb ")) eNil))) (eLst (eCons (eC (.str "!TooMany")) eNil)))))))))))))))))))))))
theorem d_Desk_tellsS (ds : List D) (G : Gp) (Q : DK) (U : Ux) (h : F_Desk_tellsS ds G Q U) : r_Desk_tellsS (finX G Q U) (startD 10 ds) G := by
  obtain ⟨x, bk, n, rfl, hb, k⟩ := h
  have e0 : startD 10 [x, wsD [Str.ofString "shown", n], bkD bk] = [some x, some (wsD [Str.ofString "shown", n]), some (bkD bk), none, none, none, none, none, none, none] := rfl
  rw [e0]
  refine seq_gen fun W hW => ?_
  refine w_if rfl (asc_of _) (asc_of _) ?_
  rw [if_pos rfl]
  (try dsimp only [sRet, eRepl, eCall, eCons, eVar, List.getElem?_cons_succ, List.getElem?_cons_zero, eNil]); (skip); (skip)
  refine ⟨_, bk, rfl, rfl, by have := hb.len; omega, hb.all, ?_⟩
  have := book_ln hb
  have e2 : (Str.ofString "; ").length = 2 := by decide +kernel
  refine ⟨by rw [e2]; omega, ?_⟩
  rw [lf_semi (row_S' hb.all)]
  exact fin_id k
theorem drop_row {n : Str} (hn : NameOk n) : RowOk [Str.ofString "drop", n] ∧ rowB [Str.ofString "drop", n] = true := by
  have wn : n.length ≤ 61 ∧ Asc n ∧ 32 ∉ n.cps.toList ∧ 10 ∉ n.cps.toList := ⟨by have := hn.l8; omega, asc_name hn, free_name hn (by decide), free_name hn (by decide)⟩
  have fn : formB n (Str.ofString "name") = true := by unfold formB; rw [if_pos rfl]; exact namB_iff.mpr hn
  refine ⟨row_of_words (by decide +kernel) (by simp) (List.forall_mem_cons.mpr ⟨⟨by decide +kernel, asc_of _, by decide +kernel, by decide +kernel⟩, (List.forall_mem_cons.mpr ⟨wn, (fun _ h => by cases h)⟩)⟩), ?_⟩
  show (match kfind tab_FORMS (Str.ofString "drop") with | some fs => decide ([n].length = fs.length) && formsB [n] fs | none => false) = true
  rw [show kfind tab_FORMS (Str.ofString "drop") = some [Str.ofString "name"] by decide +kernel]
  show (decide ([n].length = 1) && formsB [n] [Str.ofString "name"]) = true
  simp [formsB, fn]
theorem two_head {w : Str} {c : Nat} {r : List Nat} (y : Str) (h : w.cps.toList = c :: r) : (glue [w, y]).cps.toList = c :: (r ++ bl.cps.toList ++ (glue [y]).cps.toList) := by
  unfold glue
  rw [join_two, app_tl, app_tl, h]
  simp
theorem d_Desk_sayS (ds : List D) (G : Gp) (Q : DK) (U : Ux) (h : F_Desk_sayS ds G Q U) : r_Desk_sayS (finX G Q U) (startD 4 ds) G := by
  obtain ⟨a, p, dx, ns, bks, z, rfl, da, h40, hz, ha, hlf, k⟩ := h
  refine seq_gen fun W hW => ?_
  (try dsimp only [startD, sIf, eOr, eNot, eTru, eCB, eCons, eVar, sRaise, sNext, eT, eOp, eC, eNil]); (try simp only [List.map_cons, List.map_nil, List.length_cons, List.length_nil, Nat.reduceAdd, List.replicate, List.cons_append, List.nil_append, if_true]); (try dsimp only [List.getElem?_cons_succ, List.getElem?_cons_zero])
  rw [isi_str rfl]
  (try dsimp only [isS, truD_bl, oInS]); (try simp only [Bool.not_true, Bool.false_eq_true, if_false]); (skip)
  have e10 : (Str.ofString "\n").cps.toList = [10] := by decide +kernel
  rw [e10]
  (try dsimp only); (skip); (skip)
  rw [decide_eq_false hlf]
  (skip); (try simp only [Bool.false_eq_true, if_false]); (skip)
  refine hW _ _ ?_
  refine seq_gen fun W2 hW2 => ?_
  (try dsimp only [sIf, eTru, eM1, eVar, List.getElem?_cons_succ, List.getElem?_cons_zero, sRetX, sNext, mStarts, truD_bl, eC]); (skip); (skip)
  refine ⟨trivial, ?_⟩
  have eb : (Str.ofString "book ").cps.toList = 98 :: [111, 111, 107, 32] := by decide +kernel
  have ec : (Str.ofString "claim ").cps.toList = 99 :: [108, 97, 105, 109, 32] := by decide +kernel
  rcases k with ⟨n, t, rfl, hn, tk, u1, k⟩ | ⟨rfl, hn, k⟩ | ⟨n, rfl, hn, u1, k⟩ | ⟨n, rfl, hn, u1, k⟩
  · rw [starts_app]
    (try dsimp only [eMethX, eVar, List.getElem?_cons_zero, eXa, eCons, List.getElem?_cons_succ, eNil]); (try simp only [if_true]); (skip)
    refine ⟨ins_dk da (by decide +kernel), ?_⟩
    refine ⟨a, p, dx, ns, bks, _, Str.ofString "book", n, t, rfl, da, by omega, hz, ?_, by have := hn.l8; omega, asc_name hn, (fun c => by rw [namB_iff.mpr hn] at c; cases c), fun _ => ⟨tk, (fun j e => finX_id (u1 j e)), fun bk e => ?_⟩⟩
    · have e1 : Str.ofString "book " = Str.ofString "book" ++ bl := by decide +kernel
      rw [e1, cutW_one (by decide +kernel), cutW_one (free_name hn (by decide))]
      rfl
    · obtain ⟨k1, k2⟩ := k bk e
      exact ⟨fun c => finX_id (k1 c), fun c => fin_dput da rfl (k2 c)⟩
  · have hcl : (Str.ofString "names").cps.toList = 110 :: [97, 109, 101, 115] := by decide +kernel
    rw [starts_ne hcl eb (by decide)]
    (skip); (try simp only [Bool.false_eq_true, if_false]); (skip)
    refine hW2 _ _ ?_
    refine seq_gen fun W3 hW3 => ?_
    (try dsimp only [sIf, eTru, eM1, eVar, List.getElem?_cons_succ, List.getElem?_cons_zero, sNext, mStarts, truD_bl, eC]); (skip); (skip)
    refine ⟨trivial, ?_⟩
    rw [starts_ne hcl ec (by decide)]
    (skip); (try simp only [Bool.false_eq_true, if_false]); (skip)
    refine hW3 _ _ ?_
    have es : Txt.split (Str.ofString "names") bl = [Str.ofString "names"] := by decide +kernel
    refine seq_gen fun W4 hW4 => ?_
    (try dsimp only [sAsgX, eCallX, eXa, eCons, eVar, List.getElem?_cons_succ, List.getElem?_cons_zero, asg, List.set_cons_succ, List.set_cons_zero, eNil]); (skip); (skip)
    refine ⟨_, rfl, by decide +kernel, asc_of _, (fun w hw => by rw [es] at hw; simp only [List.mem_singleton] at hw; subst hw; decide +kernel), (fun _ => ?_), (fun c => by rw [es] at c; exact absurd c (by decide +kernel))⟩
    rw [es]
    refine hW4 _ _ ?_
    refine seq_gen fun W5 hW5 => ?_
    refine w_if2 rfl (asc_of _) (asc_of _) ?_
    rw [if_pos rfl]
    (try dsimp only [sRet, eOrT, eM1, eC, eCB, eCons, eNil]); (skip); (skip)
    refine ⟨trivial, ?_⟩
    refine fld_kept da rfl rfl ?_
    (try dsimp only [cSortedDS]); (try simp only [lkD_kept da, Option.bind_some, strKs_map]); (skip)
    refine ⟨by omega, fun ms pm up => ?_⟩
    have hms : ∀ m ∈ ms, NameOk m := fun m hm => hn m (pm.mem_iff.mp hm)
    have hl := pm.length_eq
    have e1 : (Str.ofString " ").length = 1 := by decide +kernel
    have := mj (f := fun x : Str => x) (l := ms) (a := Str.ofString " ") (B := 8) (G := G) (Q := fun x G1 => match truD G1 x with
      | some k => if k = true then (finX G Q U).rt x G1 else (finX G Q U).rt (D.str "-") G1
      | none => False) (fun x hx => (hms x hx).l8) (by rw [e1]; omega) ?_
    · exact this
    rw [List.map_id']
    have kq := k ms pm up
    by_cases c : ms = []
    · subst c
      rw [if_pos rfl] at kq
      rw [join_nil, tru_str (by decide)]
      exact fin_id kq
    · rw [if_neg c] at kq
      have l0 : (Txt.join (Str.ofString " ") ms).length ≤ 16777216 := by
        have h1 := join_le (Str.ofString " ") ms
        have h2 := sumS_le (B := 8) ms fun y hy => (hms y hy).l8
        rw [e1] at h1
        omega
      have l1 : 1 ≤ (Txt.join (Str.ofString " ") ms).length := by
        obtain ⟨b, r, e⟩ := List.exists_cons_of_ne_nil c
        have h1 := (mem_join_len (y := Str.ofString " ") (l := ms) (p := b) (by rw [e]; exact List.mem_cons_self)).1
        rw [← TL.join_eq] at h1
        have := (hms b (by rw [e]; exact List.mem_cons_self)).l1
        omega
      rw [tru_str l0, show ((((Txt.join (Str.ofString " ") ms).length : Nat) : Int) != 0) = true from by simp; omega]
      exact fin_id kq
  · have hrow : RowOk [Str.ofString "shown", n] ∧ rowB [Str.ofString "shown", n] = true := by
      obtain ⟨w, r, hws, hrow, hrb, _⟩ := ask_row (q := .shown) hn trivial
      exact ⟨hrow, hrb⟩
    have ecl := two_head (w := Str.ofString "shown") (c := 115) (r := [104, 111, 119, 110]) n (by decide +kernel)
    rw [starts_ne ecl eb (by decide)]
    (skip); (try simp only [Bool.false_eq_true, if_false]); (skip)
    refine hW2 _ _ ?_
    refine seq_gen fun W3 hW3 => ?_
    (try dsimp only [sIf, eTru, eM1, eVar, List.getElem?_cons_succ, List.getElem?_cons_zero, sNext, mStarts, truD_bl, eC]); (skip); (skip)
    refine ⟨trivial, ?_⟩
    rw [starts_ne ecl ec (by decide)]
    (skip); (try simp only [Bool.false_eq_true, if_false]); (skip)
    refine hW3 _ _ ?_
    have es : Txt.split (glue [Str.ofString "shown", n]) bl = [Str.ofString "shown", n] := split_glue hrow.1
    refine seq_gen fun W4 hW4 => ?_
    (try dsimp only [sAsgX, eCallX, eXa, eCons, eVar, List.getElem?_cons_succ, List.getElem?_cons_zero, asg, List.set_cons_succ, List.set_cons_zero, eNil]); (skip); (skip)
    refine ⟨_, rfl, hz, ha, (fun v hv => ?_), (fun _ => ?_), (fun c => by rw [es, hrow.2] at c; cases c)⟩
    · have h1 := (mem_split hv).1
      have h2 := hrow.1.le
      omega
    rw [es]
    refine hW4 _ _ ?_
    refine seq_gen fun W5 hW5 => ?_
    refine w_if2 rfl (asc_of _) (asc_of _) ?_
    rw [if_neg (by decide +kernel)]
    refine hW5 _ _ ?_
    refine seq_gen fun W6 hW6 => ?_
    (try dsimp only [sAsgX, eMethX, eVar, List.getElem?_cons_zero, asg, List.set_cons_succ, List.set_cons_zero, eXa, eCons, eOp, List.getElem?_cons_succ, eNil, eC]); (skip); (skip)
    refine ⟨ins_dk da (by decide +kernel), ?_⟩
    refine ws_at (k := 1) rfl ?_
    refine ⟨a, p, dx, ns, bks, n, rfl, da, (fun bk ek => ?_), (fun ek => finX_id (u1 ek))⟩
    obtain ⟨hb, k1⟩ := k bk ek
    refine hW6 _ _ ?_
    refine seq_gen fun W7 hW7 => ?_
    (try dsimp only [sIf, eT, eOp, eVar, List.getElem?_cons_succ, List.getElem?_cons_zero, sNext, eTup, eCons, eC, eNil]); (try simp only [List.length_cons, List.length_nil, Nat.reduceAdd, sizeLine_eq, Nat.reduceLeDiff, true_and]); (skip)
    refine ws_at (k := 0) rfl ?_
    refine in_tstrs (l := [Str.ofString "put", Str.ofString "gone", Str.ofString "worth", Str.ofString "slide"]) ?_
    rw [decide_eq_false (by decide +kernel)]
    (try dsimp only); (try simp only [Bool.false_eq_true, if_false]); (skip)
    refine hW7 _ _ ?_
    refine seq_gen fun W8 hW8 => ?_
    refine w_if2 rfl (asc_of _) (asc_of _) ?_
    rw [if_neg (by decide +kernel)]
    refine hW8 _ _ ?_
    (try dsimp only [sRetX, eMethX, eVar, List.getElem?_cons_zero, eXa, eCons, List.getElem?_cons_succ, eNil]); (skip); (skip)
    refine ⟨ins_dk da (by decide +kernel), ?_⟩
    exact ⟨.ref a, bk, n, rfl, hb, fin_id k1⟩
  · have hrow := drop_row hn
    have ecl := two_head (w := Str.ofString "drop") (c := 100) (r := [114, 111, 112]) n (by decide +kernel)
    rw [starts_ne ecl eb (by decide)]
    (skip); (try simp only [Bool.false_eq_true, if_false]); (skip)
    refine hW2 _ _ ?_
    refine seq_gen fun W3 hW3 => ?_
    (try dsimp only [sIf, eTru, eM1, eVar, List.getElem?_cons_succ, List.getElem?_cons_zero, sNext, mStarts, truD_bl, eC]); (skip); (skip)
    refine ⟨trivial, ?_⟩
    rw [starts_ne ecl ec (by decide)]
    (skip); (try simp only [Bool.false_eq_true, if_false]); (skip)
    refine hW3 _ _ ?_
    have es : Txt.split (glue [Str.ofString "drop", n]) bl = [Str.ofString "drop", n] := split_glue hrow.1
    refine seq_gen fun W4 hW4 => ?_
    (try dsimp only [sAsgX, eCallX, eXa, eCons, eVar, List.getElem?_cons_succ, List.getElem?_cons_zero, asg, List.set_cons_succ, List.set_cons_zero, eNil]); (skip); (skip)
    refine ⟨_, rfl, hz, ha, (fun v hv => ?_), (fun _ => ?_), (fun c => by rw [es, hrow.2] at c; cases c)⟩
    · have h1 := (mem_split hv).1
      have h2 := hrow.1.le
      omega
    rw [es]
    refine hW4 _ _ ?_
    refine seq_gen fun W5 hW5 => ?_
    refine w_if2 rfl (asc_of _) (asc_of _) ?_
    rw [if_neg (by decide +kernel)]
    refine hW5 _ _ ?_
    refine seq_gen fun W6 hW6 => ?_
    (try dsimp only [sAsgX, eMethX, eVar, List.getElem?_cons_zero, asg, List.set_cons_succ, List.set_cons_zero, eXa, eCons, eOp, List.getElem?_cons_succ, eNil, eC]); (skip); (skip)
    refine ⟨ins_dk da (by decide +kernel), ?_⟩
    refine ws_at (k := 1) rfl ?_
    refine ⟨a, p, dx, ns, bks, n, rfl, da, (fun bk ek => ?_), (fun ek => finX_id (u1 ek))⟩
    have k1 := k bk ek
    refine hW6 _ _ ?_
    refine seq_gen fun W7 hW7 => ?_
    (try dsimp only [sIf, eT, eOp, eVar, List.getElem?_cons_succ, List.getElem?_cons_zero, sNext, eTup, eCons, eC, eNil]); (try simp only [List.length_cons, List.length_nil, Nat.reduceAdd, sizeLine_eq, Nat.reduceLeDiff, true_and]); (skip)
    refine ws_at (k := 0) rfl ?_
    refine in_tstrs (l := [Str.ofString "put", Str.ofString "gone", Str.ofString "worth", Str.ofString "slide"]) ?_
    rw [decide_eq_false (by decide +kernel)]
    (try dsimp only); (try simp only [Bool.false_eq_true, if_false]); (skip)
    refine hW7 _ _ ?_
    refine seq_gen fun W8 hW8 => ?_
    refine w_if2 rfl (asc_of _) (asc_of _) ?_
    rw [if_pos rfl]
    refine seq_gen fun W9 hW9 => ?_
    (try dsimp only [sDrop, eDPop1, eOp, eVar, List.getElem?_cons_succ, List.getElem?_cons_zero, eC]); (skip); (skip)
    refine fld_kept da rfl rfl ?_
    refine ⟨by rw [lkD_kept da]; rfl, ?_⟩
    refine ws_at (k := 1) rfl ?_
    have ev := bkAt_v ns bks n
    rw [ek] at ev
    simp only [keyD, da.kp, ev, Option.map_some]
    refine hW9 _ _ ?_
    (try dsimp only [sRet, eC]); (skip); (skip)
    rw [dropK_n, dropV_n]
    exact fin_dput da rfl k1
theorem sayS_mono {ds : List D} {G : Gp} {Q Q' : DK} {U U' : Ux} (h1 : ∀ d G1, Q d G1 → Q' d G1) (h2 : ∀ x G1, U x G1 → U' x G1) (h : F_Desk_sayS ds G Q U) : F_Desk_sayS ds G Q' U' := by
  obtain ⟨a, p, dx, ns, bks, z, e, da, h40, hz, ha, hl, k⟩ := h
  refine ⟨a, p, dx, ns, bks, z, e, da, h40, hz, ha, hl, ?_⟩
  rcases k with ⟨n, t, e, hn, tk, u1, k⟩ | ⟨e, hn, k⟩ | ⟨n, e, hn, u1, k⟩ | ⟨n, e, hn, u1, k⟩
  · exact .inl ⟨n, t, e, hn, tk, fun j q => h2 _ _ (u1 j q), fun bk q => ⟨fun c => h2 _ _ ((k bk q).1 c), fun c => h1 _ _ ((k bk q).2 c)⟩⟩
  · exact .inr (.inl ⟨e, hn, fun ms p q => h1 _ _ (k ms p q)⟩)
  · exact .inr (.inr (.inl ⟨n, e, hn, fun q => h2 _ _ (u1 q), fun bk q => ⟨(k bk q).1, h1 _ _ (k bk q).2⟩⟩))
  · exact .inr (.inr (.inr ⟨n, e, hn, fun q => h2 _ _ (u1 q), fun bk q => h1 _ _ (k bk q)⟩))
theorem d__law_saidS (ds : List D) (G : Gp) (Q : DK) (h : F__law_saidS ds G Q) : r__law_saidS (fin G Q) (startD 9 ds) G := by
  obtain ⟨a, p, dx, ns, bks, z, rfl, da, k⟩ := h
  refine seq_gen fun W hW => ?_
  (try dsimp only [startD, sAsg, eC, asg]); (try simp only [List.map_cons, List.map_nil, List.length_cons, List.length_nil, Nat.reduceAdd, List.replicate, List.cons_append, List.nil_append]); (try dsimp only [List.set_cons_succ, List.set_cons_zero])
  refine hW _ _ ?_
  refine seq_gen fun W2 hW2 => ?_
  (try dsimp only [sAsg, eC, asg, List.set_cons_succ, List.set_cons_zero]); (skip); (skip)
  refine hW2 _ _ ?_
  refine seq_gen fun W3 hW3 => ?_
  refine try_gen fun XR hXR => ?_
  (try dsimp only [sAsgX, eMethX, eVar, List.getElem?_cons_zero, asg, List.set_cons_succ, List.set_cons_zero, eXa, eCons, List.getElem?_cons_succ, eNil]); (skip); (skip)
  refine ⟨ins_dk da (by decide +kernel), ?_⟩
  refine sayS_mono (fun d G1 h => ?_) (fun x G1 h => ?_) k
  · obtain ⟨⟨t, rfl⟩, gg, q⟩ := h
    refine hW3 _ _ ?_
    refine seq_gen fun W4 hW4 => ?_
    (try dsimp only [sIf, eT, eOp, eVar, List.getElem?_cons_succ, List.getElem?_cons_zero, sRet, eLst, eCons, eNil, sNext, eC]); (try simp only [List.length_cons, List.length_nil, Nat.reduceAdd, sizeLine_eq, Nat.reduceLeDiff, true_and]); (skip)
    refine ne_ss (asc_of _) (asc_of _) ?_
    rw [decide_eq_true rfl]
    (try dsimp only); (try simp only [Bool.not_true, Bool.false_eq_true, if_false]); (skip)
    refine hW4 _ _ ?_
    (try dsimp only [sRet, eVar, List.getElem?_cons_succ, List.getElem?_cons_zero]); (skip); (skip)
    exact fin_sub (fun a o e => e) gg.old gg.new gg.val q
  · obtain ⟨rfl, hc, q⟩ := h
    refine hXR _ _ _ ⟨?_, ?_⟩
    · rcases hc with h | h | h | h | h <;> rw [h] <;> decide +kernel
    · rw [if_pos (by rcases hc with h | h | h | h | h <;> rw [h] <;> decide +kernel)]
      intro a' dd
      refine suiteS_ok hc fun o5 o6 => ?_
      refine hW3 _ _ ?_
      refine seq_gen fun W4 hW4 => ?_
      (try dsimp only [sIf, eT, eOp, eVar, List.getElem?_cons_succ, List.getElem?_cons_zero, sRet, eLst, eCons, eNil, sNext, eC]); (try simp only [List.length_cons, List.length_nil, Nat.reduceAdd, sizeLine_eq, Nat.reduceLeDiff, true_and]); (skip)
      refine ne_ss (bang_ok hc).1 (asc_of _) ?_
      rw [decide_eq_false (bang_ok hc).2]
      (try dsimp only); (try simp only [Bool.not_false, if_true]); (skip)
      exact fin_id q
def BadRs (rows : List (List Str)) : Prop := ∀ acc, ∃ k, readB rows acc = .inl k
theorem bad_cons {ws : List Str} {R : List (List Str)} (h : BadRs R) : BadRs (ws :: R) := fun acc => by
  rw [readB]
  split
  · split
    · exact ⟨_, rfl⟩
    · exact h _
  · exact ⟨_, rfl⟩
theorem bad_rest {R : List (List Str)} (h : BadRs R) : ∀ A, BadRs (A ++ R)
  | [] => h
  | a :: A => bad_cons (bad_rest h A)
theorem bad_head {ws : List Str} {R : List (List Str)} (h : stW ws = none) : BadRs (ws :: R) := fun acc => by
  rw [readB, h]
  exact ⟨_, rfl⟩
theorem badB_of {t : Str} {l : List Str} (h : PtsOk t l) (hb : BadRs (l.map fun r => Txt.split r bl)) : BadB t :=
  ⟨h.len, h.asc, h.nolf, h.ok, by rw [h.rows]; exact hb []⟩
structure BadP (p : Str) : Prop where
  ok : PtOk p
  bad : stW (Txt.split p bl) = none
theorem badP_one {p : Str} (h : (decide (p.length ≤ 640) && !decide (10 ∈ p.cps.toList) && !decide (59 ∈ p.cps.toList) && (stW (Txt.split p bl)).isNone) = true) (ha : Asc p) : BadP p := by
  simp only [Bool.and_eq_true, Bool.not_eq_true', decide_eq_true_eq, decide_eq_false_iff_not] at h
  obtain ⟨⟨⟨h1, h3⟩, h4⟩, h5⟩ := h
  exact ⟨pt_free h1 ha h3 h4, by simpa using h5⟩
def badL : List Str := [Str.ofString "stretch a 5 5 1", Str.ofString "stretch A 1 2 3", Str.ofString "stretch b 1 2", Str.ofString "stretch b 1 2 -1", Str.ofString "stretch b 01 2 3", Str.ofString "stretch b 1 2 3 ", Str.ofString " stretch b 1 2 3", Str.ofString "stretch b 1  2 3", Str.ofString "chosen a", Str.ofString "price 1 2", Str.ofString "stretch b 1 2 1000000000001", Str.ofString "stretch b 1 2 " ++ repS (Str.ofString "1") 15, Str.ofString "stretch b 1 " ++ repS (Str.ofString "9") 60 ++ Str.ofString " 3", Str.ofString "stretch\tb 1 2 3", Str.ofString "stretch b 1 2 3;stretch c 1 2 3", Str.ofString "stretch b 1 2 3 4", Str.ofString "stretch b 2 1 3"]
theorem badL_ok : ∀ b ∈ Str.ofString "" :: badL, BadP b := by
  intro b hb
  simp only [badL, List.mem_cons, List.not_mem_nil, or_false] at hb
  rcases hb with rfl | rfl | rfl | rfl | rfl | rfl | rfl | rfl | rfl | rfl | rfl | rfl | rfl | rfl | rfl | rfl | rfl | rfl
  · exact badP_one (by decide +kernel) (asc_of _)
  · exact badP_one (by decide +kernel) (asc_of _)
  · exact badP_one (by decide +kernel) (asc_of _)
  · exact badP_one (by decide +kernel) (asc_of _)
  · exact badP_one (by decide +kernel) (asc_of _)
  · exact badP_one (by decide +kernel) (asc_of _)
  · exact badP_one (by decide +kernel) (asc_of _)
  · exact badP_one (by decide +kernel) (asc_of _)
  · exact badP_one (by decide +kernel) (asc_of _)
  · exact badP_one (by decide +kernel) (asc_of _)
  · exact badP_one (by decide +kernel) (asc_of _)
  · exact badP_one (by decide +kernel) (asc_of _)
  · exact badP_one (by decide +kernel) (asc_app (asc_of _) (by rw [show repS (Str.ofString "1") 15 = Str.ofString "111111111111111" by decide +kernel]; exact asc_of _))
  · exact badP_one (by decide +kernel) (asc_app (asc_app (asc_of _) (by rw [show repS (Str.ofString "9") 60 = Str.ofString "999999999999999999999999999999999999999999999999999999999999" by decide +kernel]; exact asc_of _)) (asc_of _))
  · exact badP_one (by decide +kernel) (asc_of _)
  · refine ⟨⟨by decide +kernel, asc_of _, by decide +kernel, fun rest => ?_⟩, by decide +kernel⟩
    have e : (Str.ofString "stretch b 1 2 3;stretch c 1 2 3").cps.toList = (Str.ofString "stretch b 1 2 3").cps.toList ++ 59 :: 115 :: (Str.ofString "tretch c 1 2 3").cps.toList := by decide +kernel
    rw [e, List.append_assoc, repl_free (by decide +kernel), List.cons_append, StrLaws.replL_miss (by simp), List.cons_append, ← List.cons_append, repl_free (by decide +kernel)]
    simp
  · exact badP_one (by decide +kernel) (asc_of _)
  · exact badP_one (by decide +kernel) (asc_of _)
theorem eq_snil {l : List Str} {G : Gp} {Q : DK} (ha : ∀ x ∈ l, Asc x) (q : Q (.bl l.isEmpty) G) : oEq (.lst (l.map D.str)) (.lst []) G Q := by
  have s1 : Shp 1 (.list (l.map PyData.str)) := shp_list fun x hx => by obtain ⟨i, hi, rfl⟩ := List.mem_map.mp hx; exact shp_str (ha i hi)
  have s2 : Shp 1 (.list []) := shp_list fun x hx => by cases hx
  have e0 : toPys G (l.map D.str) = some (l.map PyData.str) := toPys_map (fun i => by simp) l
  have e1 : toPy G (.lst (l.map D.str)) = some (.list (l.map PyData.str)) := by simp [e0]
  have e2 : toPy G (.lst []) = some (.list []) := by simp
  simp only [oEq, e1, e2, s1.shaped (by decide), s2.shaped (by decide), true_and]
  cases l with
  | nil => rw [List.map_nil, eqv_self s2]; exact q
  | cons a l => simpa [PyData.eqv, PyData.eqvAll] using q
theorem badL_pos : ∀ b ∈ badL, 1 ≤ b.length := by decide +kernel
theorem d__law_bad_text (ds : List D) (G : Gp) (Q : DK) (h : F__law_bad_text ds G Q) : r__law_bad_text (fin G Q) (startD 6 ds) G := by
  obtain ⟨a, x, y, z, bk, rfl, hG, ok, hb, hl, k⟩ := h
  have rok : ∀ p ∈ bk.map (fun s => glue (wS s)), PtOk p := fun p hp => by
    obtain ⟨s, hs, rfl⟩ := List.mem_map.mp hp
    exact wS_pt (hb.all s hs)
  refine seq_gen fun W hW => ?_
  (try dsimp only [startD, sAsg, asg]); (try simp only [List.map_cons, List.map_nil, List.length_cons, List.length_nil, Nat.reduceAdd, List.replicate, List.cons_append, List.nil_append]); (try dsimp only [List.set_cons_succ, List.set_cons_zero])
  (try dsimp only [eLc, iL, eVar, List.getElem?_cons_succ, List.getElem?_cons_zero, wipeD, List.set_cons_succ, List.set_cons_zero, lkL_lst]); (skip); (skip)
  refine compW_all (g := Stretch.d) (f := fun s : Stretch => D.str (glue (wS s))) trivial bk [] (fun s hs => ⟨_, rfl, fun R r => ?_⟩) ?_
  · have hs := hb.all s hs
    (try dsimp only [List.set_cons_succ, List.set_cons_zero, eM1, eC, eLst, eCons, eOp, eVar, List.getElem?_cons_succ, List.getElem?_cons_zero, eCB, eNil]); (try simp only [List.length_cons, List.length_nil, Nat.reduceAdd, sizeLine_eq, Nat.reduceLeDiff, true_and]); (skip)
    obtain ⟨f1, f2, f3⟩ := far_sok hs
    refine ⟨trivial, ?_⟩
    refine ixt_0 (atI_nat (j := 0) rfl) ?_
    refine ixt_0 (atI_nat (j := 1) rfl) ?_
    (try dsimp only [cStrI]); (skip); (skip)
    refine ⟨(iS_ok f1).2.2, ?_⟩
    refine ixt_0 (atI_nat (j := 2) rfl) ?_
    (try dsimp only); (skip); (skip)
    refine ⟨(iS_ok f2).2.2, ?_⟩
    refine ixt_0 (atI_nat (j := 3) rfl) ?_
    (try dsimp only); (skip); (skip)
    refine ⟨(iS_ok f3).2.2, ?_⟩
    have e1 : (Str.ofString " ").length = 1 := by decide +kernel
    have e2 : (Str.ofString "stretch").length = 7 := by decide +kernel
    have n8 := hs.nm.l8
    have x1 : (iSt s.b).length ≤ 61 := (iS_ok f1).1
    have x2 : (iSt s.e).length ≤ 61 := (iS_ok f2).1
    have x3 : (iSt s.w).length ≤ 61 := (iS_ok f3).1
    unfold mJoin
    refine ⟨_, wS s, lkL_lst, (fun ns e => by cases e), rfl, ?_, r⟩
    rw [e1]
    simp only [wS, List.map_cons, List.map_nil, List.sum_cons, List.sum_nil, List.length_cons, List.length_nil, e2]
    omega
  (try dsimp only [List.nil_append]); (skip); (skip)
  have er : bk.map (fun s : Stretch => D.str (glue (wS s))) = (bk.map fun s => glue (wS s)).map D.str := by rw [List.map_map]; rfl
  rw [er]
  refine hW _ _ ?_
  refine seq_gen fun W2 hW2 => ?_
  (try dsimp only [sAsg, eCall, eCons, eVar, List.getElem?_cons_zero, asg, List.set_cons_succ, List.set_cons_zero, eOp, eCB, List.getElem?_cons_succ, eNil, eC]); (skip); (skip)
  refine len_lst ?_
  rw [List.length_map, List.length_map]
  refine add_ii ?_
  refine take_ok hG ok (wd_of (by omega) (by omega)) fun u x y z ok u0 u1 => ?_
  obtain ⟨u, rfl⟩ := nat_of u0
  refine hW2 _ _ ?_
  refine seq_gen fun W3 hW3 => ?_
  (try dsimp only [sAsg, eLst, eCons, eC, eNil, asg, List.set_cons_succ, List.set_cons_zero]); (try simp only [List.length_cons, List.length_nil, Nat.reduceAdd, sizeLine_eq, Nat.reduceLeDiff, true_and]); (skip)
  refine hW3 _ _ ?_
  refine seq_gen fun W4 hW4 => ?_
  (try dsimp only [sAsg, eOp, eVar, List.getElem?_cons_succ, List.getElem?_cons_zero, asg, List.set_cons_succ, List.set_cons_zero, eLst, eCons, eC, eNil]); (try simp only [List.length_cons, List.length_nil, Nat.reduceAdd, sizeLine_eq, Nat.reduceLeDiff, true_and]); (skip)
  refine add_ok (by decide) (hW4 _ _ ?_)
  refine seq_gen fun W5 hW5 => ?_
  (try dsimp only [sAsg, eOp, eVar, List.getElem?_cons_succ, List.getElem?_cons_zero, asg, List.set_cons_succ, List.set_cons_zero, eLst, eCons, eC, oRepS, eNil]); (try simp only [List.length_cons, List.length_nil, Nat.reduceAdd, sizeLine_eq, Nat.reduceLeDiff, true_and]); (skip)
  refine ⟨by decide, by decide, by decide +kernel, by decide +kernel, ?_⟩
  refine add_ss (by decide +kernel) ?_
  (skip); (skip); (skip)
  refine ⟨by decide, by decide, by decide +kernel, by decide +kernel, ?_⟩
  refine add_ss (by decide +kernel) (add_ss (by decide +kernel) ?_)
  (skip); (skip); (skip)
  refine add_ok (by decide) (hW5 _ _ ?_)
  refine seq_gen fun W6 hW6 => ?_
  (try dsimp only [sAsg, eOp, eVar, List.getElem?_cons_succ, List.getElem?_cons_zero, asg, List.set_cons_succ, List.set_cons_zero, eLst, eCons, eC, eNil]); (try simp only [List.length_cons, List.length_nil, Nat.reduceAdd, sizeLine_eq, Nat.reduceLeDiff, true_and]); (skip)
  refine add_ok (by decide) (hW6 _ _ ?_)
  generalize hL : ((_ : List D) ++ _) = L
  have eL : L = (Str.ofString "" :: badL).map D.str := by rw [← hL]; rfl
  subst eL
  clear hL
  refine seq_gen fun W7 hW7 => ?_
  have go : ∀ M : List Str, M ≠ [] → M.length ≤ 20 → (∀ b ∈ M, b ∈ Str.ofString "" :: badL) → ((∀ b ∈ M, 1 ≤ b.length) ∨ bk ≠ []) → W7 [some (.ref a), some (bkD bk), some (.lst ((bk.map fun s => glue (wS s)).map D.str)), some (.int (u : Int)), some (.lst (M.map D.str)), none] (gput G a (stO x y z)) := by
    intro M hM lM sM pM
    refine hW7 _ _ ?_
    (try dsimp only [sRet, eM1, eC, mJoin, eOp, eSlL, eVar, List.getElem?_cons_succ, List.getElem?_cons_zero, eNoPart, ePart, lkL_lst, eLst, eCons, eNil, eCall, eCB]); (try simp only [List.length_cons, List.length_nil, Nat.reduceAdd, sizeLine_eq, Nat.reduceLeDiff, true_and]); (skip)
    refine ⟨trivial, len_lst ?_⟩
    rw [List.length_map]
    have lM0 : 0 < M.length := List.length_pos_iff.mpr hM
    refine take_ok gput_same ok (wd_of (by omega) (by omega)) fun v x y z ok v0 v1 => ?_
    rw [gput_gput]
    obtain ⟨b, eb, hb'⟩ : ∃ b, atI (M.map D.str) v = some (.str b) ∧ b ∈ M := by
      obtain ⟨d, e, h⟩ := at_mem (ds := M.map D.str) v0 (by simpa using v1)
      obtain ⟨b, hb, rfl⟩ := List.mem_map.mp h
      exact ⟨b, e, hb⟩
    refine ix_at (d := .str b) eb ?_
    have bp := badL_ok b (sM b hb')
    generalize hR : (bk.map fun s => glue (wS s)) = Rw at *
    have lw : (Rw.map D.str).length = bk.length := by rw [List.length_map, ← hR, List.length_map]
    have lw2 : Rw.length = bk.length := by rw [← hR, List.length_map]
    rw [cut_take, cut_drop]
    refine add_ok (by rw [List.length_take]; simp; omega) ?_
    refine add_ok (by rw [List.length_append, List.length_take, List.length_drop]; simp; omega) ?_
    (skip); (skip); (skip)
    have el : (Rw.map D.str).take u ++ [.str b] ++ (Rw.map D.str).drop u = (Rw.take u ++ [b] ++ Rw.drop u).map D.str := by
      rw [List.map_append, List.map_append, List.map_take, List.map_drop]; rfl
    rw [el]
    have ok2 : ∀ p ∈ Rw.take u ++ [b] ++ Rw.drop u, PtOk p := fun p hp => by
      rcases List.mem_append.mp hp with q | q
      · rcases List.mem_append.mp q with q | q
        · exact rok p (List.mem_of_mem_take q)
        · simp at q; subst q; exact bp.ok
      · exact rok p (List.mem_of_mem_drop q)
    have h5 : (Rw.take u ++ [b] ++ Rw.drop u).length ≤ 20 := by simp; omega
    have pos : ∃ p ∈ Rw.take u ++ [b] ++ Rw.drop u, 1 ≤ p.length := by
      rcases pM with q | q
      · exact ⟨b, by simp, q b hb'⟩
      · obtain ⟨s, r, e⟩ := List.exists_cons_of_ne_nil q
        have m1 : glue (wS s) ∈ Rw := by rw [← hR, e]; simp
        have l1 := (row_S' (bk := [s]) (fun x hx => by simp at hx; subst hx; exact hb.all x (by rw [e]; simp)) (wS s) (by simp)).pos
        refine ⟨glue (wS s), ?_, l1⟩
        rw [← List.take_append_drop u Rw] at m1
        rcases List.mem_append.mp m1 with m | m
        · exact List.mem_append_left _ (List.mem_append_left _ m)
        · exact List.mem_append_right _ m
    have bt : BadB (Txt.join sc2 (Rw.take u ++ [b] ++ Rw.drop u)) := by
      refine badB_of (pts_ok (by omega) ok2 pos) ?_
      rw [List.map_append, List.map_append, List.append_assoc]
      exact bad_rest (bad_head bp.bad) _
    exact ⟨_, _, rfl, (fun _ e => by cases e), strsD_map _, sumS_lt ok2 (by omega), fin_id (k _ _ _ _ ok bt)⟩
  (try dsimp only [sIf, eAnd, eT, eOp, eVar, List.getElem?_cons_succ, List.getElem?_cons_zero, sAsg, asg, List.set_cons_succ, List.set_cons_zero, sNext, eC, eLst, eNil]); (try simp only [List.length_nil, sizeLine_eq, Nat.reduceLeDiff, Bool.false_eq_true, if_false, true_and]); (skip)
  refine eq_snil (fun x hx => (rok x hx).asc) ?_
  by_cases c : bk = []
  · subst c
    (try dsimp only); (try simp only [List.map_nil, List.isEmpty_nil, if_true]); (skip)
    refine ix_at (d := .str (Str.ofString "")) (atI_nat (j := 0) rfl) ?_
    refine eq_ss (asc_of _) (asc_of _) ?_
    rw [decide_eq_true rfl]
    (try dsimp only [eSlL, eVar, List.getElem?_cons_succ, List.getElem?_cons_zero, eNoPart, ePart, eC, lkL_lst]); (try simp only [if_true]); (skip)
    exact go badL (by decide) (by decide) (fun b hb => List.mem_cons_of_mem _ hb) (.inl badL_pos)
  · have e1 : (bk.map fun s => glue (wS s)).isEmpty = false := by cases bk with
      | nil => exact absurd rfl c
      | cons a l => rfl
    rw [e1]
    (try dsimp only); (try simp only [Bool.false_eq_true, if_false]); (skip)
    exact go (Str.ofString "" :: badL) (by simp) (by decide) (fun b hb => hb) (.inr c)
theorem names_len {ms : List Str} (h : ∀ m ∈ ms, NameOk m) (hl : ms.length < 64) : (ms.map (·.length)).sum + ms.length * (Str.ofString " ").length ≤ 16777216 ∧ (Txt.join (Str.ofString " ") ms).length ≤ 16777216 ∧ (ms ≠ [] → 1 ≤ (Txt.join (Str.ofString " ") ms).length) := by
  have e1 : (Str.ofString " ").length = 1 := by decide +kernel
  have h1 := join_le (Str.ofString " ") ms
  have h2 := sumS_le (B := 8) ms fun y hy => (h y hy).l8
  rw [e1] at h1 ⊢
  refine ⟨by omega, by omega, fun c => ?_⟩
  obtain ⟨b, r, e⟩ := List.exists_cons_of_ne_nil c
  have h1 := (mem_join_len (y := Str.ofString " ") (l := ms) (p := b) (by rw [e]; exact List.mem_cons_self)).1
  rw [← TL.join_eq] at h1
  have := (h b (by rw [e]; exact List.mem_cons_self)).l1
  omega
theorem or_dash {ms : List Str} {G : Gp} {R : DK} (h : ∀ m ∈ ms, NameOk m) (hl : ms.length < 64) (r : R (.str (NamesA ms)) G) : match truD G (.str (Txt.join (Str.ofString " ") ms)) with
    | some k => if k = true then R (.str (Txt.join (Str.ofString " ") ms)) G else R (.str (Str.ofString "-")) G
    | none => False := by
  obtain ⟨_, l0, l1⟩ := names_len h hl
  unfold NamesA at r
  by_cases c : ms = []
  · subst c
    rw [if_pos rfl] at r
    rw [join_nil, tru_str (by decide)]
    exact r
  · rw [if_neg c] at r
    have l1 := l1 c
    rw [tru_str l0, show ((((Txt.join (Str.ofString " ") ms).length : Nat) : Int) != 0) = true from by simp; omega]
    exact r
theorem d__law_doneS (ds : List D) (G : Gp) (Q : DK) (h : F__law_doneS ds G Q) : r__law_doneS (fin G Q) (startD 7 ds) G := by
  obtain ⟨kp, a, ns, nm, bks, x, y, z, rfl, hk, hkl, h64, hns, hbk, nm1, nm2, hnm, hG, ok, k⟩ := h
  have ka : kp ≠ a := fun e => by rw [e, hG] at hk; cases hk
  have hkk : ∀ x y z, gput G a (stO x y z) kp = some (.dct (ns.map Sum.inr) (bks.map bkD)) := fun x y z => by rw [gput_ne ka]; exact hk
  have e5 : (Str.ofString "book ").length = 5 := by decide +kernel
  have e6 : (Str.ofString "shown ").length = 6 := by decide +kernel
  have e5' : (Str.ofString "drop ").length = 5 := by decide +kernel
  have e1 : (Str.ofString " ").length = 1 := by decide +kernel
  refine seq_gen fun W hW => ?_
  (try dsimp only [startD, sAsg, eCall, eCons, eVar, asg, eC, eNil]); (try simp only [List.map_cons, List.map_nil, List.length_cons, List.length_nil, Nat.reduceAdd, List.replicate, List.cons_append, List.nil_append]); (try dsimp only [List.getElem?_cons_succ, List.getElem?_cons_zero, List.set_cons_succ, List.set_cons_zero])
  refine take_ok hG ok (wd_of (by decide) (by decide)) fun v x y z ok v0 v1 => hW _ _ ?_
  refine seq_gen fun W2 hW2 => ?_
  (try dsimp only [sAsg, eOp, eVar, List.getElem?_cons_succ, List.getElem?_cons_zero, asg, List.set_cons_succ, List.set_cons_zero, eCall, eCons, eCB, eNil]); (skip); (skip)
  refine len_lst ?_
  rw [List.length_map]
  refine take_ok gput_same ok (wd_of (by omega) (by omega)) fun u x y z ok u0 u1 => ?_
  rw [gput_gput]
  obtain ⟨n, en, hn⟩ : ∃ n, atI (nm.map D.str) u = some (.str n) ∧ n ∈ nm := by
    obtain ⟨d, e, h⟩ := at_mem (ds := nm.map D.str) u0 (by simpa using u1)
    obtain ⟨b, hb, rfl⟩ := List.mem_map.mp h
    exact ⟨b, e, hb⟩
  have hnn := hnm n hn
  have n8 := hnn.l8
  refine ix_at en (hW2 _ _ ?_)
  refine seq_gen fun W3 hW3 => ?_
  (try dsimp only [oLt, sIf, eT, eOp, eVar, List.getElem?_cons_succ, List.getElem?_cons_zero, sNext, oI0, eC]); (skip); (skip)
  by_cases c3 : v < 3
  · rw [decide_eq_true c3]
    (skip); (try simp only [if_true]); (skip)
    refine seq_gen fun W4 hW4 => ?_
    (try dsimp only [sAsg, eCall, eCons, eVar, List.getElem?_cons_succ, List.getElem?_cons_zero, asg, List.set_cons_succ, List.set_cons_zero, eC, eNil]); (skip); (skip)
    refine ⟨a, 4, x, y, z, rfl, gput_same, ok, by omega, by omega, fun bk x y z ok hb hlen => hW4 _ _ ?_⟩
    rw [gput_gput]
    have lrow := rowT_len (row_S' hb.all)
    rw [List.length_map] at lrow
    (try dsimp only [sRet, eTup, eCons, eOp, eC, eVar, List.getElem?_cons_succ, List.getElem?_cons_zero, eNil, eCall]); (try simp only [List.length_cons, List.length_nil, Nat.reduceAdd, sizeLine_eq, Nat.reduceLeDiff, true_and]); (skip)
    refine add_ss (by omega) (add_ss (by rw [len_app]; omega) ?_)
    refine ⟨bk, rfl, hb.all, by omega, ?_⟩
    refine add_ss (by rw [len_app, len_app]; omega) ?_
    have q := k _ _ _ _ _ _ _ ok (DoneIs.book (ns := ns) (bks := bks) n bk hn hb)
    have e : Str.ofString "book " ++ n ++ Str.ofString " " ++ rowT (bk.map wS) = Str.ofString "book " ++ (n ++ bl ++ rowT (bk.map wS)) := by simp only [app_assoc]
    rw [e]
    exact fin_id q
  rw [decide_eq_false c3]
  (skip); (try simp only [Bool.false_eq_true, if_false]); (skip)
  refine hW3 _ _ ?_
  refine seq_gen fun W4 hW4 => ?_
  (try dsimp only [sIf, eT, eOp, eVar, List.getElem?_cons_succ, List.getElem?_cons_zero, sNext, eC]); (skip); (skip)
  refine eq_ii ?_
  by_cases c : v = 3
  · rw [decide_eq_true c]
    (try dsimp only); (try simp only [if_true]); (skip)
    refine seq_gen fun W5 hW5 => ?_
    (try dsimp only [sAsg, eOp, eC, eVar, List.getElem?_cons_succ, List.getElem?_cons_zero, asg, List.set_cons_succ, List.set_cons_zero, eCall, eCons, eNil]); (skip); (skip)
    refine add_ss (by omega) (add_ss (by rw [len_app]; omega) ?_)
    refine ⟨a, 3, x, y, z, rfl, gput_same, ok, by omega, by omega, fun bk x y z ok hb hlen => ?_⟩
    rw [gput_gput]
    refine ⟨a, x, y, z, bk, rfl, gput_same, ok, hb, by omega, fun t x y z ok bt => ?_⟩
    rw [gput_gput]
    have lt := bt.len
    refine add_ss (by rw [len_app, len_app]; omega) (hW5 _ _ ?_)
    (try dsimp only [sRet, eTup, eCons, eVar, List.getElem?_cons_succ, List.getElem?_cons_zero, eLst, eC, eNil]); (try simp only [List.length_cons, List.length_nil, Nat.reduceAdd, sizeLine_eq, Nat.reduceLeDiff, true_and]); (skip)
    have q := k _ _ _ _ _ _ _ ok (DoneIs.bad (ns := ns) (bks := bks) n t hn bt)
    have e : Str.ofString "book " ++ n ++ Str.ofString " " ++ t = Str.ofString "book " ++ (n ++ bl ++ t) := by simp only [app_assoc]
    rw [e]
    exact fin_id q
  rw [decide_eq_false c]
  (try dsimp only); (try simp only [Bool.false_eq_true, if_false]); (skip)
  refine hW4 _ _ ?_
  refine seq_gen fun W5 hW5 => ?_
  (try dsimp only [sIf, eT, eOp, eVar, List.getElem?_cons_succ, List.getElem?_cons_zero, sRet, eTup, eCons, eC, eOrT, eNil, sNext]); (try simp only [List.length_cons, List.length_nil, Nat.reduceAdd, sizeLine_eq, Nat.reduceLeDiff, true_and]); (skip)
  refine eq_ii ?_
  by_cases c4 : v = 4
  · rw [decide_eq_true c4]
    (try dsimp only [eM1, eC, eCB, eCons, eVar, List.getElem?_cons_zero, eNil]); (try simp only [if_true]); (skip)
    refine ⟨trivial, ?_⟩
    (try dsimp only [cSortedDS, lkD]); (try simp only [hkk, Option.bind_some, strKs_map]); (skip)
    refine ⟨h64, fun ms pm up => ?_⟩
    have hms : ∀ m ∈ ms, NameOk m := fun m hm => hns m (pm.mem_iff.mp hm)
    have lms := pm.length_eq
    unfold mJoin
    refine ⟨_, _, rfl, (fun _ e => by cases e), strsD_map _, (names_len hms (by omega)).1, ?_⟩
    exact or_dash (R := fun d G1 => (fin G Q).rt (.tup [.str (Str.ofString "names"), d, .non, .non]) G1) hms (by omega) (fin_id (k _ _ _ _ _ _ _ ok (DoneIs.names ms pm up)))
  rw [decide_eq_false c4]
  (try dsimp only); (try simp only [Bool.false_eq_true, if_false]); (skip)
  refine hW5 _ _ ?_
  refine seq_gen fun W6 hW6 => ?_
  (try dsimp only [oMod, sIf, eT, eOp, eVar, List.getElem?_cons_succ, List.getElem?_cons_zero, sRet, eTup, eCons, eLst, eC, eNil, oI, sNext, oDNotIn, lkD, keyD]); (try simp only [hkk, bkAt_v, List.length_cons, List.length_nil, Nat.reduceAdd, sizeLine_eq, Nat.reduceLeDiff, true_and]); (skip)
  cases e : bkAt ns bks n with
  | none =>
    have nn : n ∉ ns := (bkAt_none hkl).mp e
    (try dsimp only [Option.map_none, Option.isSome_none]); (try simp only [Bool.not_false, if_true]); (skip)
    have qs := k _ _ _ _ _ _ _ ok (DoneIs.unkS (ns := ns) (bks := bks) n hn nn)
    have qd := k _ _ _ _ _ _ _ ok (DoneIs.unkD (ns := ns) (bks := bks) n hn nn)
    rw [← gl2s (w := Str.ofString "shown ") (x := n) (u := Str.ofString "shown") (by decide +kernel)] at qs
    rw [← gl2s (w := Str.ofString "drop ") (x := n) (u := Str.ofString "drop") (by decide +kernel)] at qd
    have hv : v = 5 ∨ v = 6 ∨ v = 7 := by omega
    rcases hv with rfl | rfl | rfl
    · refine ⟨by decide, ix_at (d := .str (Str.ofString "drop ")) rfl (add_ss (by omega) (fin_id qd))⟩
    · refine ⟨by decide, ix_at (d := .str (Str.ofString "shown ")) rfl (add_ss (by omega) (fin_id qs))⟩
    · refine ⟨by decide, ix_at (d := .str (Str.ofString "drop ")) rfl (add_ss (by omega) (fin_id qd))⟩
  | some bk =>
    have nn : n ∈ ns := (bkAt_mem e).1
    have hb : BOk bk := hbk bk (bkAt_mem e).2
    (try dsimp only [Option.map_some, Option.isSome_some]); (try simp only [Bool.not_true, Bool.false_eq_true, if_false]); (skip)
    refine hW6 _ _ ?_
    refine seq_gen fun W7 hW7 => ?_
    (try dsimp only [sIf, eT, eOp, eVar, List.getElem?_cons_succ, List.getElem?_cons_zero, sRet, eTup, eCons, eC, eNil, sNext]); (try simp only [List.length_cons, List.length_nil, Nat.reduceAdd, sizeLine_eq, Nat.reduceLeDiff, true_and]); (skip)
    refine eq_ii ?_
    by_cases c5 : v = 5
    · rw [decide_eq_true c5]
      (try dsimp only); (try simp only [if_true]); (skip)
      refine add_ss (by omega) ?_
      have q := k _ _ _ _ _ _ _ ok (DoneIs.drop (ns := ns) (bks := bks) n hn nn)
      rw [gl2s (u := Str.ofString "drop") (by decide +kernel)]
      exact fin_id q
    rw [decide_eq_false c5]
    (try dsimp only); (try simp only [Bool.false_eq_true, if_false]); (skip)
    refine hW7 _ _ ?_
    (try dsimp only [sRet, eTup, eCons, eOp, eC, eVar, List.getElem?_cons_succ, List.getElem?_cons_zero, eCall, eNil]); (try simp only [List.length_cons, List.length_nil, Nat.reduceAdd, sizeLine_eq, Nat.reduceLeDiff, true_and]); (skip)
    refine add_ss (by omega) ?_
    (try dsimp only [oDGet, lkD, keyD]); (try simp only [hkk, bkAt_v, e, Option.map_some]); (skip)
    have lrow := rowT_len (row_S' hb.all)
    refine ⟨bk, rfl, hb.all, by have := hb.len; omega, ?_⟩
    have q := k _ _ _ _ _ _ _ ok (DoneIs.shown (ns := ns) (bks := bks) n bk hn e)
    rw [gl2s (u := Str.ofString "shown") (by decide +kernel)]
    exact fin_id q
section
variable {G : Gp} {a p dx : Addr} {ns : List Str} {bks : List (List Stretch)} {n z t : Str} {Q : DK} {U : Ux} {bk : List Stretch}
theorem book_len (hn : NameOk n) (ht : t.length ≤ 100000) : (Str.ofString "book " ++ (n ++ bl ++ t)).length ≤ 1000000 := by
  have l3 := hn.l8
  have e5 : (Str.ofString "book ").length = 5 := by decide +kernel
  have e1 : bl.length = 1 := by decide +kernel
  rw [len_app, len_app, len_app, e5, e1]
  omega
theorem sayS_book (da : DkAt G a p dx ns bks) (h40 : ns.length ≤ 40) (hn : NameOk n) (ok : BOk bk) (hr : n ∈ ns ∨ ns.length < 40) (k : Q (.str "ok") (dput G p (putN ns n) (putBk ns bks n bk))) : F_Desk_sayS [.ref a, .str (Str.ofString "book " ++ (n ++ bl ++ rowT (bk.map wS)))] G Q U := by
  have hrs := row_S' ok.all
  have l1 := rowT_len hrs
  have l2 := ok.len
  rw [List.length_map] at l1
  have er : Txt.replace (rowT (bk.map wS)) sc2 lf = textOf (bk.map wS) := semi_lf fun r hr => by
    obtain ⟨s, hs, rfl⟩ := List.mem_map.mp hr
    exact semi_S (ok.all s hs)
  obtain ⟨tk, rb⟩ := book_back ok
  refine ⟨a, p, dx, ns, bks, _, rfl, da, h40, book_len hn (by omega), asc_app (asc_of _) (asc_app (asc_app (asc_name hn) (asc_of _)) (rowT_asc hrs)), free_app (by decide +kernel) (free_app (free_app (free_name hn (by decide)) (by decide +kernel)) (rowT_lf hrs)), .inl ⟨n, _, rfl, hn, by rw [er]; exact tk, (fun j e => by rw [er, rb] at e; cases e), fun b e => ?_⟩⟩
  rw [er, rb] at e
  cases e
  exact ⟨fun c => by rcases hr with h | h; exact absurd h c.1; omega, fun _ => k⟩
theorem sayS_many (da : DkAt G a p dx ns bks) (h40 : ns.length = 40) (hn : NameOk n) (ok : BOk bk) (hr : n ∉ ns) (k : U ⟨"TooMany", none⟩ G) : F_Desk_sayS [.ref a, .str (Str.ofString "book " ++ (n ++ bl ++ rowT (bk.map wS)))] G Q U := by
  have hrs := row_S' ok.all
  have l1 := rowT_len hrs
  have l2 := ok.len
  rw [List.length_map] at l1
  have er : Txt.replace (rowT (bk.map wS)) sc2 lf = textOf (bk.map wS) := semi_lf fun r hr => by
    obtain ⟨s, hs, rfl⟩ := List.mem_map.mp hr
    exact semi_S (ok.all s hs)
  obtain ⟨tk, rb⟩ := book_back ok
  refine ⟨a, p, dx, ns, bks, _, rfl, da, by omega, book_len hn (by omega), asc_app (asc_of _) (asc_app (asc_app (asc_name hn) (asc_of _)) (rowT_asc hrs)), free_app (by decide +kernel) (free_app (free_app (free_name hn (by decide)) (by decide +kernel)) (rowT_lf hrs)), .inl ⟨n, _, rfl, hn, by rw [er]; exact tk, (fun j e => by rw [er, rb] at e; cases e), fun b e => ?_⟩⟩
  exact ⟨fun _ => k, fun c => absurd ⟨hr, h40⟩ c⟩
theorem sayS_bad (da : DkAt G a p dx ns bks) (h40 : ns.length ≤ 40) (hn : NameOk n) (bt : BadB t) (k : ∀ j : Nat, U ⟨"NoText", some ("row", .int (j : Int))⟩ G) : F_Desk_sayS [.ref a, .str (Str.ofString "book " ++ (n ++ bl ++ t))] G Q U := by
  obtain ⟨j, e⟩ := bt.bad
  exact ⟨a, p, dx, ns, bks, _, rfl, da, h40, book_len hn bt.len, asc_app (asc_of _) (asc_app (asc_app (asc_name hn) (asc_of _)) bt.asc), free_app (by decide +kernel) (free_app (free_app (free_name hn (by decide)) (by decide +kernel)) bt.nolf), .inl ⟨n, t, rfl, hn, bt.ok, (fun j _ => k j), fun b e2 => by rw [e] at e2; cases e2⟩⟩
theorem sayS_names (da : DkAt G a p dx ns bks) (h40 : ns.length ≤ 40) (hn : ∀ n ∈ ns, NameOk n) (k : ∀ ms : List Str, ms.Perm ns → sortedS ms = true → Q (.str (NamesA ms)) G) : F_Desk_sayS [.ref a, .str (Str.ofString "names")] G Q U :=
  ⟨a, p, dx, ns, bks, _, rfl, da, h40, by decide +kernel, asc_of _, by decide +kernel, .inr (.inl ⟨rfl, hn, k⟩)⟩
theorem two_ok (hn : NameOk n) : RowOk [Str.ofString "shown", n] := by
  obtain ⟨w, r, hws, hrow, _⟩ := ask_row (q := .shown) hn trivial
  exact hrow
theorem sayS_shown (da : DkAt G a p dx ns bks) (h40 : ns.length ≤ 40) (hn : NameOk n) (k1 : bkAt ns bks n = none → U ⟨"Unknown", none⟩ G) (k2 : ∀ bk, bkAt ns bks n = some bk → BOk bk ∧ Q (.str (rowT (bk.map wS))) G) : F_Desk_sayS [.ref a, .str (glue [Str.ofString "shown", n])] G Q U :=
  have hrow := two_ok hn
  ⟨a, p, dx, ns, bks, _, rfl, da, h40, by have := hrow.le; omega, glue_asc hrow, glue_lf hrow, .inr (.inr (.inl ⟨n, rfl, hn, k1, k2⟩))⟩
theorem sayS_drop (da : DkAt G a p dx ns bks) (h40 : ns.length ≤ 40) (hn : NameOk n) (k1 : bkAt ns bks n = none → U ⟨"Unknown", none⟩ G) (k2 : ∀ bk, bkAt ns bks n = some bk → Q (.str "ok") (dput G p (delN ns n) (delB ns bks n))) : F_Desk_sayS [.ref a, .str (glue [Str.ofString "drop", n])] G Q U :=
  have hrow := (drop_row hn).1
  ⟨a, p, dx, ns, bks, _, rfl, da, h40, by have := hrow.le; omega, glue_asc hrow, glue_lf hrow, .inr (.inr (.inr ⟨n, rfl, hn, k1, k2⟩))⟩
end
structure KI (d1 p1 x1 d2 p2 x2 kp a : Addr) (nm ns : List Str) (bks : List (List Stretch)) (x y z : Int) (G : Gp) : Prop where
  k1 : DkAt G d1 p1 x1 ns bks
  k2 : DkAt G d2 p2 x2 [] []
  kk : G kp = some (.dct (ns.map Sum.inr) (bks.map bkD))
  st : G a = some (stO x y z)
  ok : Ok3 x y z
  n1 : p2 ≠ p1
  n2 : kp ≠ p1
  n3 : p2 ≠ kp
  nd : ns.Nodup
  sub : ∀ n ∈ ns, n ∈ nm
  bok : ∀ b ∈ bks, BOk b
section
variable {d1 p1 x1 d2 p2 x2 kp a : Addr} {nm ns ns' : List Str} {bks bks' : List (List Stretch)} {x y z : Int} {G : Gp}
theorem KI.new (h : KI d1 p1 x1 d2 p2 x2 kp a nm ns bks x y z G) {q : Addr} {o : GO} (hq : G q = none) : KI d1 p1 x1 d2 p2 x2 kp a nm ns bks x y z (gput G q o) :=
  ⟨⟨keepN hq h.k1.ob, keepN hq h.k1.kp, h.k1.len⟩, ⟨keepN hq h.k2.ob, keepN hq h.k2.kp, h.k2.len⟩, keepN hq h.kk, keepN hq h.st, h.ok, h.n1, h.n2, h.n3, h.nd, h.sub, h.bok⟩
theorem KI.put (h : KI d1 p1 x1 d2 p2 x2 kp a nm ns bks x y z G) (hl : ns'.length = bks'.length) (nd : ns'.Nodup) (sub : ∀ n ∈ ns', n ∈ nm) (bok : ∀ b ∈ bks', BOk b) : KI d1 p1 x1 d2 p2 x2 kp a nm ns' bks' x y z (gput (dput G p1 ns' bks') kp (.dct (ns'.map Sum.inr) (bks'.map bkD))) := by
  have dk1 : d1 ≠ kp := fun e => by have := h.k1.ob; rw [e, h.kk] at this; cases this
  have dp2 : d2 ≠ p1 := fun e => by have := h.k2.ob; rw [e, h.k1.kp] at this; cases this
  have dk2 : d2 ≠ kp := fun e => by have := h.k2.ob; rw [e, h.kk] at this; cases this
  have ap : a ≠ p1 := fun e => by have := h.st; rw [e, h.k1.kp] at this; cases this
  have ak : a ≠ kp := fun e => by have := h.st; rw [e, h.kk] at this; cases this
  have da := dput_at (ns' := ns') (bks' := bks') h.k1 hl
  refine ⟨⟨by rw [gput_ne dk1]; exact da.ob, by rw [gput_ne h.n2.symm]; exact da.kp, hl⟩, ⟨?_, ?_, rfl⟩, gput_same, ?_, h.ok, h.n1, h.n2, h.n3, nd, sub, bok⟩
  · rw [gput_ne dk2]; unfold dput; rw [gput_ne dp2]; exact h.k2.ob
  · rw [gput_ne h.n3]; unfold dput; rw [gput_ne h.n1]; exact h.k2.kp
  · rw [gput_ne ak]; unfold dput; rw [gput_ne ap]; exact h.st
end
def nmK (k : Nat) : Str := repS ⟨#[97 + k % 26]⟩ (1 + k / 26)
def someL : List Str := (List.range 40).map nmK
def bkK (k : Nat) : List Stretch := [⟨"a", 1, 2 + (k : Int), k⟩]
def moK (u : Nat) : Str := repS ⟨#[111 + u]⟩ 2
theorem nmK_ok {k : Nat} (h : k < 40) : NameOk (nmK k) := by
  have key : ∀ k, k < 40 → 1 ≤ (nmK k).length ∧ (nmK k).length ≤ 8 ∧ ∀ c ∈ (nmK k).cps.toList, 97 ≤ c ∧ c ≤ 122 := by decide +kernel
  exact ⟨(key k h).1, (key k h).2.1, (key k h).2.2⟩
theorem moK_ok {u : Nat} (h : u < 12) : NameOk (moK u) := by
  have key : ∀ k, k < 12 → 1 ≤ (moK k).length ∧ (moK k).length ≤ 8 ∧ ∀ c ∈ (moK k).cps.toList, 97 ≤ c ∧ c ≤ 122 := by decide +kernel
  exact ⟨(key u h).1, (key u h).2.1, (key u h).2.2⟩
theorem moK_cut {u : Nat} (h : u < 12) : Txt.slice (moK u ++ Str.ofString " ") none (some 2) = moK u ∧ moK u ∉ someL := by
  have key : ∀ u, u < 12 → Txt.slice (moK u ++ Str.ofString " ") none (some 2) = moK u ∧ moK u ∉ someL := by decide +kernel
  exact key u h
theorem someL_len : someL.length = 40 := by decide +kernel
theorem bkK_ok {k : Nat} (h : k < 40) : BOk (bkK k) := by
  refine ⟨by simp [bkK], fun s hs => ?_, by simp [bkK]⟩
  simp [bkK] at hs
  subst hs
  have hn : NameOk (Str.ofString "a") := ⟨by decide +kernel, by decide +kernel, by decide +kernel⟩
  exact ⟨hn, by show (-1000000000000 : Int) ≤ 1; omega, by show (1 : Int) < 2 + k; omega, by show 2 + (k : Int) ≤ _; omega, by show (0 : Int) ≤ k; omega, by show (k : Int) ≤ _; omega⟩
theorem nil_ok : BOk [] := ⟨by simp, (fun s h => by cases h), by simp⟩
theorem lt_ix {i : Int} {G : Gp} {Q : DK} (h0 : 0 ≤ i) (h1 : i < 26) (q : Q (.str ⟨#[97 + i.toNat]⟩) G) : oIx (.str (Str.ofString "abcdefghijklmnopqrstuvwxyz")) (.int i) G Q := by
  have e : Str.ofString "abcdefghijklmnopqrstuvwxyz" = Lt := rfl
  rw [e]
  simp only [oIx, lt_at h0 h1]
  exact ⟨by decide +kernel, q⟩
theorem take_not {j : Nat} (h : j < 40) : nmK j ∉ someL.take j := by
  have key : ∀ j, j < 40 → nmK j ∉ someL.take j := by decide +kernel
  exact key j h
theorem take_one {j : Nat} (h : j < 40) : someL.take (j + 1) = someL.take j ++ [nmK j] := by
  have key : ∀ j, j < 40 → someL.take (j + 1) = someL.take j ++ [nmK j] := by decide +kernel
  exact key j h
theorem names_asc {ms : List Str} (h : ∀ m ∈ ms, NameOk m) : Asc (NamesA ms) := by
  unfold NamesA
  split
  · exact asc_of _
  · exact asc_joinT (asc_of _) fun y hy => asc_name (h y hy)
theorem d_law (ds : List D) (G : Gp) (Q : DK) (h : lawT 63 [] ds G Q) : r_law (fin G Q) (startD 14 ds) G := by
  obtain ⟨sc, rfl, hl, _, k⟩ := h
  refine seq_gen fun W hW => ?_
  (try dsimp only [startD, sAsg, eMake, eNil, asg]); (try simp only [List.map_cons, List.map_nil, List.length_cons, List.length_nil, Nat.reduceAdd, List.replicate, List.cons_append, List.nil_append]); (try dsimp only [List.set_cons_succ, List.set_cons_zero])
  intro d1 x1 hd1
  refine ⟨d1, x1, rfl, gput_same, fun p1 hp1 => ⟨rfl, hW _ _ ?_⟩⟩
  have pd1 : p1 ≠ d1 := fun e => by rw [e, gput_same] at hp1; cases hp1
  have da1 : DkAt (gput (gput (gput G d1 (GO.ins "Desk" x1 [] [])) p1 (GO.dct [] [])) d1 (GO.ins "Desk" x1 ["kept"] [D.ref p1])) d1 p1 x1 [] [] := ⟨gput_same, by rw [gput_ne pd1, gput_same]; rfl, rfl⟩
  generalize gput (gput (gput G d1 (GO.ins "Desk" x1 [] [])) p1 (GO.dct [] [])) d1 (GO.ins "Desk" x1 ["kept"] [D.ref p1]) = G1 at da1
  refine seq_gen fun W2 hW2 => ?_
  (try dsimp only [sAsg, eMake, eNil, asg, List.set_cons_succ, List.set_cons_zero]); (skip); (skip)
  intro d2 x2 hd2
  refine ⟨d2, x2, rfl, gput_same, fun p2 hp2 => ⟨rfl, hW2 _ _ ?_⟩⟩
  have pd2 : p2 ≠ d2 := fun e => by rw [e, gput_same] at hp2; cases hp2
  have hp2' : G1 p2 = none := by rw [gput_ne pd2] at hp2; exact hp2
  have da2 : DkAt (gput (gput (gput G1 d2 (GO.ins "Desk" x2 [] [])) p2 (GO.dct [] [])) d2 (GO.ins "Desk" x2 ["kept"] [D.ref p2])) d2 p2 x2 [] [] := ⟨gput_same, by rw [gput_ne pd2, gput_same]; rfl, rfl⟩
  have w1 : ∀ {b : Addr} {o : GO}, G1 b = some o → (gput (gput (gput G1 d2 (GO.ins "Desk" x2 [] [])) p2 (GO.dct [] [])) d2 (GO.ins "Desk" x2 ["kept"] [D.ref p2])) b = some o := fun {b o} h => by
    rw [gput_ne (fun e => by rw [e, hd2] at h; cases h), gput_ne (fun e => by rw [e, hp2'] at h; cases h), gput_ne (fun e => by rw [e, hd2] at h; cases h)]; exact h
  have da1' := (⟨w1 da1.ob, w1 da1.kp, rfl⟩ : DkAt _ d1 p1 x1 [] [])
  have n1 : p2 ≠ p1 := fun e => by rw [e, da1.kp] at hp2'; cases hp2'
  generalize gput (gput (gput G1 d2 (GO.ins "Desk" x2 [] [])) p2 (GO.dct [] [])) d2 (GO.ins "Desk" x2 ["kept"] [D.ref p2]) = G2 at da2 da1'
  clear w1 hp2' hp2 hd2 da1
  refine seq_gen fun W3 hW3 => ?_
  (try dsimp only [sAsg, eDnewO, asg, List.set_cons_succ, List.set_cons_zero]); (skip); (skip)
  intro kp hkp
  refine hW3 _ _ ?_
  have n2 : kp ≠ p1 := fun e => by rw [e, da1'.kp] at hkp; cases hkp
  have n3 : p2 ≠ kp := fun e => by rw [← e, da2.kp] at hkp; cases hkp
  refine seq_gen fun W4 hW4 => ?_
  (try dsimp only [sAsg, eCall, eCons, eVar, List.getElem?_cons_zero, asg, List.set_cons_succ, List.set_cons_zero, eC, eNil]); (skip); (skip)
  refine ⟨sc, 0, rfl, by omega, by omega, fun a x y z ha ok => hW4 _ _ ?_⟩
  have ki : KI d1 p1 x1 d2 p2 x2 kp a [] [] [] x y z (gput (gput G2 kp (GO.dct [] [])) a (stO x y z)) :=
    ⟨⟨keepN ha (keepN hkp da1'.ob), keepN ha (keepN hkp da1'.kp), rfl⟩, ⟨keepN ha (keepN hkp da2.ob), keepN ha (keepN hkp da2.kp), rfl⟩, keepN ha gput_same, gput_same, ok, n1, n2, n3, .nil, (fun _ h => by cases h), (fun _ h => by cases h)⟩
  generalize gput (gput G2 kp (GO.dct [] [])) a (stO x y z) = G3 at ki
  clear ha hkp da1' da2
  refine seq_gen fun W5 hW5 => ?_
  (try dsimp only [sAsg, eLc, iR1, eCons, eC, eNil, wipeD, List.set_cons_succ, List.set_cons_zero, asg]); (skip); (skip)
  refine ⟨by decide, by decide, ?_⟩
  refine compW_rng (n := 6) (fun j acc G' => ∃ (nm : List Str) (x y z : Int), acc = nm.map D.str ∧ nm.length = j ∧ (∀ n ∈ nm, NameOk n) ∧ KI d1 p1 x1 d2 p2 x2 kp a [] [] [] x y z G') (fun j acc G' W0 hj hI hW0 => ?_) (fun acc G' hI => ?_) ⟨[], x, y, z, rfl, rfl, (fun _ h => by cases h), ki⟩
  · obtain ⟨nm, x, y, z, rfl, lnm, hnm, ki⟩ := hI
    (try dsimp only [asg, List.set_cons_succ, List.set_cons_zero, eCall, eCons, eVar, eNil, eYes, List.getElem?_cons_succ, List.getElem?_cons_zero]); (try simp only [if_true]); (skip)
    refine ⟨a, j, x, y, z, rfl, ki.st, ki.ok, by omega, by omega, fun n x y z ok hn _ => ?_⟩
    refine hW0 _ _ ⟨nm ++ [n], x, y, z, by simp, by simp [lnm], fun m hm => ?_, ?_⟩
    · rcases List.mem_append.mp hm with h | h
      · exact hnm m h
      · simp at h; subst h; exact hn
    · exact ⟨dk_st ki.k1 ki.st, dk_st ki.k2 ki.st, by rw [gput_ne (fun e => by have := ki.kk; rw [e, ki.st] at this; cases this)]; exact ki.kk, gput_same, ok, n1, n2, n3, .nil, ki.sub, ki.bok⟩
  obtain ⟨nm, x, y, z, rfl, lnm, hnm, ki⟩ := hI
  refine hW5 _ _ ?_
  have ki : KI d1 p1 x1 d2 p2 x2 kp a nm [] [] x y z G' := ⟨ki.k1, ki.k2, ki.kk, ki.st, ki.ok, ki.n1, ki.n2, ki.n3, .nil, (fun _ h => by cases h), ki.bok⟩
  refine seq_gen fun W6 hW6 => ?_
  (try dsimp only [sFor, iR2, eCons, eC, eOp, eCB, eVar, List.getElem?_cons_zero, eNil]); (skip); (skip)
  refine len_scr ?_
  (try dsimp only [cMin2]); (skip); (skip)
  refine ⟨⟨by omega, by omega, by split <;> omega, by split <;> omega, by split <;> omega⟩, ?_⟩
  refine rng_loop (fun s G => ∃ ns bks x y z o6 o7 o8 o9 o10, KI d1 p1 x1 d2 p2 x2 kp a nm ns bks x y z G ∧ s = [some (.scr sc), some (.ref d1), some (.ref d2), some (.ref kp), some (.ref a), some (.lst (nm.map D.str)), o6, o7, o8, o9, o10, none, none, none]) ?_ ⟨_, _, _, _, _, _, _, _, _, _, ki, rfl⟩ ?_
  · clear ki k
    intro i h0 h1 s G V hI hV
    obtain ⟨ns, bks, x, y, z, o6, o7, o8, o9, o10, ki, rfl⟩ := hI
    have h1 : i < 52 := by revert h1; split <;> omega
    have nl : ns.length ≤ 6 := by have := nd_len ki.nd ki.sub; omega
    have nn : ∀ n ∈ ns, NameOk n := fun n hn => hnm n (ki.sub n hn)
    (try dsimp only [asg, List.set_cons_succ, List.set_cons_zero]); (skip); (skip)
    unfold r_law_L1
    refine seq_gen fun W7 hW7 => ?_
    (try dsimp only [sAsg, eCall, eCons, eVar, List.getElem?_cons_succ, List.getElem?_cons_zero, asg, eNil]); (skip); (skip)
    refine ⟨sc, i, rfl, by omega, by omega, fun q x' y' z' hq ok' => ?_⟩
    have kA := ki.new (o := stO x' y' z') hq
    have hq0 : gput G q (stO x' y' z') q = some (stO x' y' z') := gput_same
    refine ⟨kp, q, ns, nm, bks, x', y', z', rfl, kA.kk, ki.k1.len, by omega, nn, ki.bok, by omega, by omega, hnm, hq0, ok', fun r e1 e2 e3 x'' y'' z'' ok'' hd => ?_⟩
    rw [gput_gput]
    have ki : KI d1 p1 x1 d2 p2 x2 kp a nm ns bks x y z (gput G q (stO x'' y'' z'')) := ki.new hq
    generalize gput G q (stO x'' y'' z'') = G' at ki
    (try dsimp only [setAll, List.set_cons_succ, List.set_cons_zero]); (skip); (skip)
    refine hW7 _ _ ?_
    refine seq_gen fun W8 hW8 => ?_
    (try dsimp only [sIf, eT, eOp, eCall, eCons, eVar, List.getElem?_cons_succ, List.getElem?_cons_zero, sRet, eC, sNext, eNil]); (skip); (skip)
    cases hd with
    | book n bk hn hb =>
      have nnn := hnm n hn
      refine ⟨d1, p1, x1, ns, bks, _, rfl, ki.k1, sayS_book ki.k1 (by omega) nnn hb (.inr (by omega)) ⟨⟨_, rfl⟩, good_dput ki.k1, ?_⟩⟩
      refine ne_tt (asc_of _) (asc_of _) rfl ?_
      (try dsimp only); (try simp only [Bool.false_eq_true, if_false]); (skip)
      refine hW8 _ _ ?_
      have hkl : (putN ns n).length = (putBk ns bks n bk).length := put_len ki.k1.len
      have kp' := ki.put (ns' := putN ns n) (bks' := putBk ns bks n bk) hkl (putN_nd ki.nd) (fun m hm => (putN_mem.mp hm).elim (fun e => by rw [e]; exact hn) (ki.sub m)) (fun b h => (putBk_mem h).elim (fun e => by rw [e]; exact hb) (ki.bok b))
      (try dsimp only [sIf, eAnd, eT, eOp, eVar, List.getElem?_cons_succ, List.getElem?_cons_zero, sDrop, sPutD, keyD, sNext, oNotN, eC, oIsN]); (try simp only [Bool.false_eq_true, sizeLine_eq, if_true, if_false]); (skip)
      have hkk : dput G' p1 (putN ns n) (putBk ns bks n bk) kp = some (.dct (ns.map Sum.inr) (bks.map bkD)) := by unfold dput; rw [gput_ne ki.n2]; exact ki.kk
      rw [hkk]
      simp only
      rw [putK_n, putV_n]
      exact ⟨by rw [List.length_map]; omega, hV _ _ ⟨_, _, x, y, z, _, _, _, _, _, kp', rfl⟩⟩
    | bad n t hn bt =>
      refine ⟨d1, p1, x1, ns, bks, _, rfl, ki.k1, sayS_bad ki.k1 (by omega) (hnm n hn) bt fun j => ⟨rfl, .inr (.inr (.inr (.inl rfl))), ?_⟩⟩
      refine ne_said (bang_ok (.inr (.inr (.inr (.inl rfl))))).1 bang_nt ?_
      (try dsimp only); (try simp only [Bool.false_eq_true, if_false]); (skip)
      refine hW8 _ _ ?_
      (try dsimp only [sIf, eAnd, eT, eOp, eVar, List.getElem?_cons_succ, List.getElem?_cons_zero, sDrop, sNext, oNotN, eC, oIsN]); (try simp only [Bool.false_eq_true, if_false, if_true]); (skip)
      exact hV _ _ ⟨ns, bks, x, y, z, _, _, _, _, _, ki, rfl⟩
    | names ms pm up =>
      refine ⟨d1, p1, x1, ns, bks, _, rfl, ki.k1, sayS_names ki.k1 (by omega) nn fun ms' pm' up' => ⟨⟨_, rfl⟩, good_id, ?_⟩⟩
      have e := sorted_uniq pm' pm up' up
      subst e
      have an := names_asc fun m hm => nn m (pm.mem_iff.mp hm)
      refine ne_tt an an rfl ?_
      (try dsimp only); (try simp only [Bool.false_eq_true, if_false]); (skip)
      refine hW8 _ _ ?_
      (try dsimp only [sIf, eAnd, eT, eOp, eVar, List.getElem?_cons_succ, List.getElem?_cons_zero, sDrop, sNext, oNotN, eC, oIsN]); (try simp only [Bool.false_eq_true, if_false, if_true]); (skip)
      exact hV _ _ ⟨ns, bks, x, y, z, _, _, _, _, _, ki, rfl⟩
    | unkS n hn un =>
      refine ⟨d1, p1, x1, ns, bks, _, rfl, ki.k1, sayS_shown ki.k1 (by omega) (hnm n hn) (fun _ => ⟨rfl, .inr (.inl rfl), ?_⟩) fun bk e => absurd (bkAt_mem e).1 un⟩
      refine ne_said (bang_ok (.inr (.inl rfl))).1 bang_un ?_
      (try dsimp only); (try simp only [Bool.false_eq_true, if_false]); (skip)
      refine hW8 _ _ ?_
      (try dsimp only [sIf, eAnd, eT, eOp, eVar, List.getElem?_cons_succ, List.getElem?_cons_zero, sDrop, sNext, oNotN, eC, oIsN]); (try simp only [Bool.false_eq_true, if_false, if_true]); (skip)
      exact hV _ _ ⟨ns, bks, x, y, z, _, _, _, _, _, ki, rfl⟩
    | unkD n hn un =>
      refine ⟨d1, p1, x1, ns, bks, _, rfl, ki.k1, sayS_drop ki.k1 (by omega) (hnm n hn) (fun _ => ⟨rfl, .inr (.inl rfl), ?_⟩) fun bk e => absurd (bkAt_mem e).1 un⟩
      refine ne_said (bang_ok (.inr (.inl rfl))).1 bang_un ?_
      (try dsimp only); (try simp only [Bool.false_eq_true, if_false]); (skip)
      refine hW8 _ _ ?_
      (try dsimp only [sIf, eAnd, eT, eOp, eVar, List.getElem?_cons_succ, List.getElem?_cons_zero, sDrop, sNext, oNotN, eC, oIsN]); (try simp only [Bool.false_eq_true, if_false, if_true]); (skip)
      exact hV _ _ ⟨ns, bks, x, y, z, _, _, _, _, _, ki, rfl⟩
    | drop n hn hi =>
      refine ⟨d1, p1, x1, ns, bks, _, rfl, ki.k1, sayS_drop ki.k1 (by omega) (hnm n hn) (fun e => absurd hi ((bkAt_none ki.k1.len).mp e)) fun bk e => ⟨⟨_, rfl⟩, good_dput ki.k1, ?_⟩⟩
      refine ne_tt (asc_of _) (asc_of _) rfl ?_
      (try dsimp only); (try simp only [Bool.false_eq_true, if_false]); (skip)
      refine hW8 _ _ ?_
      (try dsimp only [sIf, eAnd, eT, eOp, eVar, List.getElem?_cons_succ, List.getElem?_cons_zero, sDrop, eDPop1, keyD, sNext, oNotN, eC, oIsN]); (try simp only [if_true, Bool.false_eq_true, if_false]); (skip)
      have hkk : dput G' p1 (delN ns n) (delB ns bks n) kp = some (.dct (ns.map Sum.inr) (bks.map bkD)) := by unfold dput; rw [gput_ne ki.n2]; exact ki.kk
      have hkl : (delN ns n).length = (delB ns bks n).length := del_len ki.k1.len
      have kp' := ki.put (ns' := delN ns n) (bks' := delB ns bks n) hkl (delN_nd ki.nd) (fun m hm => ki.sub m (delN_mem.mp hm).1) (fun b h => ki.bok b (delB_mem h))
      have ev := bkAt_v ns bks n
      rw [e] at ev
      simp only [lkD, hkk, ev, Option.map_some]
      refine ⟨rfl, ?_⟩
      rw [dropK_n, dropV_n]
      exact hV _ _ ⟨_, _, x, y, z, _, _, _, _, _, kp', rfl⟩
    | shown n bk hn hb =>
      have ok2 := ki.bok bk (bkAt_mem hb).2
      refine ⟨d1, p1, x1, ns, bks, _, rfl, ki.k1, sayS_shown ki.k1 (by omega) (hnm n hn) (fun e => by rw [hb] at e; cases e) fun bk' e => ?_⟩
      rw [hb] at e
      cases e
      refine ⟨ok2, ⟨_, rfl⟩, good_id, ?_⟩
      have aa := rowT_asc (row_S' ok2.all)
      refine ne_tt aa aa rfl ?_
      (try dsimp only); (try simp only [Bool.false_eq_true, if_false]); (skip)
      refine hW8 _ _ ?_
      (try dsimp only [sIf, eAnd, eT, eOp, eVar, List.getElem?_cons_succ, List.getElem?_cons_zero, sDrop, sNext, oNotN, eC, oIsN]); (try simp only [Bool.false_eq_true, if_false, if_true]); (skip)
      exact hV _ _ ⟨ns, bks, x, y, z, _, _, _, _, _, ki, rfl⟩
  · intro s G hI
    obtain ⟨ns, bks, x, y, z, o6, o7, o8, o9, o10, ki, rfl⟩ := hI
    have nl : ns.length ≤ 6 := by have := nd_len ki.nd ki.sub; omega
    have nn : ∀ n ∈ ns, NameOk n := fun n hn => hnm n (ki.sub n hn)
    refine hW6 _ _ ?_
    refine seq_gen fun W7 hW7 => ?_
    (try dsimp only [sIf, eOr, eT, eOp, eMeth, eVar, List.getElem?_cons_succ, List.getElem?_cons_zero, sRet, eC, sNext, eCons, eNil, eOrT]); (try simp only [if_true]); (skip)
    refine ⟨ins_dk ki.k1 (by decide +kernel), ?_⟩
    refine sayS_names ki.k1 (by omega) nn fun ms pm up => ?_
    (try dsimp only [eM1, eC, eCB, eCons, eVar, List.getElem?_cons_succ, List.getElem?_cons_zero, eNil]); (skip); (skip)
    refine ⟨trivial, ?_⟩
    (try dsimp only [cSortedDS, lkD]); (try simp only [ki.kk, Option.bind_some, strKs_map]); (skip)
    refine ⟨by omega, fun ms' pm' up' => ?_⟩
    have e := sorted_uniq pm' pm up' up
    subst e
    have hms : ∀ m ∈ ms', NameOk m := fun m hm => nn m (pm.mem_iff.mp hm)
    have lms := pm.length_eq
    unfold mJoin
    refine ⟨_, _, rfl, (fun _ e => by cases e), strsD_map _, (names_len hms (by omega)).1, ?_⟩
    have an := names_asc hms
    refine or_dash (R := fun d G1 => oNe (.str (NamesA ms')) d G1 _) hms (by omega) ?_
    refine ne_tt an an rfl ?_
    (try dsimp only); (try simp only [Bool.false_eq_true, if_false]); (skip)
    refine ⟨ins_dk ki.k2 (by decide +kernel), ?_⟩
    refine sayS_names ki.k2 (by decide) (fun _ h => by cases h) fun ms pm up => ?_
    have e0 : ms = [] := List.Perm.eq_nil pm
    subst e0
    refine ne_tt (asc_of _) (asc_of _) rfl ?_
    (try dsimp only); (try simp only [Bool.false_eq_true, if_false]); (skip)
    refine hW7 _ _ ?_
    have da2 := ki.k2
    have hG := ki.st
    have ok := ki.ok
    clear ki pm up pm' up' an hms lms
    refine seq_gen fun W8 hW8 => ?_
    (try dsimp only [sAsg, eC, asg, List.set_cons_succ, List.set_cons_zero]); (skip); (skip)
    refine hW8 _ _ ?_
    refine seq_gen fun W9 hW9 => ?_
    (try dsimp only [oMod, oDivW, sAsg, eLc, iR1, eCons, eC, eNil, wipeD, List.set_cons_succ, List.set_cons_zero, asg]); (skip); (skip)
    refine ⟨by decide, by decide, ?_⟩
    rw [rngD_map, ← List.range_eq_range', show (40 : Int).toNat = 40 from rfl]
    refine compW_all (g := fun j : Nat => D.int (j : Int)) (f := fun j : Nat => D.str (nmK j)) trivial (List.range 40) [] (fun j hj => ⟨_, rfl, fun R r => ?_⟩) ?_
    · have hj := List.mem_range.mp hj
      (try dsimp only [List.set_cons_succ, List.set_cons_zero, eOp, eVar, List.getElem?_cons_succ, List.getElem?_cons_zero, eC, oI]); (skip); (skip)
      refine ⟨by decide, lt_ix (by omega) (by omega) ⟨⟨by decide, by decide⟩, add_ii ?_⟩⟩
      (try dsimp only [oRepT]); (skip); (skip)
      have e : repS ⟨#[97 + ((j : Int) % 26).toNat]⟩ (1 + (j : Int) / 26).toNat = nmK j := by
        unfold nmK
        rw [show ((j : Int) % 26).toNat = j % 26 by omega, show (1 + (j : Int) / 26).toNat = 1 + j / 26 by omega]
      rw [e]
      exact ⟨by omega, by omega, by rw [str_one_len]; decide, by rw [str_one_len]; decide, r⟩
    (try dsimp only [List.nil_append]); (skip); (skip)
    have es : (List.range 40).map (fun j : Nat => D.str (nmK j)) = someL.map D.str := by unfold someL; rw [List.map_map]; rfl
    rw [es]
    refine hW9 _ _ ?_
    refine seq_gen fun Wa hWa => ?_
    (try dsimp only [sFor, iR1, eCons, eC, eNil]); (skip); (skip)
    refine ⟨by decide, by decide, ?_⟩
    refine forW_rng (n := 40) (fun j s G' => ∃ o6 o7, DkAt G' d2 p2 x2 (someL.take j) ((List.range j).map bkK) ∧ G' a = some (stO x y z) ∧ s = [some (.scr sc), some (.ref d1), some (.ref d2), some (.ref kp), some (.ref a), some (.lst (nm.map D.str)), o6, o7, o8, o9, o10, some (.str (Str.ofString "abcdefghijklmnopqrstuvwxyz")), some (.lst (someL.map D.str)), none]) ?_ ?_ ⟨_, _, da2, hG, rfl⟩
    · clear da2 hG
      intro j s G' V hj hI hV
      obtain ⟨o6, o7, da, hG, rfl⟩ := hI
      have ap : a ≠ p2 := fun e => by rw [e, da.kp] at hG; cases hG
      have fj : FarI (j : Int) := ⟨by omega, by omega⟩
      have fj2 : FarI (2 + (j : Int)) := ⟨by omega, by omega⟩
      have l1 : (iSt (j : Int)).length ≤ 61 := (iS_ok fj).1
      have l2 : (iSt (2 + (j : Int))).length ≤ 61 := (iS_ok fj2).1
      have n8 := (nmK_ok hj).l8
      (try dsimp only [asg, List.set_cons_succ, List.set_cons_zero]); (skip); (skip)
      unfold r_law_L2
      refine seq_gen fun Wb hWb => ?_
      (try dsimp only [sAsg, eM1, eC, asg, List.set_cons_succ, List.set_cons_zero, eLst, eCons, eOp, eVar, List.getElem?_cons_succ, List.getElem?_cons_zero, eCB, eNil]); (try simp only [List.length_cons, List.length_nil, Nat.reduceAdd, sizeLine_eq, Nat.reduceLeDiff, true_and]); (skip)
      refine ⟨trivial, ?_⟩
      refine ix_at (d := .str (nmK j)) (atI_nat (by simp [someL, hj])) ?_
      refine add_ii ?_
      (try dsimp only [cStrI]); (skip); (skip)
      refine ⟨(iS_ok fj2).2.2, ?_⟩
      (skip); (skip); (skip)
      refine ⟨(iS_ok fj).2.2, ?_⟩
      unfold mJoin
      refine ⟨_, [Str.ofString "book", nmK j, Str.ofString "stretch", Str.ofString "a", Str.ofString "1", iSt (2 + (j : Int)), iSt (j : Int)], lkL_lst, (fun ns e => by cases e), rfl, ?_, hWb _ _ ?_⟩
      · have e1 : (Str.ofString " ").length = 1 := by decide +kernel
        have e2 : (Str.ofString "stretch").length = 7 := by decide +kernel
        have e3 : (Str.ofString "book").length = 4 := by decide +kernel
        have e4 : (Str.ofString "a").length = 1 := by decide +kernel
        have e5 : (Str.ofString "1").length = 1 := by decide +kernel
        simp only [List.map_cons, List.map_nil, List.sum_cons, List.sum_nil, List.length_cons, List.length_nil, e1, e2, e3, e4, e5]
        omega
      have er : Txt.join (Str.ofString " ") [Str.ofString "book", nmK j, Str.ofString "stretch", Str.ofString "a", Str.ofString "1", iSt (2 + (j : Int)), iSt (j : Int)] = Str.ofString "book " ++ (nmK j ++ bl ++ rowT ((bkK j).map wS)) := by
        have h1 : rowT ((bkK j).map wS) = Txt.join bl [Str.ofString "stretch", Str.ofString "a", Str.ofString "1", iSt (2 + (j : Int)), iSt (j : Int)] := by
          have : iSt 1 = Str.ofString "1" := by decide +kernel
          rw [← this]
          unfold rowT bkK
          rw [List.map_cons, List.map_nil, List.map_cons, List.map_nil, join_one]
          rfl
        have h2 : Str.ofString "book " = Str.ofString "book" ++ bl := by decide +kernel
        rw [h1, h2, join_two, join_two]
        all_goals (try simp only [app_assoc])
      rw [er]
      (try dsimp only [sIf, eT, eOp, eMeth, eVar, List.getElem?_cons_succ, List.getElem?_cons_zero, sRet, eC, sNext, eCons, eNil]); (skip); (skip)
      refine ⟨ins_dk da (by decide +kernel), ?_⟩
      have lt : (someL.take j).length = j := by rw [List.length_take, someL_len]; omega
      refine sayS_book da (by omega) (nmK_ok hj) (bkK_ok hj) (.inr (by omega)) ?_
      refine ne_tt (asc_of _) (asc_of _) rfl ?_
      (try dsimp only); (try simp only [Bool.false_eq_true, if_false]); (skip)
      have nin := take_not hj
      have ep : putN (someL.take j) (nmK j) = someL.take (j + 1) := by unfold putN; rw [if_neg nin, take_one hj]
      have eb : putBk (someL.take j) ((List.range j).map bkK) (nmK j) (bkK j) = (List.range (j + 1)).map bkK := by unfold putBk; rw [if_neg nin, List.range_succ, List.map_append]; rfl
      rw [ep, eb]
      refine hV _ _ ⟨_, _, dput_at da (by rw [List.length_map, List.length_range, List.length_take, someL_len]; omega), by unfold dput; rw [gput_ne ap]; exact hG, rfl⟩
    · clear da2 hG
      intro s G hI
      obtain ⟨o6, o7, da, hG, rfl⟩ := hI
      have e40 : someL.take 40 = someL := by rw [List.take_of_length_le (by rw [someL_len]; exact Nat.le_refl _)]
      rw [e40] at da
      have ap : a ≠ p2 := fun e => by rw [e, da.kp] at hG; cases hG
      refine hWa _ _ ?_
      have e5 : (Str.ofString "book ").length = 5 := by decide +kernel
      have e6 : (Str.ofString "shown ").length = 6 := by decide +kernel
      have e1 : (Str.ofString " ").length = 1 := by decide +kernel
      refine seq_gen fun Wb hWb => ?_
      (try dsimp only [sAsg, eOp, eVar, List.getElem?_cons_succ, List.getElem?_cons_zero, asg, List.set_cons_succ, List.set_cons_zero, eC, eCall, eCons, eNil]); (skip); (skip)
      refine take_ok (m := 12) hG ok (wd_of (by decide) (by decide)) fun u x y z ok u0 u1 => ?_
      obtain ⟨u, rfl⟩ := nat_of u0
      have hu : u < 12 := by omega
      refine add_ii (lt_ix (by omega) (by omega) ?_)
      (try dsimp only [oRepT]); (skip); (skip)
      have em : repS ⟨#[97 + ((u : Int) + 14).toNat]⟩ (2 : Int).toNat = moK u := by
        unfold moK
        rw [show 97 + ((u : Int) + 14).toNat = 111 + u by omega]
        rfl
      rw [em]
      refine ⟨by decide, by decide, by rw [str_one_len]; decide, by rw [str_one_len]; decide, ?_⟩
      have mok := moK_ok hu
      have m8 := mok.l8
      obtain ⟨mcut, mnot⟩ := moK_cut hu
      refine add_ss (by omega) (hWb _ _ ?_)
      have da : DkAt (gput G a (stO x y z)) d2 p2 x2 someL ((List.range 40).map bkK) := dk_st da hG
      generalize gput G a (stO x y z) = G1 at da
      generalize hB : (List.range 40).map bkK = B at da
      have e2 : (moK u ++ Str.ofString " ").length ≤ 9 := by rw [len_app]; omega
      refine seq_gen fun Wc hWc => ?_
      (try dsimp only [sIf, eT, eOp, eCall, eCons, eVar, List.getElem?_cons_succ, List.getElem?_cons_zero, sRet, eC, sNext, eLst, eNil]); (try simp only [List.length_cons, List.length_nil, Nat.reduceAdd, sizeLine_eq, Nat.reduceLeDiff, true_and]); (skip)
      refine add_ss (by omega) (add_ss (by rw [len_app]; have : (Str.ofString "stretch a 1 1 1").length = 15 := by decide +kernel
                                           omega) ?_)
      have bt : BadB (Str.ofString "stretch a 1 1 1") := by
        have bp : BadP (Str.ofString "stretch a 1 1 1") := badP_one (by decide +kernel) (asc_of _)
        have := badB_of (pts_ok (l := [Str.ofString "stretch a 1 1 1"]) (by decide) (fun p hp => by simp at hp; subst hp; exact bp.ok) ⟨_, List.mem_cons_self, by decide +kernel⟩) (bad_head bp.bad)
        rw [join_one] at this
        exact this
      have er : Str.ofString "book " ++ (moK u ++ Str.ofString " ") ++ Str.ofString "stretch a 1 1 1" = Str.ofString "book " ++ (moK u ++ bl ++ Str.ofString "stretch a 1 1 1") := by simp only [app_assoc]
      rw [er]
      refine ⟨d2, p2, x2, someL, B, _, rfl, da, sayS_bad da (by rw [someL_len]; decide) mok bt fun j => ⟨rfl, .inr (.inr (.inr (.inl rfl))), ?_⟩⟩
      refine ne_said (bang_ok (.inr (.inr (.inr (.inl rfl))))).1 bang_nt ?_
      (try dsimp only); (try simp only [Bool.false_eq_true, if_false]); (skip)
      refine hWc _ _ ?_
      refine seq_gen fun Wd hWd => ?_
      (try dsimp only [sIf, eT, eOp, eCall, eCons, eVar, List.getElem?_cons_succ, List.getElem?_cons_zero, sRet, eC, sNext, eLst, eNil]); (try simp only [List.length_cons, List.length_nil, Nat.reduceAdd, sizeLine_eq, Nat.reduceLeDiff, true_and]); (skip)
      refine add_ss (by omega) ?_
      have e0 : rowT (([] : List Stretch).map wS) = Str.ofString "" := by decide +kernel
      have en : ∀ n : Str, Str.ofString "book " ++ (n ++ Str.ofString " ") = Str.ofString "book " ++ (n ++ bl ++ rowT (([] : List Stretch).map wS)) := fun n => by
        rw [e0]
        refine str_ext ?_
        have e3 : (Str.ofString "").cps.toList = [] := by decide +kernel
        simp only [app_tl, e3, List.append_nil]
      rw [en]
      refine ⟨d2, p2, x2, someL, B, _, rfl, da, sayS_many da someL_len mok nil_ok mnot ⟨rfl, .inr (.inr (.inr (.inr rfl))), ?_⟩⟩
      refine ne_said (bang_ok (.inr (.inr (.inr (.inr rfl))))).1 (by decide +kernel) ?_
      (try dsimp only); (try simp only [Bool.false_eq_true, if_false]); (skip)
      refine hWd _ _ ?_
      refine seq_gen fun We hWe => ?_
      (try dsimp only [sIf, eT, eOp, eCall, eCons, eVar, List.getElem?_cons_succ, List.getElem?_cons_zero, sRet, eC, sNext, eLst, eNil, eSlS, ePart, eNoPart]); (try simp only [sizeLine_eq, List.length_cons, List.length_nil, Nat.reduceAdd, Nat.reduceLeDiff, true_and]); (skip)
      refine ⟨by omega, ?_⟩
      rw [mcut]
      refine add_ss (by omega) ?_
      rw [gl2s (u := Str.ofString "shown") (by decide +kernel)]
      have un : bkAt someL B (moK u) = none := (bkAt_none da.len).mpr mnot
      refine ⟨d2, p2, x2, someL, B, _, rfl, da, sayS_shown da (by rw [someL_len]; decide) mok (fun _ => ⟨rfl, .inr (.inl rfl), ?_⟩) (fun bk e => by rw [un] at e; cases e)⟩
      refine ne_said (bang_ok (.inr (.inl rfl))).1 bang_un ?_
      (try dsimp only); (try simp only [Bool.false_eq_true, if_false]); (skip)
      refine hWe _ _ ?_
      refine seq_gen fun Wf hWf => ?_
      (try dsimp only [sIf, eT, eOp, eMeth, eVar, List.getElem?_cons_succ, List.getElem?_cons_zero, sRet, eC, sNext, eCons, eNil]); (skip); (skip)
      refine ⟨ins_dk da (by decide +kernel), ?_⟩
      have sn : ∀ n ∈ someL, NameOk n := fun n hn => by
        obtain ⟨j, hj, rfl⟩ := List.mem_map.mp hn
        exact nmK_ok (List.mem_range.mp hj)
      refine sayS_names da (by rw [someL_len]; decide) sn fun ms pm up => ?_
      have hms : ∀ m ∈ ms, NameOk m := fun m hm => sn m (pm.mem_iff.mp hm)
      have lms : ms.length = 40 := by rw [pm.length_eq, someL_len]
      have mne : ms ≠ [] := fun e => by rw [e] at lms; cases lms
      (try dsimp only [eM1, eC, eCB, eCons, eVar, List.getElem?_cons_succ, List.getElem?_cons_zero, eNil]); (skip); (skip)
      refine ⟨trivial, ?_⟩
      (try dsimp only [cSortedS, lkL_lst, Option.bind_some]); (try simp only [strsD_map]); (skip)
      refine ⟨by rw [someL_len]; decide, fun ms' pm' up' => ?_⟩
      have e := sorted_uniq pm' pm up' up
      subst e
      unfold mJoin
      refine ⟨_, _, rfl, (fun _ e => by cases e), strsD_map _, (names_len hms (by omega)).1, ?_⟩
      have an := names_asc hms
      have ena : NamesA ms' = Txt.join (Str.ofString " ") ms' := by unfold NamesA; rw [if_neg mne]
      rw [ena] at an ⊢
      refine ne_tt an an rfl ?_
      (try dsimp only); (try simp only [Bool.false_eq_true, if_false]); (skip)
      refine hWf _ _ ?_
      clear pm up pm' up' an hms lms mne ena
      have bin : Str.ofString "bb" ∈ someL := by decide +kernel
      have bok : NameOk (Str.ofString "bb") := ⟨by decide +kernel, by decide +kernel, by decide +kernel⟩
      have aok : NameOk (Str.ofString "aa") := ⟨by decide +kernel, by decide +kernel, by decide +kernel⟩
      have ebb : Str.ofString "book bb " = Str.ofString "book " ++ (Str.ofString "bb" ++ bl ++ rowT (([] : List Stretch).map wS)) := by decide +kernel
      have esb : Str.ofString "shown bb" = glue [Str.ofString "shown", Str.ofString "bb"] := by decide +kernel
      have esa : Str.ofString "shown aa" = glue [Str.ofString "shown", Str.ofString "aa"] := by decide +kernel
      have edb : Str.ofString "drop bb" = glue [Str.ofString "drop", Str.ofString "bb"] := by decide +kernel
      refine seq_gen fun Wg hWg => ?_
      (try dsimp only [sIf, eOr, eT, eOp, eMeth, eVar, List.getElem?_cons_succ, List.getElem?_cons_zero, sRet, eC, sNext, eCons, eNil]); (try simp only [if_true]); (skip)
      refine ⟨ins_dk da (by decide +kernel), ?_⟩
      rw [ebb]
      refine sayS_book da (by rw [someL_len]; decide) bok nil_ok (.inl bin) ?_
      refine ne_tt (asc_of _) (asc_of _) rfl ?_
      have ep : putN someL (Str.ofString "bb") = someL := by unfold putN; rw [if_pos bin]
      have epb : putBk someL B (Str.ofString "bb") [] = putB1 someL B (Str.ofString "bb") [] := by unfold putBk; rw [if_pos bin]
      have hb1 : bkAt someL (putB1 someL B (Str.ofString "bb") []) (Str.ofString "bb") = some [] := by subst hB; decide +kernel
      have ha1 : bkAt someL (putB1 someL B (Str.ofString "bb") []) (Str.ofString "aa") = some (bkK 26) := by subst hB; decide +kernel
      rw [ep, epb]
      have da := dput_at (ns' := someL) (bks' := putB1 someL B (Str.ofString "bb") []) da (by rw [putB1_len da.len])
      generalize dput G1 p2 someL (putB1 someL B (Str.ofString "bb") []) = G2 at da
      generalize putB1 someL B (Str.ofString "bb") [] = B2 at da hb1 ha1
      (try dsimp only); (try simp only [Bool.false_eq_true, if_false]); (skip)
      refine ⟨ins_dk da (by decide +kernel), ?_⟩
      rw [esb]
      refine sayS_shown da (by rw [someL_len]; decide) bok (fun e => by rw [hb1] at e; cases e) (fun bk e => ?_)
      rw [hb1] at e
      cases e
      refine ⟨nil_ok, ?_⟩
      refine ne_tt (by rw [e0]; exact asc_of _) (asc_of _) e0 ?_
      (try dsimp only); (try simp only [Bool.false_eq_true, if_false]); (skip)
      refine hWg _ _ ?_
      refine seq_gen fun Wh hWh => ?_
      (try dsimp only [sIf, eT, eOp, eMeth, eVar, List.getElem?_cons_succ, List.getElem?_cons_zero, sRet, eC, sNext, eCons, eNil]); (skip); (skip)
      refine ⟨ins_dk da (by decide +kernel), ?_⟩
      rw [esa]
      refine sayS_shown da (by rw [someL_len]; decide) aok (fun e => by rw [ha1] at e; cases e) (fun bk e => ?_)
      rw [ha1] at e
      cases e
      refine ⟨bkK_ok (by decide), ?_⟩
      refine ne_tt (rowT_asc (row_S' (bkK_ok (k := 26) (by decide)).all)) (asc_of _) (by decide +kernel) ?_
      (try dsimp only); (try simp only [Bool.false_eq_true, if_false]); (skip)
      refine hWh _ _ ?_
      refine seq_gen fun Wi hWi => ?_
      (try dsimp only [sDrop, eMeth, eVar, List.getElem?_cons_succ, List.getElem?_cons_zero, eCons, eC, eNil]); (skip); (skip)
      refine ⟨ins_dk da (by decide +kernel), ?_⟩
      rw [edb]
      refine sayS_drop da (by rw [someL_len]; decide) bok (fun e => by rw [hb1] at e; cases e) (fun bk e => ?_)
      have da := dput_at (ns' := delN someL (Str.ofString "bb")) (bks' := delB someL B2 (Str.ofString "bb")) da (del_len da.len)
      have ld : (delN someL (Str.ofString "bb")).length = 39 := by decide +kernel
      have mnd : moK u ∉ delN someL (Str.ofString "bb") := fun h => mnot (delN_mem.mp h).1
      have bnd : Str.ofString "bb" ∉ delN someL (Str.ofString "bb") := fun h => (delN_mem.mp h).2 rfl
      have mb : Str.ofString "bb" ≠ moK u := fun e => mnot (by rw [← e]; exact bin)
      generalize dput G2 p2 (delN someL (Str.ofString "bb")) (delB someL B2 (Str.ofString "bb")) = G3 at da ⊢
      generalize delN someL (Str.ofString "bb") = N3 at da ld mnd bnd ⊢
      generalize delB someL B2 (Str.ofString "bb") = B3 at da ⊢
      (skip); (skip); (skip)
      refine hWi _ _ ?_
      (try dsimp only [sRet, eAndT, eOp, eMeth, eVar, List.getElem?_cons_succ, List.getElem?_cons_zero, eCall, eCons, eLst, eC, eNil]); (try simp only [List.length_cons, List.length_nil, Nat.reduceAdd, sizeLine_eq, Nat.reduceLeDiff, true_and]); (skip)
      refine ⟨ins_dk da (by decide +kernel), ?_⟩
      refine add_ss (by omega) ?_
      rw [en]
      refine sayS_book da (by omega) mok nil_ok (.inr (by omega)) ?_
      refine eq_tt (asc_of _) rfl ?_
      (try dsimp only [truD_bl]); (try simp only [if_true]); (skip)
      have da := dput_at (ns' := putN N3 (moK u)) (bks' := putBk N3 B3 (moK u) []) da (put_len da.len)
      have lp : (putN N3 (moK u)).length = 40 := by unfold putN; rw [if_neg mnd, List.length_append, ld]; rfl
      have bnp : Str.ofString "bb" ∉ putN N3 (moK u) := fun h => (putN_mem.mp h).elim mb bnd
      refine ⟨d2, p2, x2, _, _, _, rfl, da, ?_⟩
      rw [ebb]
      refine sayS_many da lp bok nil_ok bnp ⟨rfl, .inr (.inr (.inr (.inr rfl))), ?_⟩
      refine eq_said (bang_ok (.inr (.inr (.inr (.inr rfl))))).1 (by decide +kernel) ?_
      (skip); (skip); (skip)
      exact fin_id (k _)
end DL
set_option Elab.async false
set_option linter.all false
set_option maxRecDepth 100000
set_option maxHeartbeats 0
namespace Row
open PySem PySem.Spec PyProof.Rows L2 DL
def top (i : Nat) : Stmt := PySem.Challenge.pw_benchworth_k86_books_kept.main.body.getD i (.Pass ⟨0, 0, 0, 0⟩)
def inC (st : Stmt) (j : Nat) : Stmt := match st with
  | .ClassDef _ _ _ body _ _ _ _ _ _ _ => body.getD j (.Pass ⟨0, 0, 0, 0⟩)
  | _ => .Pass ⟨0, 0, 0, 0⟩
abbrev s_Desk___init__ : Stmt := inC (top 95) 0
theorem sc_Desk___init__ : FnScope ["self"] ["self"] (defScope s_Desk___init__) := ⟨rfl, rfl, rfl, by decide +kernel, rfl, by decide +kernel, by decide +kernel⟩
abbrev s__law_begun : Stmt := top 97
theorem sc__law_begun : FnScope ["_law_script", "_law_k", "_law_cell", "_law_number", "_law_seed"] ["_law_script", "_law_k"] (defScope s__law_begun) := ⟨rfl, rfl, rfl, by decide +kernel, rfl, by decide +kernel, by decide +kernel⟩
abbrev s__law_take : Stmt := top 98
theorem sc__law_take : FnScope ["_law_state", "_law_many", "_law_found", "_law_made", "_law_turn"] ["_law_state", "_law_many"] (defScope s__law_take) := ⟨rfl, rfl, rfl, by decide +kernel, rfl, by decide +kernel, by decide +kernel⟩
abbrev s__law_name : Stmt := top 99
theorem sc__law_name : FnScope ["_law_state", "_law_k", "_law_letters", "_law_spelt", "_law_j"] ["_law_state", "_law_k"] (defScope s__law_name) := ⟨rfl, rfl, rfl, by decide +kernel, rfl, by decide +kernel, by decide +kernel⟩
abbrev s__law_book : Stmt := top 100
theorem sc__law_book : FnScope ["_law_state", "_law_most", "_law_size", "_law_unit", "_law_low", "_law_book_here", "_law_k", "_law_begin", "_law_end", "_law_worth", "_law_span"] ["_law_state", "_law_most"] (defScope s__law_book) := ⟨rfl, rfl, rfl, by decide +kernel, rfl, by decide +kernel, by decide +kernel⟩
abbrev s__law_text : Stmt := top 101
theorem sc__law_text : FnScope ["_law_book_here", "_law_rows", "_law_one"] ["_law_book_here"] (defScope s__law_text) := ⟨rfl, rfl, rfl, by decide +kernel, rfl, by decide +kernel, by decide +kernel⟩
abbrev s__law_bad_text : Stmt := top 103
theorem sc__law_bad_text : FnScope ["_law_state", "_law_book_here", "_law_rows", "_law_at", "_law_some", "_law_one"] ["_law_state", "_law_book_here"] (defScope s__law_bad_text) := ⟨rfl, rfl, rfl, by decide +kernel, rfl, by decide +kernel, by decide +kernel⟩
abbrev s__law_done : Stmt := top 104
theorem sc__law_done : FnScope ["_law_kept", "_law_names", "_law_state", "_law_way", "_law_name_here", "_law_book_here", "_law_row"] ["_law_kept", "_law_names", "_law_state"] (defScope s__law_done) := ⟨rfl, rfl, rfl, by decide +kernel, rfl, by decide +kernel, by decide +kernel⟩
abbrev s_split_text : Stmt := top 93
theorem sc_split_text : FnScope ["row", "many", "words", "left", "k", "word", "blank"] ["row", "many"] (defScope s_split_text) := ⟨rfl, rfl, rfl, by decide +kernel, rfl, by decide +kernel, by decide +kernel⟩
abbrev s_is_name : Stmt := top 19
theorem sc_is_name : FnScope ["thing", "sign"] ["thing"] (defScope s_is_name) := ⟨rfl, rfl, rfl, by decide +kernel, rfl, by decide +kernel, by decide +kernel⟩
abbrev s_rows_of : Stmt := top 63
theorem sc_rows_of : FnScope ["text", "row"] ["text"] (defScope s_rows_of) := ⟨rfl, rfl, rfl, by decide +kernel, rfl, by decide +kernel, by decide +kernel⟩
abbrev s_number_of_reader : Stmt := top 61
theorem sc_number_of_reader : FnScope ["word", "figures", "sign"] ["word"] (defScope s_number_of_reader) := ⟨rfl, rfl, rfl, by decide +kernel, rfl, by decide +kernel, by decide +kernel⟩
abbrev s_is_whole : Stmt := top 18
theorem sc_is_whole : FnScope ["thing"] ["thing"] (defScope s_is_whole) := ⟨rfl, rfl, rfl, by decide +kernel, rfl, by decide +kernel, by decide +kernel⟩
abbrev s_is_stretch : Stmt := top 24
theorem sc_is_stretch : FnScope ["thing", "begin", "end", "worth", "number"] ["thing"] (defScope s_is_stretch) := ⟨rfl, rfl, rfl, by decide +kernel, rfl, by decide +kernel, by decide +kernel⟩
abbrev s_read_book : Stmt := top 65
theorem sc_read_book : FnScope ["text", "book", "names", "row", "words", "stretch"] ["text"] (defScope s_read_book) := ⟨rfl, rfl, rfl, by decide +kernel, rfl, by decide +kernel, by decide +kernel⟩
abbrev s_Desk_takes : Stmt := inC (top 95) 3
theorem sc_Desk_takes : FnScope ["self", "row", "words", "text", "book"] ["self", "row"] (defScope s_Desk_takes) := ⟨rfl, rfl, rfl, by decide +kernel, rfl, by decide +kernel, by decide +kernel⟩
abbrev s_is_number : Stmt := top 90
theorem sc_is_number : FnScope ["word", "figures", "sign"] ["word"] (defScope s_is_number) := ⟨rfl, rfl, rfl, by decide +kernel, rfl, by decide +kernel, by decide +kernel⟩
abbrev s_are_benches : Stmt := top 91
theorem sc_are_benches : FnScope ["word", "many"] ["word", "many"] (defScope s_are_benches) := ⟨rfl, rfl, rfl, by decide +kernel, rfl, by decide +kernel, by decide +kernel⟩
abbrev s_has_form : Stmt := top 92
theorem sc_has_form : FnScope ["word", "form"] ["word", "form"] (defScope s_has_form) := ⟨rfl, rfl, rfl, by decide +kernel, rfl, by decide +kernel, by decide +kernel⟩
abbrev s_words_of : Stmt := top 94
theorem sc_words_of : FnScope ["row", "words", "forms", "word", "form"] ["row"] (defScope s_words_of) := ⟨rfl, rfl, rfl, by decide +kernel, rfl, by decide +kernel, by decide +kernel⟩
abbrev s_Desk_book_of : Stmt := inC (top 95) 1
theorem sc_Desk_book_of : FnScope ["self", "name"] ["self", "name"] (defScope s_Desk_book_of) := ⟨rfl, rfl, rfl, by decide +kernel, rfl, by decide +kernel, by decide +kernel⟩
abbrev s_write_book : Stmt := top 83
theorem sc_write_book : FnScope ["book", "name", "begin", "end", "worth"] ["book"] (defScope s_write_book) := ⟨rfl, rfl, rfl, by decide +kernel, rfl, by decide +kernel, by decide +kernel⟩
abbrev s_Desk_tells : Stmt := inC (top 95) 6
theorem sc_Desk_tells : FnScope ["self", "words", "book", "benches", "choice", "told", "found", "i", "bench", "worth"] ["self", "words", "book"] (defScope s_Desk_tells) := ⟨rfl, rfl, rfl, by decide +kernel, rfl, by decide +kernel, by decide +kernel⟩
abbrev s_Desk_say : Stmt := inC (top 95) 2
theorem sc_Desk_say : FnScope ["self", "row", "words", "book"] ["self", "row"] (defScope s_Desk_say) := ⟨rfl, rfl, rfl, by decide +kernel, rfl, by decide +kernel, by decide +kernel⟩
abbrev s__law_said : Stmt := top 102
theorem sc__law_said : FnScope ["_law_desk", "_law_row", "_law_found", "_law_word", "e", "_law_kinds", "_law_words", "_law_one", "_law_so"] ["_law_desk", "_law_row"] (defScope s__law_said) := ⟨rfl, rfl, rfl, by decide +kernel, rfl, by decide +kernel, by decide +kernel⟩
abbrev s_law : Stmt := top 105
theorem sc_law : FnScope ["_law_script", "_law_desk", "_law_second", "_law_kept", "_law_state", "_law_names", "_law_k", "_law_row", "_law_due", "_law_name_here", "_law_book_here", "_law_letters", "_law_some", "_law_more"] ["_law_script"] (defScope s_law) := ⟨rfl, rfl, rfl, by decide +kernel, rfl, by decide +kernel, by decide +kernel⟩
abbrev s_NoText___init__ : Stmt := inC (top 7) 0
theorem sc_NoText___init__ : FnScope ["self", "row"] ["self", "row"] (defScope s_NoText___init__) := ⟨rfl, rfl, rfl, by decide +kernel, rfl, by decide +kernel, by decide +kernel⟩
section
variable {P : Program} {w : World} {K : PySem.W.Frag} {mg : Str → Option Value} {base : Heap}
theorem ok_Desk___init__ (Df_ : DfM K "Desk" "__init__" "Desk.__init__" s_Desk___init__) (kc_Desk : Cls K (He.ga K "Desk")) (kn_Desk_kept : NoAttr K (He.ga K "Desk") "kept") : ∃ fd, FK P w K mg base 1 (He.ma K (He.ga K "Desk") "__init__") fd ["self"] (F_Desk___init__) ∧ Binds K fd ["self"] [] := by
  refine fk_meth (N := ["self"]) (es := r_Desk___init__) Df_ sc_Desk___init__ (fun _ _ _ _ _ _ us hl => match us, hl with | [_], _ => rfl) (fun f cdv A outer s H E hr => ?_) d_Desk___init__
  exact (jss_one (js_fld kc_Desk kn_Desk_kept (jv 0) j_dnewO))
theorem ok__law_begun (Df_ : Df K mg "_law_begun" s__law_begun) (b_len : mg "len" = none) (b_max : mg "max" = none) : Cal P w K mg base 1 "_law_begun" ["_law_script", "_law_k"] (F__law_begun) := by
  refine cal_ok (N := ["_law_script", "_law_k", "_law_cell", "_law_number", "_law_seed"]) (es := r__law_begun) Df_ sc__law_begun (fun _ _ _ _ _ _ us hl => match us, hl with | [_, _], _ => rfl) (fun f cdv A outer s H E hr => ?_) d__law_begun
  exact (jss_cons (js_set (i := 2) sc__law_begun.nd rfl (by first | exact Or.inl rfl | exact Or.inr rfl) j_int)
      (jss_cons (js_if (jt_cmp op_lt lo_lt (jv 1) (j_cb call_len lc_len rfl b_len PySem.boot_len (ja_cons (jv 0) ja_nil)) (nomark _)) (jss_one (js_set (i := 2) sc__law_begun.nd rfl (by first | exact Or.inl rfl | exact Or.inr rfl) (j_ix (jv 0) (jv 1)))) jss_nil)
      (jss_cons (js_set (i := 3) sc__law_begun.nd rfl (by first | exact Or.inl rfl | exact Or.inr rfl) (j_cb (call_max2 rfl) lc_max2 rfl b_max (by decide +kernel) (ja_cons (jv 2) (ja_cons (j_sub (j_neg j_int) (jv 2)) ja_nil))))
      (jss_cons (js_set (i := 4) sc__law_begun.nd rfl (by first | exact Or.inl rfl | exact Or.inr rfl) (j_mod (j_add (j_add (jv 3) (j_mul (j_mul j_int (jv 1)) (jv 1))) j_int) j_int))
      (jss_cons (js_if (jt_cmp op_lt lo_lt (jv 3) (j_pow j_int j_int) (nomark _)) (jss_one (js_set (i := 3) sc__law_begun.nd rfl (by first | exact Or.inl rfl | exact Or.inr rfl) j_int)) jss_nil)
      (jss_one (js_ret (j_lstO (ja_cons (jv 3) (ja_cons (jv 4) (ja_cons j_int ja_nil)))))))))))
theorem ok__law_take (Df_ : Df K mg "_law_take" s__law_take) (b_range : mg "range" = none) (b_int : mg "int" = none) : Cal P w K mg base 1 "_law_take" ["_law_state", "_law_many"] (F__law_take) := by
  refine cal_ok (N := ["_law_state", "_law_many", "_law_found", "_law_made", "_law_turn"]) (es := r__law_take) Df_ sc__law_take (fun _ _ _ _ _ _ us hl => match us, hl with | [_, _], _ => rfl) (fun f cdv A outer s H E hr => ?_) d__law_take
  exact (jss_cons (js_if (jt_cmp op_gt lo_gt (j_ix (jv 0) j_int) j_int (nomark _)) (jss_cons (js_set (i := 2) sc__law_take.nd rfl (by first | exact Or.inl rfl | exact Or.inr rfl) (j_mod (j_ix (jv 0) j_int) (jv 1)))
      (jss_cons (js_setI (j_div (j_ix (jv 0) j_int) (jv 1)) (jv 0) j_int)
      (jss_one (js_ret (jv 2))))) jss_nil)
      (jss_cons (js_set (i := 3) sc__law_take.nd rfl (by first | exact Or.inl rfl | exact Or.inr rfl) j_int)
      (jss_cons (js_for PassesOwn.never rfl (ji_range1 rfl b_range (ja_cons (j_add j_int (j_ct call_int1 lc_int1 rfl b_int (by decide +kernel) (ja_cons (j_cmp op_gt lo_gt (jv 1) (j_pow j_int j_int) (nomark _)) ja_nil))) ja_nil)) (jg_name (i := 4) sc__law_take.nd rfl (by first | exact Or.inl rfl | exact Or.inr rfl))
      (jss_cons (js_setI (j_add (j_ix (jv 0) j_int) j_int) (jv 0) j_int)
      (jss_cons (js_setI (j_mod (j_add (j_mul (j_ix (jv 0) j_int) j_int) (j_mul j_int (j_ix (jv 0) j_int))) j_int) (jv 0) j_int)
      (jss_one (js_set (i := 3) sc__law_take.nd rfl (by first | exact Or.inl rfl | exact Or.inr rfl) (j_add (j_mul (jv 3) j_int) (j_mod (j_mul (j_ix (jv 0) j_int) (j_ix (jv 0) j_int)) j_int)))))))
      (jss_one (js_ret (j_mod (j_div (jv 3) j_int) (jv 1)))))))
theorem ok__law_name (Df_ : Df K mg "_law_name" s__law_name) (b_range : mg "range" = none) (c__law_take : Cal P w K mg base 1 "_law_take" ["_law_state", "_law_many"] F__law_take) : Cal P w K mg base 2 "_law_name" ["_law_state", "_law_k"] (F__law_name) := by
  refine cal_ok (N := ["_law_state", "_law_k", "_law_letters", "_law_spelt", "_law_j"]) (es := r__law_name) Df_ sc__law_name (fun _ _ _ _ _ _ us hl => match us, hl with | [_, _], _ => rfl) (fun f cdv A outer s H E hr => ?_) d__law_name
  exact (jss_cons (js_set (i := 2) sc__law_name.nd rfl (by first | exact Or.inl rfl | exact Or.inr rfl) j_str)
      (jss_cons (js_set (i := 3) sc__law_name.nd rfl (by first | exact Or.inl rfl | exact Or.inr rfl) j_str)
      (jss_cons (js_for PassesOwn.never rfl (ji_range1 rfl b_range (ja_cons (j_cal c__law_take (hr.mono (by decide)) rfl (ja_cons (jv 0) (ja_cons j_int ja_nil))) ja_nil)) (jg_name (i := 4) sc__law_name.nd rfl (by first | exact Or.inl rfl | exact Or.inr rfl))
      (jss_one (js_set (i := 3) sc__law_name.nd rfl (by first | exact Or.inl rfl | exact Or.inr rfl) (j_add (jv 3) (j_ix (jv 2) (j_cal c__law_take (hr.mono (by decide)) rfl (ja_cons (jv 0) (ja_cons j_int ja_nil))))))))
      (jss_one (js_ret (j_add (jv 3) (j_ix (jv 2) (jv 1))))))))
theorem ok__law_book (Df_ : Df K mg "_law_book" s__law_book) (b_range : mg "range" = none) (c__law_take : Cal P w K mg base 1 "_law_take" ["_law_state", "_law_many"] F__law_take) (c__law_name : Cal P w K mg base 2 "_law_name" ["_law_state", "_law_k"] F__law_name) : Cal P w K mg base 3 "_law_book" ["_law_state", "_law_most"] (F__law_book) := by
  refine cal_ok (N := ["_law_state", "_law_most", "_law_size", "_law_unit", "_law_low", "_law_book_here", "_law_k", "_law_begin", "_law_end", "_law_worth", "_law_span"]) (es := r__law_book) Df_ sc__law_book (fun _ _ _ _ _ _ us hl => match us, hl with | [_, _], _ => rfl) (fun f cdv A outer s H E hr => ?_) d__law_book
  have hu := hr.units
  exact (jss_cons (js_set (i := 2) sc__law_book.nd rfl (by first | exact Or.inl rfl | exact Or.inr rfl) (j_ix (j_lst (ja_cons j_int (ja_cons j_int (ja_cons j_int (ja_cons j_int ja_nil))))) (j_cal c__law_take (hr.mono (by decide)) rfl (ja_cons (jv 0) (ja_cons j_int ja_nil)))))
      (jss_cons (js_set (i := 3) sc__law_book.nd rfl (by first | exact Or.inl rfl | exact Or.inr rfl) (j_add j_int (j_cal c__law_take (hr.mono (by decide)) rfl (ja_cons (jv 0) (ja_cons (j_ix (j_lst (ja_cons j_int (ja_cons j_int (ja_cons j_int (ja_cons (j_pow j_int j_int) ja_nil))))) (j_cal c__law_take (hr.mono (by decide)) rfl (ja_cons (jv 0) (ja_cons j_int ja_nil)))) ja_nil)))))
      (jss_cons (js_set (i := 4) sc__law_book.nd rfl (by first | exact Or.inl rfl | exact Or.inr rfl) (j_ix (j_lst (ja_cons j_int (ja_cons (j_neg j_int) (ja_cons (j_neg (j_pow j_int j_int)) (ja_cons (j_sub (j_pow j_int j_int) (j_mul j_int (jv 3))) ja_nil))))) (j_cal c__law_take (hr.mono (by decide)) rfl (ja_cons (jv 0) (ja_cons j_int ja_nil)))))
      (jss_cons (js_set (i := 5) sc__law_book.nd rfl (by first | exact Or.inl rfl | exact Or.inr rfl) (j_lstO ja_nil))
      (jss_cons (js_for PassesOwn.never rfl (ji_range1 rfl b_range (ja_cons (j_cal c__law_take (hr.mono (by decide)) rfl (ja_cons (jv 0) (ja_cons (j_add (jv 1) j_int) ja_nil))) ja_nil)) (jg_name (i := 6) sc__law_book.nd rfl (by first | exact Or.inl rfl | exact Or.inr rfl))
      (jss_cons (js_set (i := 7) sc__law_book.nd rfl (by first | exact Or.inl rfl | exact Or.inr rfl) (j_cal c__law_take (hr.mono (by decide)) rfl (ja_cons (jv 0) (ja_cons (jv 2) ja_nil))))
      (jss_cons (js_set (i := 8) sc__law_book.nd rfl (by first | exact Or.inl rfl | exact Or.inr rfl) (j_add (j_add (jv 7) j_int) (j_cal c__law_take (hr.mono (by decide)) rfl (ja_cons (jv 0) (ja_cons (jv 2) ja_nil)))))
      (jss_cons (js_set (i := 9) sc__law_book.nd rfl (by first | exact Or.inl rfl | exact Or.inr rfl) (j_cal c__law_take (hr.mono (by decide)) rfl (ja_cons (jv 0) (ja_cons (j_ix (j_lst (ja_cons j_int (ja_cons j_int (ja_cons j_int (ja_cons (j_add (j_pow j_int j_int) j_int) ja_nil))))) (j_cal c__law_take (hr.mono (by decide)) rfl (ja_cons (jv 0) (ja_cons j_int ja_nil)))) ja_nil))))
      (jss_cons (js_set (i := 10) sc__law_book.nd rfl (by first | exact Or.inl rfl | exact Or.inr rfl) (j_tup (ja_cons (j_add (jv 4) (j_mul (jv 3) (jv 7))) (ja_cons (j_add (jv 4) (j_mul (jv 3) (jv 8))) ja_nil))))
      (jss_cons (js_if (JW.jt (jw_and (jt_cmp op_gt lo_gt (jv 6) j_int (nomark _)) (jw_and1 (jt_cmp (op_eqD hu) lo_eq (j_cal c__law_take (hr.mono (by decide)) rfl (ja_cons (jv 0) (ja_cons j_int ja_nil))) j_int (nomark _))))) (jss_one (js_set (i := 10) sc__law_book.nd rfl (by first | exact Or.inl rfl | exact Or.inr rfl) (j_slT (j_ix (jv 5) (j_neg j_int)) (jo_some j_int) (jo_some j_int)))) jss_nil)
      (jss_one (js_expr (j_bm PySem.F.plainAttrs_list PySem.F.slot_list_append PySem.F.type_list_append mt_append lm_app (jv 5) (ja_cons (j_tup (ja_cons (j_cal c__law_name (hr.mono (by decide)) rfl (ja_cons (jv 0) (ja_cons (jv 6) ja_nil))) (ja_cons (j_ix (jv 10) j_int) (ja_cons (j_ix (jv 10) j_int) (ja_cons (jv 9) ja_nil))))) ja_nil))))))))))
      (jss_one (js_ret (jv 5))))))))
theorem ok__law_text (Df_ : Df K mg "_law_text" s__law_text) (b_str : mg "str" = none) : Cal P w K mg base 1 "_law_text" ["_law_book_here"] (F__law_textD) := by
  refine cal_ok (N := ["_law_book_here", "_law_rows", "_law_one"]) (es := r__law_textD) Df_ sc__law_text (fun _ _ _ _ _ _ us hl => match us, hl with | [_], _ => rfl) (fun f cdv A outer s H E hr => ?_) d__law_textD
  exact (jss_cons (js_set (i := 1) sc__law_text.nd rfl (by first | exact Or.inl rfl | exact Or.inr rfl) (j_lstO ja_nil))
      (jss_cons (js_for PassesOwn.never rfl (ji_list (jv 0)) (jg_name (i := 2) sc__law_text.nd rfl (by first | exact Or.inl rfl | exact Or.inr rfl))
      (jss_one (js_expr (j_bm PySem.F.plainAttrs_list PySem.F.slot_list_append PySem.F.type_list_append mt_append lm_app (jv 1) (ja_cons (j_m1 PySem.F.slot_str_join PySem.F.type_str_join mt_join lm_join j_str (j_lst (ja_cons j_str (ja_cons (j_ix (jv 2) j_int) (ja_cons (j_ct call_str_int lc_strI rfl b_str (by decide +kernel) (ja_cons (j_ix (jv 2) j_int) ja_nil)) (ja_cons (j_ct call_str_int lc_strI rfl b_str (by decide +kernel) (ja_cons (j_ix (jv 2) j_int) ja_nil)) (ja_cons (j_ct call_str_int lc_strI rfl b_str (by decide +kernel) (ja_cons (j_ix (jv 2) j_int) ja_nil)) ja_nil))))))) ja_nil)))))
      (jss_one (js_ret (j_m1 PySem.F.slot_str_join PySem.F.type_str_join mt_join lm_join j_str (jv 1))))))
theorem ok__law_bad_text (Df_ : Df K mg "_law_bad_text" s__law_bad_text) (b_str : mg "str" = none) (b_len : mg "len" = none) (c__law_take : Cal P w K mg base 1 "_law_take" ["_law_state", "_law_many"] F__law_take) : Cal P w K mg base 2 "_law_bad_text" ["_law_state", "_law_book_here"] (F__law_bad_text) := by
  refine cal_ok (N := ["_law_state", "_law_book_here", "_law_rows", "_law_at", "_law_some", "_law_one"]) (es := r__law_bad_text) Df_ sc__law_bad_text (fun _ _ _ _ _ _ us hl => match us, hl with | [_, _], _ => rfl) (fun f cdv A outer s H E hr => ?_) d__law_bad_text
  have hu := hr.units
  exact (jss_cons (js_setLc (i := 2) (own := [("_law_one", 5)]) rfl sc__law_bad_text.nd rfl rfl (sw_true rfl rfl rfl (by decide +kernel)) (ji_list (jv 1)) (blkOk_by (own := [("_law_one", 5)]) (N := ["_law_state", "_law_book_here", "_law_rows", "_law_at", "_law_some", "_law_one"]) (sc := defScope s__law_bad_text) (by decide +kernel)) (fun _ _ _ _ _ => (jg_name (i := 5) sc__law_bad_text.nd rfl (by first | exact Or.inl rfl | exact Or.inr rfl))) (fun _ _ _ _ _ => jts_nil) (fun _ _ _ _ _ => (j_m1 PySem.F.slot_str_join PySem.F.type_str_join mt_join lm_join j_str (j_lst (ja_cons j_str (ja_cons (j_ix (jv 5) j_int) (ja_cons (j_ct call_str_int lc_strI rfl b_str (by decide +kernel) (ja_cons (j_ix (jv 5) j_int) ja_nil)) (ja_cons (j_ct call_str_int lc_strI rfl b_str (by decide +kernel) (ja_cons (j_ix (jv 5) j_int) ja_nil)) (ja_cons (j_ct call_str_int lc_strI rfl b_str (by decide +kernel) (ja_cons (j_ix (jv 5) j_int) ja_nil)) ja_nil)))))))))
      (jss_cons (js_set (i := 3) sc__law_bad_text.nd rfl (by first | exact Or.inl rfl | exact Or.inr rfl) (j_cal c__law_take (hr.mono (by decide)) rfl (ja_cons (jv 0) (ja_cons (j_add (j_cb call_len lc_len rfl b_len PySem.boot_len (ja_cons (jv 2) ja_nil)) j_int) ja_nil))))
      (jss_cons (js_set (i := 4) sc__law_bad_text.nd rfl (by first | exact Or.inl rfl | exact Or.inr rfl) (j_lst (ja_cons j_str (ja_cons j_str (ja_cons j_str (ja_cons j_str (ja_cons j_str (ja_cons j_str ja_nil))))))))
      (jss_cons (js_set (i := 4) sc__law_bad_text.nd rfl (by first | exact Or.inl rfl | exact Or.inr rfl) (j_add (jv 4) (j_lst (ja_cons j_str (ja_cons j_str (ja_cons j_str (ja_cons j_str (ja_cons j_str ja_nil))))))))
      (jss_cons (js_set (i := 4) sc__law_bad_text.nd rfl (by first | exact Or.inl rfl | exact Or.inr rfl) (j_add (jv 4) (j_lst (ja_cons j_str (ja_cons (j_add j_str (j_repS j_str j_int)) (ja_cons (j_add (j_add j_str (j_repS j_str j_int)) j_str) ja_nil))))))
      (jss_cons (js_set (i := 4) sc__law_bad_text.nd rfl (by first | exact Or.inl rfl | exact Or.inr rfl) (j_add (jv 4) (j_lst (ja_cons j_str (ja_cons j_str (ja_cons j_str (ja_cons j_str ja_nil)))))))
      (jss_cons (js_if (JW.jt (jw_and (jt_cmp (op_eqD hu) lo_eq (jv 2) (j_lst ja_nil) (nomark _)) (jw_and1 (jt_cmp (op_eqD hu) lo_eq (j_ix (jv 4) j_int) j_str (nomark _))))) (jss_one (js_set (i := 4) sc__law_bad_text.nd rfl (by first | exact Or.inl rfl | exact Or.inr rfl) (j_slL (jv 4) (jo_some j_int) jo_none))) jss_nil)
      (jss_one (js_ret (j_m1 PySem.F.slot_str_join PySem.F.type_str_join mt_join lm_join j_str (j_add (j_add (j_slL (jv 2) jo_none (jo_some (jv 3))) (j_lst (ja_cons (j_ix (jv 4) (j_cal c__law_take (hr.mono (by decide)) rfl (ja_cons (jv 0) (ja_cons (j_cb call_len lc_len rfl b_len PySem.boot_len (ja_cons (jv 4) ja_nil)) ja_nil)))) ja_nil))) (j_slL (jv 2) (jo_some (jv 3)) jo_none))))))))))))
theorem ok__law_done (Df_ : Df K mg "_law_done" s__law_done) (b_len : mg "len" = none) (b_sorted : mg "sorted" = none) (c__law_take : Cal P w K mg base 1 "_law_take" ["_law_state", "_law_many"] F__law_take) (c__law_book : Cal P w K mg base 3 "_law_book" ["_law_state", "_law_most"] F__law_book) (c__law_text : Cal P w K mg base 1 "_law_text" ["_law_book_here"] F__law_textD) (c__law_bad_text : Cal P w K mg base 2 "_law_bad_text" ["_law_state", "_law_book_here"] F__law_bad_text) : Cal P w K mg base 4 "_law_done" ["_law_kept", "_law_names", "_law_state"] (F__law_doneS) := by
  refine cal_ok (N := ["_law_kept", "_law_names", "_law_state", "_law_way", "_law_name_here", "_law_book_here", "_law_row"]) (es := r__law_doneS) Df_ sc__law_done (fun _ _ _ _ _ _ us hl => match us, hl with | [_, _, _], _ => rfl) (fun f cdv A outer s H E hr => ?_) d__law_doneS
  have hu := hr.units
  have hu1 := DL.hu_of hr
  exact (jss_cons (js_set (i := 3) sc__law_done.nd rfl (by first | exact Or.inl rfl | exact Or.inr rfl) (j_cal c__law_take (hr.mono (by decide)) rfl (ja_cons (jv 2) (ja_cons j_int ja_nil))))
      (jss_cons (js_set (i := 4) sc__law_done.nd rfl (by first | exact Or.inl rfl | exact Or.inr rfl) (j_ix (jv 1) (j_cal c__law_take (hr.mono (by decide)) rfl (ja_cons (jv 2) (ja_cons (j_cb call_len lc_len rfl b_len PySem.boot_len (ja_cons (jv 1) ja_nil)) ja_nil)))))
      (jss_cons (js_if (jt_cmp op_lt lo_lt (jv 3) j_int (nomark _)) (jss_cons (js_set (i := 5) sc__law_done.nd rfl (by first | exact Or.inl rfl | exact Or.inr rfl) (j_cal c__law_book (hr.mono (by decide)) rfl (ja_cons (jv 2) (ja_cons j_int ja_nil))))
      (jss_one (js_ret (j_tup (ja_cons (j_add (j_add (j_add j_str (jv 4)) j_str) (j_cal c__law_text (hr.mono (by decide)) rfl (ja_cons (jv 5) ja_nil))) (ja_cons j_str (ja_cons (jv 4) (ja_cons (jv 5) ja_nil)))))))) jss_nil)
      (jss_cons (js_if (jt_cmp (op_eqD hu) lo_eq (jv 3) j_int (nomark _)) (jss_cons (js_set (i := 6) sc__law_done.nd rfl (by first | exact Or.inl rfl | exact Or.inr rfl) (j_add (j_add (j_add j_str (jv 4)) j_str) (j_cal c__law_bad_text (hr.mono (by decide)) rfl (ja_cons (jv 2) (ja_cons (j_cal c__law_book (hr.mono (by decide)) rfl (ja_cons (jv 2) (ja_cons j_int ja_nil))) ja_nil)))))
      (jss_one (js_ret (j_tup (ja_cons (jv 6) (ja_cons (j_lst (ja_cons j_str ja_nil)) (ja_cons j_non (ja_cons j_non ja_nil)))))))) jss_nil)
      (jss_cons (js_if (jt_cmp (op_eqD hu) lo_eq (jv 3) j_int (nomark _)) (jss_one (js_ret (j_tup (ja_cons j_str (ja_cons (j_or (j_m1 PySem.F.slot_str_join PySem.F.type_str_join mt_join lm_join j_str (j_cb (call_sortedD rfl) lc_sortedDS rfl b_sorted (by decide +kernel) (ja_cons (jv 0) ja_nil))) (j_one j_str)) (ja_cons j_non (ja_cons j_non ja_nil))))))) jss_nil)
      (jss_cons (js_if (jt_dnotin hu1 (jv 4) (jv 0)) (jss_one (js_ret (j_tup (ja_cons (j_add (j_ix (j_lst (ja_cons j_str (ja_cons j_str ja_nil))) (j_mod (jv 3) j_int)) (jv 4)) (ja_cons (j_lst (ja_cons j_str ja_nil)) (ja_cons j_non (ja_cons j_non ja_nil))))))) jss_nil)
      (jss_cons (js_if (jt_cmp (op_eqD hu) lo_eq (jv 3) j_int (nomark _)) (jss_one (js_ret (j_tup (ja_cons (j_add j_str (jv 4)) (ja_cons j_str (ja_cons (jv 4) (ja_cons j_non ja_nil))))))) jss_nil)
      (jss_one (js_ret (j_tup (ja_cons (j_add j_str (jv 4)) (ja_cons (j_cal c__law_text (hr.mono (by decide)) rfl (ja_cons (j_dget hu1 (jv 0) (jv 4)) ja_nil)) (ja_cons j_non (ja_cons j_non ja_nil))))))))))))))
theorem ok_split_text (Df_ : Df K mg "split_text" s_split_text) (b_range : mg "range" = none) (xt_NoRow : XtK K mg "NoRow") : CalQ P w K mg base 1 "split_text" ["row", "many"] (F_split_text) := by
  refine calQT_ok (N := ["row", "many", "words", "left", "k", "word", "blank"]) (es := r_split_text) Df_ sc_split_text (fun _ _ _ _ _ _ us hl => match us, hl with | [_, _], _ => rfl) (fun f cdv A outer s H E hr tk po => ?_) d_split_text
  have hu := hr.units
  exact (jsst_cons (JST.of (js_set (i := 2) sc_split_text.nd rfl (by first | exact Or.inl rfl | exact Or.inr rfl) (j_lstO ja_nil)))
      (jsst_cons (JST.of (js_set (i := 3) sc_split_text.nd rfl (by first | exact Or.inl rfl | exact Or.inr rfl) (jv 0)))
      (jsst_cons (JST.of (js_for po rfl (ji_range1 rfl b_range (ja_cons (jv 1) ja_nil)) (jg_name (i := 4) sc_split_text.nd rfl (by first | exact Or.inl rfl | exact Or.inr rfl))
      (jss_cons (js_asgTup (j_m1 PySem.F.slot_str_partition PySem.F.type_str_partition mt_partition lm_part (jv 3) j_str) (jg_tup rfl (jgs_cons (jg_name (i := 5) sc_split_text.nd rfl (by first | exact Or.inl rfl | exact Or.inr rfl)) (jgs_cons (jg_name (i := 6) sc_split_text.nd rfl (by first | exact Or.inl rfl | exact Or.inr rfl)) (jgs_cons (jg_name (i := 3) sc_split_text.nd rfl (by first | exact Or.inl rfl | exact Or.inr rfl)) jgs_nil)))))
      (jss_cons (js_if (jt_cmp (op_eqD hu) lo_eq (jv 6) j_str (nomark _)) (jss_one (js_raiseTN (L2Q.Takes.n tk) xt_NoRow rfl rfl)) jss_nil)
      (jss_one (js_expr (j_bm PySem.F.plainAttrs_list PySem.F.slot_list_append PySem.F.type_list_append mt_append lm_app (jv 2) (ja_cons (jv 5) ja_nil))))))))
      (jsst_one (jst_ret (jet_tup (jat_cons (JET.of (jv 2)) (jat_cons (jet_repl (jv 3)) jat_nil))))))))
theorem ok_is_name (Df_ : Df K mg "is_name" s_is_name) (b_isinstance : mg "isinstance" = none) (b_str : mg "str" = none) (b_len : mg "len" = none) (b_all : mg "all" = none) (z_LONGEST : ∃ t, mg "LONGEST" = some (.int 8 t)) (z_LETTERS : ∃ t, mg "LETTERS" = some (.str "abcdefghijklmnopqrstuvwxyz" t)) : Cal P w K mg base 1 "is_name" ["thing"] (F_is_name) := by
  refine cal_ok (N := ["thing", "sign"]) (es := r_is_name) Df_ sc_is_name (fun _ _ _ _ _ _ us hl => match us, hl with | [_], _ => rfl) (fun f cdv A outer s H E hr => ?_) d_is_name
  exact (jss_cons (js_if (JW.jt (jw_or (jt_not (jt_tru (j_cb call_isi lc_isi rfl b_isinstance (by decide +kernel) (ja_cons (jv 0) (ja_cons (j_ty rfl b_str (by decide +kernel)) ja_nil))))) (jw_or1 (jt_not (jt_chain op_le lo_le op_le lo_le j_int (j_cb call_len lc_len rfl b_len PySem.boot_len (ja_cons (jv 0) ja_nil)) (j_gint rfl z_LONGEST)))))) (jss_one (js_ret j_bl)) jss_nil)
      (jss_one (js_ret (j_cb (cr_all rfl) lc_all rfl b_all (by decide +kernel) (ja_cons (j_lc (own := [("sign", 1)]) rfl sc_is_name.nd (ji_str (jv 0)) (blkOk_by (own := [("sign", 1)]) (N := ["thing", "sign"]) (sc := defScope s_is_name) (by decide +kernel)) (fun _ _ _ _ _ => (jg_name (i := 1) sc_is_name.nd rfl (by first | exact Or.inl rfl | exact Or.inr rfl))) (fun _ _ _ _ _ => jts_nil) (fun _ _ _ _ _ => (j_cmp op_in_sign lo_inS (jv 1) (j_gstr rfl z_LETTERS) rfl))) ja_nil)))))
theorem ok_rows_of (Df_ : Df K mg "rows_of" s_rows_of) (b_isinstance : mg "isinstance" = none) (b_str : mg "str" = none) (ox_NoText : OxK P w K mg base "NoText" "row") : CalQ P w K mg base 3 "rows_of" ["text"] (F_rows_of) := by
  refine calQ_ok (N := ["text", "row"]) (es := r_rows_of) Df_ sc_rows_of (fun _ _ _ _ _ _ us hl => match us, hl with | [_], _ => rfl) (fun f cdv A outer s H E hr tk po => ?_) d_rows_of
  have hu := hr.units
  exact (jss_cons (js_if (jt_not (jt_tru (j_cb call_isi lc_isi rfl b_isinstance (by decide +kernel) (ja_cons (jv 0) (ja_cons (j_ty rfl b_str (by decide +kernel)) ja_nil))))) (jss_one (js_raiseFN (L2Q.Takes.n tk) ox_NoText hr (by decide) rfl rfl j_int)) jss_nil)
      (jss_cons (js_if (jt_cmp (op_eqD hu) lo_eq (jv 0) j_str (nomark _)) (jss_one (js_ret (j_lst ja_nil))) jss_nil)
      (jss_one (js_ret (j_lc (own := [("row", 1)]) rfl sc_rows_of.nd (ji_list (j_m1 PySem.F.slot_str_split PySem.F.type_str_split mt_split lm_split (jv 0) j_str)) (blkOk_by (own := [("row", 1)]) (N := ["text", "row"]) (sc := defScope s_rows_of) (by decide +kernel)) (fun _ _ _ _ _ => (jg_name (i := 1) sc_rows_of.nd rfl (by first | exact Or.inl rfl | exact Or.inr rfl))) (fun _ _ _ _ _ => jts_nil) (fun _ _ _ _ _ => (j_m1 PySem.F.slot_str_split PySem.F.type_str_split mt_split lm_split (jv 1) j_str)))))))
theorem ok_number_of_reader (Df_ : DfA K mg "number_of_reader" "number_of" s_number_of_reader) (b_all : mg "all" = none) (b_int : mg "int" = none) (z_FIGURES_reader : ∃ t, mg "FIGURES_reader" = some (.str "0123456789" t)) : Cal P w K mg base 1 "number_of_reader" ["word"] (F_number_of) := by
  refine calA_ok (N := ["word", "figures", "sign"]) (es := r_number_of) Df_ sc_number_of_reader (fun _ _ _ _ _ _ us hl => match us, hl with | [_], _ => rfl) (fun f cdv A outer s H E hr => ?_) d_number_of
  have hu := hr.units
  exact (jss_cons (js_set (i := 1) sc_number_of_reader.nd rfl (by first | exact Or.inl rfl | exact Or.inr rfl) (jv 0))
      (jss_cons (js_if (jt_cmp (op_eqD hu) lo_eq (j_slS (jv 0) jo_none (jo_some j_int)) j_str (nomark _)) (jss_one (js_set (i := 1) sc_number_of_reader.nd rfl (by first | exact Or.inl rfl | exact Or.inr rfl) (j_slS (jv 0) (jo_some j_int) jo_none))) jss_nil)
      (jss_cons (js_if (JW.jt (jw_or (jt_cmp (op_eqD hu) lo_eq (jv 1) j_str (nomark _)) (jw_or1 (jt_not (jt_tru (j_cb (cr_all rfl) lc_all rfl b_all (by decide +kernel) (ja_cons (j_lc (own := [("sign", 2)]) rfl sc_number_of_reader.nd (ji_str (jv 1)) (blkOk_by (own := [("sign", 2)]) (N := ["word", "figures", "sign"]) (sc := defScope s_number_of_reader) (by decide +kernel)) (fun _ _ _ _ _ => (jg_name (i := 2) sc_number_of_reader.nd rfl (by first | exact Or.inl rfl | exact Or.inr rfl))) (fun _ _ _ _ _ => jts_nil) (fun _ _ _ _ _ => (j_cmp op_in_sign lo_inS (jv 2) (j_gstr rfl z_FIGURES_reader) rfl))) ja_nil))))))) (jss_one (js_ret j_non)) jss_nil)
      (jss_cons (js_if (JW.jt (jw_and (jt_cmp (op_eqD hu) lo_eq (j_ix (jv 1) j_int) j_str (nomark _)) (jw_and1 (jt_cmp (op_neD hu) lo_ne (jv 0) j_str (nomark _))))) (jss_one (js_ret j_non)) jss_nil)
      (jss_one (js_ret (j_ct call_int_str lc_intS rfl b_int (by decide +kernel) (ja_cons (jv 0) ja_nil))))))))
theorem ok_is_whole (Df_ : Df K mg "is_whole" s_is_whole) (b_isinstance : mg "isinstance" = none) (b_int : mg "int" = none) (b_bool : mg "bool" = none) : Cal P w K mg base 1 "is_whole" ["thing"] (F_is_whole) := by
  refine cal_ok (N := ["thing"]) (es := r_is_whole) Df_ sc_is_whole (fun _ _ _ _ _ _ us hl => match us, hl with | [_], _ => rfl) (fun f cdv A outer s H E hr => ?_) d_is_whole
  exact (jss_one (js_ret (j_and (j_cb call_isi lc_isi rfl b_isinstance (by decide +kernel) (ja_cons (jv 0) (ja_cons (j_ty rfl b_int (by decide +kernel)) ja_nil))) (j_one (j_not (j_cb call_isi lc_isi rfl b_isinstance (by decide +kernel) (ja_cons (jv 0) (ja_cons (j_ty rfl b_bool (by decide +kernel)) ja_nil))))))))
theorem ok_is_stretch (Df_ : Df K mg "is_stretch" s_is_stretch) (b_isinstance : mg "isinstance" = none) (b_tuple : mg "tuple" = none) (b_len : mg "len" = none) (b_all : mg "all" = none) (z_FARTHEST_books : ∃ t, mg "FARTHEST_books" = some (.int 1000000000000 t)) (z_GREATEST_WORTH : ∃ t, mg "GREATEST_WORTH" = some (.int 1000000000000 t)) (c_is_name : Cal P w K mg base 1 "is_name" ["thing"] F_is_name) (c_is_whole : Cal P w K mg base 1 "is_whole" ["thing"] F_is_whole) : Cal P w K mg base 2 "is_stretch" ["thing"] (F_is_stretch) := by
  refine cal_ok (N := ["thing", "begin", "end", "worth", "number"]) (es := r_is_stretch) Df_ sc_is_stretch (fun _ _ _ _ _ _ us hl => match us, hl with | [_], _ => rfl) (fun f cdv A outer s H E hr => ?_) d_is_stretch
  have hu := hr.units
  exact (jss_cons (js_if (JW.jt (jw_or (jt_not (jt_tru (j_cb call_isi lc_isi rfl b_isinstance (by decide +kernel) (ja_cons (jv 0) (ja_cons (j_ty rfl b_tuple (by decide +kernel)) ja_nil))))) (jw_or (jt_cmp (op_neD hu) lo_ne (j_cb call_len lc_len rfl b_len PySem.boot_len (ja_cons (jv 0) ja_nil)) j_int (nomark _)) (jw_or1 (jt_not (jt_tru (j_cal c_is_name (hr.mono (by decide)) rfl (ja_cons (j_ix (jv 0) j_int) ja_nil)))))))) (jss_one (js_ret j_bl)) jss_nil)
      (jss_cons (js_if (jt_not (jt_tru (j_cb (cr_all rfl) lc_all rfl b_all (by decide +kernel) (ja_cons (j_lc (own := [("number", 4)]) rfl sc_is_stretch.nd (ji_tup (j_slT (jv 0) (jo_some j_int) jo_none)) (blkOk_by (own := [("number", 4)]) (N := ["thing", "begin", "end", "worth", "number"]) (sc := defScope s_is_stretch) (by decide +kernel)) (fun _ _ _ _ _ => (jg_name (i := 4) sc_is_stretch.nd rfl (by first | exact Or.inl rfl | exact Or.inr rfl))) (fun _ _ _ _ _ => jts_nil) (fun _ _ _ _ _ => (j_cal c_is_whole (hr.mono (by decide)) rfl (ja_cons (jv 4) ja_nil)))) ja_nil)))) (jss_one (js_ret j_bl)) jss_nil)
      (jss_cons (js_asgTup (j_slT (jv 0) (jo_some j_int) jo_none) (jg_tup rfl (jgs_cons (jg_name (i := 1) sc_is_stretch.nd rfl (by first | exact Or.inl rfl | exact Or.inr rfl)) (jgs_cons (jg_name (i := 2) sc_is_stretch.nd rfl (by first | exact Or.inl rfl | exact Or.inr rfl)) (jgs_cons (jg_name (i := 3) sc_is_stretch.nd rfl (by first | exact Or.inl rfl | exact Or.inr rfl)) jgs_nil)))))
      (jss_one (js_ret (j_and (j_chain3 op_le lo_le op_lt lo_lt op_le lo_le (j_sub j_int (j_gint rfl z_FARTHEST_books)) (jv 1) (jv 2) (j_gint rfl z_FARTHEST_books)) (j_one (j_chain op_le lo_le op_le lo_le j_int (jv 3) (j_gint rfl z_GREATEST_WORTH)))))))))
theorem ok_read_book (Df_ : Df K mg "read_book" s_read_book) (b_enumerate : mg "enumerate" = none) (b_len : mg "len" = none) (z_MOST_STRETCHES : ∃ t, mg "MOST_STRETCHES" = some (.int 24 t)) (c_rows_of : CalQ P w K mg base 3 "rows_of" ["text"] F_rows_of) (c_number_of_reader : Cal P w K mg base 1 "number_of_reader" ["word"] F_number_of) (c_is_stretch : Cal P w K mg base 2 "is_stretch" ["thing"] F_is_stretch) (ox_NoText : OxK P w K mg base "NoText" "row") : CalQ P w K mg base 4 "read_book" ["text"] (F_read_book) := by
  refine calQ_ok (N := ["text", "book", "names", "row", "words", "stretch"]) (es := r_read_book) Df_ sc_read_book (fun _ _ _ _ _ _ us hl => match us, hl with | [_], _ => rfl) (fun f cdv A outer s H E hr tk po => ?_) d_read_book
  have hu := hr.units
  have hu1 := DL.hu_of hr
  exact (jss_cons (js_set (i := 1) sc_read_book.nd rfl (by first | exact Or.inl rfl | exact Or.inr rfl) (j_lstO ja_nil))
      (jss_cons (js_set (i := 2) sc_read_book.nd rfl (by first | exact Or.inl rfl | exact Or.inr rfl) j_dnewO)
      (jss_cons (js_forX po rfl (ji_enumX rfl b_enumerate (jax_cons (jq_cal c_rows_of (hr.mono (by decide)) tk rfl (jax_of (ja_cons (jv 0) ja_nil))) (jax_of ja_nil))) (jg_tup rfl (jgs_cons (jg_name (i := 3) sc_read_book.nd rfl (by first | exact Or.inl rfl | exact Or.inr rfl)) (jgs_cons (jg_name (i := 4) sc_read_book.nd rfl (by first | exact Or.inl rfl | exact Or.inr rfl)) jgs_nil)))
      (jss_cons (js_if (JW.jt (jw_or (jt_cmp (op_neD hu) lo_ne (j_cb call_len lc_len rfl b_len PySem.boot_len (ja_cons (jv 4) ja_nil)) j_int (nomark _)) (jw_or (jt_cmp (op_neD hu) lo_ne (j_ix (jv 4) j_int) j_str (nomark _)) (jw_or1 (jt_cmp (op_eqD hu) lo_eq (j_cb call_len lc_len rfl b_len PySem.boot_len (ja_cons (jv 1) ja_nil)) (j_gint rfl z_MOST_STRETCHES) (nomark _)))))) (jss_one (js_raiseFN (L2Q.Takes.n tk) ox_NoText hr (by decide) rfl rfl (jv 3))) jss_nil)
      (jss_cons (js_set (i := 5) sc_read_book.nd rfl (by first | exact Or.inl rfl | exact Or.inr rfl) (j_tup (ja_cons (j_ix (jv 4) j_int) (ja_cons (j_cal c_number_of_reader (hr.mono (by decide)) rfl (ja_cons (j_ix (jv 4) j_int) ja_nil)) (ja_cons (j_cal c_number_of_reader (hr.mono (by decide)) rfl (ja_cons (j_ix (jv 4) j_int) ja_nil)) (ja_cons (j_cal c_number_of_reader (hr.mono (by decide)) rfl (ja_cons (j_ix (jv 4) j_int) ja_nil)) ja_nil))))))
      (jss_cons (js_if (JW.jt (jw_or (jt_not (jt_tru (j_cal c_is_stretch (hr.mono (by decide)) rfl (ja_cons (jv 5) ja_nil)))) (jw_or1 (jt_din hu1 (j_ix (jv 5) j_int) (jv 2))))) (jss_one (js_raiseFN (L2Q.Takes.n tk) ox_NoText hr (by decide) rfl rfl (jv 3))) jss_nil)
      (jss_cons (js_putD hu1 j_bl (jv 2) (j_ix (jv 5) j_int))
      (jss_one (js_expr (j_bm PySem.F.plainAttrs_list PySem.F.slot_list_append PySem.F.type_list_append mt_append lm_app (jv 1) (ja_cons (jv 5) ja_nil)))))))))
      (jss_one (js_ret (jv 1))))))
theorem ok_Desk_takes (Df_ : DfM K "Desk" "takes" "Desk.takes" s_Desk_takes) (b_len : mg "len" = none) (z_MOST_BOOKS : ∃ t, mg "MOST_BOOKS" = some (.int 40 t)) (kc_Desk : Cls K (He.ga K "Desk")) (kn_Desk_kept : NoAttr K (He.ga K "Desk") "kept") (c_split_text : CalQ P w K mg base 1 "split_text" ["row", "many"] F_split_text) (c_is_name : Cal P w K mg base 1 "is_name" ["thing"] F_is_name) (c_read_book : CalQ P w K mg base 4 "read_book" ["text"] F_read_book) (xt_NoRow : XtK K mg "NoRow") (xt_TooMany : XtK K mg "TooMany") : ∃ fd, FnOk P w K mg base (L2Q.CX P w) 5 (He.ma K (He.ga K "Desk") "takes") fd ["self", "row"] (LfX K ["self", "row"].length (F_Desk_takes)) ∧ Binds K fd ["self", "row"] [] := by
  refine fk_methQ (N := ["self", "row", "words", "text", "book"]) (es := r_Desk_takes) Df_ sc_Desk_takes (fun _ _ _ _ _ _ us hl => match us, hl with | [_, _], _ => rfl) (fun f cdv A outer s H E hr tk po => ?_) d_Desk_takes
  have hu := hr.units
  have hu1 := DL.hu_of hr
  exact (jss_cons (js_asgTup (j_cal (calQ_never c_split_text) (hr.mono (by decide)) rfl (ja_cons (jv 1) (ja_cons j_int ja_nil))) (jg_tup rfl (jgs_cons (jg_name (i := 2) sc_Desk_takes.nd rfl (by first | exact Or.inl rfl | exact Or.inr rfl)) (jgs_cons (jg_name (i := 3) sc_Desk_takes.nd rfl (by first | exact Or.inl rfl | exact Or.inr rfl)) jgs_nil))))
      (jss_cons (js_if (jt_not (jt_tru (j_cal c_is_name (hr.mono (by decide)) rfl (ja_cons (j_ix (jv 2) j_int) ja_nil)))) (jss_one (js_raiseTN (L2Q.Takes.n tk) xt_NoRow rfl rfl)) jss_nil)
      (jss_fz1 (js_setX (i := 4) sc_Desk_takes.nd rfl (by first | exact Or.inl rfl | exact Or.inr rfl) (jq_cal c_read_book (hr.mono (by decide)) tk rfl (jax_of (ja_cons (jv 3) ja_nil))))
      (jss_cons (js_if (JW.jt (jw_and (jt_dnotin hu1 (j_ix (jv 2) j_int) (j_fld kc_Desk kn_Desk_kept (jv 0))) (jw_and1 (jt_cmp (op_eqD hu) lo_eq (j_cb call_lenDK lc_lenD rfl b_len (by decide +kernel) (ja_cons (j_fld kc_Desk kn_Desk_kept (jv 0)) ja_nil)) (j_gint rfl z_MOST_BOOKS) (nomark _))))) (jss_one (js_raiseTN (L2Q.Takes.n tk) xt_TooMany rfl rfl)) jss_nil)
      (jss_cons (js_putD hu1 (jv 4) (j_fld kc_Desk kn_Desk_kept (jv 0)) (j_ix (jv 2) j_int))
      (jss_one (js_ret j_str)))))))
theorem ok_is_number (Df_ : Df K mg "is_number" s_is_number) (b_len : mg "len" = none) (b_all : mg "all" = none) (z_MOST_FIGURES : ∃ t, mg "MOST_FIGURES" = some (.int 14 t)) (z_FIGURES_desk : ∃ t, mg "FIGURES_desk" = some (.str "0123456789" t)) : Cal P w K mg base 1 "is_number" ["word"] (F_is_number) := by
  refine cal_ok (N := ["word", "figures", "sign"]) (es := r_is_number) Df_ sc_is_number (fun _ _ _ _ _ _ us hl => match us, hl with | [_], _ => rfl) (fun f cdv A outer s H E hr => ?_) d_is_number
  have hu := hr.units
  exact (jss_cons (js_set (i := 1) sc_is_number.nd rfl (by first | exact Or.inl rfl | exact Or.inr rfl) (jv 0))
      (jss_cons (js_if (jt_tru (j_m1 PySem.F.slot_str_startswith PySem.F.type_str_startswith mt_startswith lm_starts (jv 0) j_str)) (jss_one (js_set (i := 1) sc_is_number.nd rfl (by first | exact Or.inl rfl | exact Or.inr rfl) (j_slS (jv 0) (jo_some j_int) jo_none))) jss_nil)
      (jss_cons (js_if (JW.jt (jw_or (jt_cmp (op_eqD hu) lo_eq (jv 1) j_str (nomark _)) (jw_or (jt_cmp op_gt lo_gt (j_cb call_len lc_len rfl b_len PySem.boot_len (ja_cons (jv 1) ja_nil)) (j_gint rfl z_MOST_FIGURES) (nomark _)) (jw_or1 (jt_not (jt_tru (j_cb (cr_all rfl) lc_all rfl b_all (by decide +kernel) (ja_cons (j_lc (own := [("sign", 2)]) rfl sc_is_number.nd (ji_str (jv 1)) (blkOk_by (own := [("sign", 2)]) (N := ["word", "figures", "sign"]) (sc := defScope s_is_number) (by decide +kernel)) (fun _ _ _ _ _ => (jg_name (i := 2) sc_is_number.nd rfl (by first | exact Or.inl rfl | exact Or.inr rfl))) (fun _ _ _ _ _ => jts_nil) (fun _ _ _ _ _ => (j_cmp op_in_sign lo_inS (jv 2) (j_gstr rfl z_FIGURES_desk) rfl))) ja_nil)))))))) (jss_one (js_ret j_bl)) jss_nil)
      (jss_one (js_ret (j_or (j_not (j_m1 PySem.F.slot_str_startswith PySem.F.type_str_startswith mt_startswith lm_starts (jv 1) j_str)) (j_one (j_cmp (op_eqD hu) lo_eq (jv 0) j_str (nomark _)))))))))
theorem ok_are_benches (Df_ : Df K mg "are_benches" s_are_benches) (b_int : mg "int" = none) (c_is_number : Cal P w K mg base 1 "is_number" ["word"] F_is_number) : Cal P w K mg base 2 "are_benches" ["word", "many"] (F_are_benchesD) := by
  refine cal_ok (N := ["word", "many"]) (es := r_are_benchesD) Df_ sc_are_benches (fun _ _ _ _ _ _ us hl => match us, hl with | [_, _], _ => rfl) (fun f cdv A outer s H E hr => ?_) d_are_benchesD
  exact (jss_one (js_ret (j_and (j_cal c_is_number (hr.mono (by decide)) rfl (ja_cons (jv 0) ja_nil)) (j_one (j_chain op_le lo_le op_le lo_le j_int (j_ct call_int_str lc_intS rfl b_int (by decide +kernel) (ja_cons (jv 0) ja_nil)) (jv 1))))))
theorem ok_has_form (Df_ : Df K mg "has_form" s_has_form) (z_MOST_BENCHES_desk : ∃ t, mg "MOST_BENCHES_desk" = some (.int 24 t)) (c_is_name : Cal P w K mg base 1 "is_name" ["thing"] F_is_name) (c_is_number : Cal P w K mg base 1 "is_number" ["word"] F_is_number) (c_are_benches : Cal P w K mg base 2 "are_benches" ["word", "many"] F_are_benchesD) : Cal P w K mg base 3 "has_form" ["word", "form"] (F_has_form) := by
  refine cal_ok (N := ["word", "form"]) (es := r_has_form) Df_ sc_has_form (fun _ _ _ _ _ _ us hl => match us, hl with | [_, _], _ => rfl) (fun f cdv A outer s H E hr => ?_) d_has_form
  have hu := hr.units
  exact (jss_cons (js_if (jt_cmp (op_eqD hu) lo_eq (jv 1) j_str (nomark _)) (jss_one (js_ret (j_cal c_is_name (hr.mono (by decide)) rfl (ja_cons (jv 0) ja_nil)))) jss_nil)
      (jss_cons (js_if (jt_cmp (op_eqD hu) lo_eq (jv 1) j_str (nomark _)) (jss_one (js_ret (j_cal c_is_number (hr.mono (by decide)) rfl (ja_cons (jv 0) ja_nil)))) jss_nil)
      (jss_cons (js_if (jt_cmp (op_eqD hu) lo_eq (jv 1) j_str (nomark _)) (jss_one (js_ret (j_cal c_are_benches (hr.mono (by decide)) rfl (ja_cons (jv 0) (ja_cons (j_gint rfl z_MOST_BENCHES_desk) ja_nil))))) jss_nil)
      (jss_one (js_ret (j_cal c_are_benches (hr.mono (by decide)) rfl (ja_cons (jv 0) (ja_cons (j_sub (j_gint rfl z_MOST_BENCHES_desk) j_int) ja_nil))))))))
theorem ok_words_of (Df_ : Df K mg "words_of" s_words_of) (b_len : mg "len" = none) (b_zip : mg "zip" = none) (kt_FORMS : KTOk K w "FORMS" tab_FORMS) (zt_FORMS : mg "FORMS" = some (.ref (He.ga K "FORMS"))) (c_has_form : Cal P w K mg base 3 "has_form" ["word", "form"] F_has_form) (xt_NoRow : XtK K mg "NoRow") : CalQ P w K mg base 4 "words_of" ["row"] (F_words_of) := by
  refine calQ_ok (N := ["row", "words", "forms", "word", "form"]) (es := (r_words_of (ktA K "FORMS"))) Df_ sc_words_of (fun _ _ _ _ _ _ us hl => match us, hl with | [_], _ => rfl) (fun f cdv A outer s H E hr tk po => ?_) (d_words_of (ktA K "FORMS"))
  have hu := hr.units
  exact (jss_cons (js_set (i := 1) sc_words_of.nd rfl (by first | exact Or.inl rfl | exact Or.inr rfl) (j_m1 PySem.F.slot_str_split PySem.F.type_str_split mt_split lm_split (jv 0) j_str))
      (jss_cons (js_set (i := 2) sc_words_of.nd rfl (by first | exact Or.inl rfl | exact Or.inr rfl) (j_kget kt_FORMS zt_FORMS rfl (j_ix (jv 1) j_int)))
      (jss_cons (js_if (JW.jt (jw_or (jt_cmp op_isN lo_isN (jv 2) j_non (nomark _)) (jw_or1 (jt_cmp (op_neD hu) lo_ne (j_cb call_len lc_len rfl b_len PySem.boot_len (ja_cons (jv 1) ja_nil)) (j_add (j_cb call_len (lc_klen kt_FORMS) rfl b_len (by decide +kernel) (ja_cons (jv 2) ja_nil)) j_int) (nomark _))))) (jss_one (js_raiseTN (L2Q.Takes.n tk) xt_NoRow rfl rfl)) jss_nil)
      (jss_cons (js_for po rfl (ji_zipK kt_FORMS rfl b_zip (ja_cons (j_slL (jv 1) (jo_some j_int) jo_none) (ja_cons (jv 2) ja_nil))) (jg_tup rfl (jgs_cons (jg_name (i := 3) sc_words_of.nd rfl (by first | exact Or.inl rfl | exact Or.inr rfl)) (jgs_cons (jg_name (i := 4) sc_words_of.nd rfl (by first | exact Or.inl rfl | exact Or.inr rfl)) jgs_nil)))
      (jss_one (js_if (jt_not (jt_tru (j_cal c_has_form (hr.mono (by decide)) rfl (ja_cons (jv 3) (ja_cons (jv 4) ja_nil))))) (jss_one (js_raiseTN (L2Q.Takes.n tk) xt_NoRow rfl rfl)) jss_nil)))
      (jss_one (js_ret (jv 1)))))))
theorem ok_Desk_book_of (Df_ : DfM K "Desk" "book_of" "Desk.book_of" s_Desk_book_of) (kc_Desk : Cls K (He.ga K "Desk")) (kn_Desk_kept : NoAttr K (He.ga K "Desk") "kept") (xt_Unknown : XtK K mg "Unknown") : ∃ fd, FnOk P w K mg base (L2Q.CX P w) 1 (He.ma K (He.ga K "Desk") "book_of") fd ["self", "name"] (LfX K ["self", "name"].length (F_Desk_book_of)) ∧ Binds K fd ["self", "name"] [] := by
  refine fk_methQ (N := ["self", "name"]) (es := r_Desk_book_of) Df_ sc_Desk_book_of (fun _ _ _ _ _ _ us hl => match us, hl with | [_, _], _ => rfl) (fun f cdv A outer s H E hr tk po => ?_) d_Desk_book_of
  have hu1 := DL.hu_of hr
  exact (jss_cons (js_if (jt_dnotin hu1 (jv 1) (j_fld kc_Desk kn_Desk_kept (jv 0))) (jss_one (js_raiseTN (L2Q.Takes.n tk) xt_Unknown rfl rfl)) jss_nil)
      (jss_one (js_ret (j_dget hu1 (j_fld kc_Desk kn_Desk_kept (jv 0)) (jv 1)))))
theorem ok_write_book (Df_ : Df K mg "write_book" s_write_book) : Cal P w K mg base 1 "write_book" ["book"] (F_write_book) := by
  refine cal_ok (N := ["book", "name", "begin", "end", "worth"]) (es := r_write_book) Df_ sc_write_book (fun _ _ _ _ _ _ us hl => match us, hl with | [_], _ => rfl) (fun f cdv A outer s H E hr => ?_) d_write_book
  exact (jss_one (js_ret (j_m1 PySem.F.slot_str_join PySem.F.type_str_join mt_join lm_join j_str (j_lc (own := [("name", 1), ("begin", 2), ("end", 3), ("worth", 4)]) rfl sc_write_book.nd (ji_list (jv 0)) (blkOk_by (own := [("name", 1), ("begin", 2), ("end", 3), ("worth", 4)]) (N := ["book", "name", "begin", "end", "worth"]) (sc := defScope s_write_book) (by decide +kernel)) (fun _ _ _ _ _ => (jg_tup rfl (jgs_cons (jg_name (i := 1) sc_write_book.nd rfl (by first | exact Or.inl rfl | exact Or.inr rfl)) (jgs_cons (jg_name (i := 2) sc_write_book.nd rfl (by first | exact Or.inl rfl | exact Or.inr rfl)) (jgs_cons (jg_name (i := 3) sc_write_book.nd rfl (by first | exact Or.inl rfl | exact Or.inr rfl)) (jgs_cons (jg_name (i := 4) sc_write_book.nd rfl (by first | exact Or.inl rfl | exact Or.inr rfl)) jgs_nil)))))) (fun _ _ _ _ _ => jts_nil) (fun _ _ _ _ _ => (j_joined (JJ.cons j_str (JJ.cons (j_fmt (jv 1)) (JJ.cons j_str (JJ.cons (j_fmt (jv 2)) (JJ.cons j_str (JJ.cons (j_fmt (jv 3)) (JJ.cons j_str (JJ.cons (j_fmt (jv 4)) JJ.nil))))))))))))))
theorem ok_Desk_tells (Df_ : DfM K "Desk" "tells" "Desk.tells" s_Desk_tells) (c_write_book : Cal P w K mg base 1 "write_book" ["book"] F_write_book) : ∃ fd, FnOk P w K mg base (L2Q.CX P w) 2 (He.ma K (He.ga K "Desk") "tells") fd ["self", "words", "book"] (LfX K ["self", "words", "book"].length (F_Desk_tellsS)) ∧ Binds K fd ["self", "words", "book"] [] := by
  refine fk_methQT1 (N := ["self", "words", "book", "benches", "choice", "told", "found", "i", "bench", "worth"]) (es := r_Desk_tellsS) Df_ sc_Desk_tells (fun _ _ _ _ _ _ us hl => match us, hl with | [_, _, _], _ => rfl) (fun f cdv A outer s H E hr tk po => ?_) d_Desk_tellsS
  have hu := hr.units
  exact (jsst_cons (jst_if (jt_cmp (op_eqD hu) lo_eq (j_ix (jv 1) j_int) j_str (nomark _)) (jsst_one (jst_ret (jet_repl (j_cal c_write_book (hr.mono (by decide)) rfl (ja_cons (jv 2) ja_nil))))) (JSsT.of jss_nil))
      (JSsT.of jss_never))
theorem ok_Desk_say (Df_ : DfM K "Desk" "say" "Desk.say" s_Desk_say) (b_isinstance : mg "isinstance" = none) (b_str : mg "str" = none) (b_sorted : mg "sorted" = none) (kc_Desk : Cls K (He.ga K "Desk")) (kn_Desk_kept : NoAttr K (He.ga K "Desk") "kept") (c_Desk_takes : CalMQ P w K mg base 5 "Desk" "takes" ["self", "row"] F_Desk_takes) (c_words_of : CalQ P w K mg base 4 "words_of" ["row"] F_words_of) (c_Desk_book_of : CalMQ P w K mg base 1 "Desk" "book_of" ["self", "name"] F_Desk_book_of) (c_Desk_tells : CalMQ P w K mg base 2 "Desk" "tells" ["self", "words", "book"] F_Desk_tellsS) (xt_NoRow : XtK K mg "NoRow") : ∃ fd, FnOk P w K mg base (L2Q.CX P w) 6 (He.ma K (He.ga K "Desk") "say") fd ["self", "row"] (LfX K ["self", "row"].length (F_Desk_sayS)) ∧ Binds K fd ["self", "row"] [] := by
  refine fk_methQ (N := ["self", "row", "words", "book"]) (es := r_Desk_sayS) Df_ sc_Desk_say (fun _ _ _ _ _ _ us hl => match us, hl with | [_, _], _ => rfl) (fun f cdv A outer s H E hr tk po => ?_) d_Desk_sayS
  have hu := hr.units
  exact (jss_cons (js_if (JW.jt (jw_or (jt_not (jt_tru (j_cb call_isi lc_isi rfl b_isinstance (by decide +kernel) (ja_cons (jv 1) (ja_cons (j_ty rfl b_str (by decide +kernel)) ja_nil))))) (jw_or1 (jt_cmp op_in_sign lo_inS j_str (jv 1) rfl)))) (jss_one (js_raiseTN (L2Q.Takes.n tk) xt_NoRow rfl rfl)) jss_nil)
      (jss_cons (js_if (jt_tru (j_m1 PySem.F.slot_str_startswith PySem.F.type_str_startswith mt_startswith lm_starts (jv 1) j_str)) (jss_one (js_retX (jq_meth c_Desk_takes (hr.mono (by decide)) tk (jv 0) (jax_of (ja_cons (jv 1) ja_nil))))) jss_nil)
      (jss_cons (js_if (jt_tru (j_m1 PySem.F.slot_str_startswith PySem.F.type_str_startswith mt_startswith lm_starts (jv 1) j_str)) jss_never jss_nil)
      (jss_cons (js_setX (i := 2) sc_Desk_say.nd rfl (by first | exact Or.inl rfl | exact Or.inr rfl) (jq_cal c_words_of (hr.mono (by decide)) tk rfl (jax_of (ja_cons (jv 1) ja_nil))))
      (jss_cons (js_if (jt_cmp (op_eqD hu) lo_eq (j_ix (jv 2) j_int) j_str (nomark _)) (jss_one (js_ret (j_or (j_m1 PySem.F.slot_str_join PySem.F.type_str_join mt_join lm_join j_str (j_cb (call_sortedD rfl) lc_sortedDS rfl b_sorted (by decide +kernel) (ja_cons (j_fld kc_Desk kn_Desk_kept (jv 0)) ja_nil))) (j_one j_str)))) jss_nil)
      (jss_cons (js_setX (i := 3) sc_Desk_say.nd rfl (by first | exact Or.inl rfl | exact Or.inr rfl) (jq_meth c_Desk_book_of (hr.mono (by decide)) tk (jv 0) (jax_of (ja_cons (j_ix (jv 2) j_int) ja_nil))))
      (jss_cons (js_if (jt_cmp op_in_seq lo_in (j_ix (jv 2) j_int) (j_tup (ja_cons j_str (ja_cons j_str (ja_cons j_str (ja_cons j_str ja_nil))))) rfl) jss_never jss_nil)
      (jss_cons (js_if (jt_cmp (op_eqD hu) lo_eq (j_ix (jv 2) j_int) j_str (nomark _)) (jss_cons (js_expr (j_dpop1 (j_fld kc_Desk kn_Desk_kept (jv 0)) (j_ix (jv 2) j_int)))
      (jss_one (js_ret j_str))) jss_nil)
      (jss_one (js_retX (jq_meth c_Desk_tells (hr.mono (by decide)) tk (jv 0) (jax_of (ja_cons (jv 2) (ja_cons (jv 3) ja_nil))))))))))))))
theorem ok__law_said (Df_ : Df K mg "_law_said" s__law_said) (b_isinstance : mg "isinstance" = none) (b_zip : mg "zip" = none) (b_ValueError : mg "ValueError" = none) (c_Desk_say : CalMQ P w K mg base 6 "Desk" "say" ["self", "row"] F_Desk_sayS) (xg_BenchError : mg "BenchError" = some (.ref (He.ga K "BenchError"))) (xg_NoStretch : mg "NoStretch" = some (.ref (He.ga K "NoStretch"))) (xg_Unknown : mg "Unknown" = some (.ref (He.ga K "Unknown"))) (xg_NoRow : mg "NoRow" = some (.ref (He.ga K "NoRow"))) (xg_NoBook : mg "NoBook" = some (.ref (He.ga K "NoBook"))) (xg_TooMany : mg "TooMany" = some (.ref (He.ga K "TooMany"))) (xg_NoText : mg "NoText" = some (.ref (He.ga K "NoText"))) (xg_Crowded : mg "Crowded" = some (.ref (He.ga K "Crowded"))) (xg_NoTree : mg "NoTree" = some (.ref (He.ga K "NoTree"))) (xg_NoBenches : mg "NoBenches" = some (.ref (He.ga K "NoBenches"))) (xg_NoUndo : mg "NoUndo" = some (.ref (He.ga K "NoUndo"))) (xg_NoTurn : mg "NoTurn" = some (.ref (He.ga K "NoTurn"))) (xg_NoRing : mg "NoRing" = some (.ref (He.ga K "NoRing"))) (xm_BenchError : ∀ m ∈ (["NoBenches", "NoBook", "NoRow", "NoStretch", "NoText", "TooMany", "Unknown"] : List Str), PySem.W.exmOne K (.ref (He.ga K m)) (.ref (He.ga K "BenchError")) = some (isSub m "BenchError")) (xk_NoStretch : ∀ m ∈ (["NoBenches", "NoBook", "NoRow", "NoStretch", "NoText", "TooMany", "Unknown"] : List Str), PySem.W.kitOne K (.ref (He.ga K m)) (.ref (He.ga K "NoStretch")) = some (isSub m "NoStretch")) (xk_Unknown : ∀ m ∈ (["NoBenches", "NoBook", "NoRow", "NoStretch", "NoText", "TooMany", "Unknown"] : List Str), PySem.W.kitOne K (.ref (He.ga K m)) (.ref (He.ga K "Unknown")) = some (isSub m "Unknown")) (xk_NoRow : ∀ m ∈ (["NoBenches", "NoBook", "NoRow", "NoStretch", "NoText", "TooMany", "Unknown"] : List Str), PySem.W.kitOne K (.ref (He.ga K m)) (.ref (He.ga K "NoRow")) = some (isSub m "NoRow")) (xk_NoBook : ∀ m ∈ (["NoBenches", "NoBook", "NoRow", "NoStretch", "NoText", "TooMany", "Unknown"] : List Str), PySem.W.kitOne K (.ref (He.ga K m)) (.ref (He.ga K "NoBook")) = some (isSub m "NoBook")) (xk_TooMany : ∀ m ∈ (["NoBenches", "NoBook", "NoRow", "NoStretch", "NoText", "TooMany", "Unknown"] : List Str), PySem.W.kitOne K (.ref (He.ga K m)) (.ref (He.ga K "TooMany")) = some (isSub m "TooMany")) (xk_NoText : ∀ m ∈ (["NoBenches", "NoBook", "NoRow", "NoStretch", "NoText", "TooMany", "Unknown"] : List Str), PySem.W.kitOne K (.ref (He.ga K m)) (.ref (He.ga K "NoText")) = some (isSub m "NoText")) (xk_Crowded : ∀ m ∈ (["NoBenches", "NoBook", "NoRow", "NoStretch", "NoText", "TooMany", "Unknown"] : List Str), PySem.W.kitOne K (.ref (He.ga K m)) (.ref (He.ga K "Crowded")) = some (isSub m "Crowded")) (xk_NoTree : ∀ m ∈ (["NoBenches", "NoBook", "NoRow", "NoStretch", "NoText", "TooMany", "Unknown"] : List Str), PySem.W.kitOne K (.ref (He.ga K m)) (.ref (He.ga K "NoTree")) = some (isSub m "NoTree")) (xk_NoBenches : ∀ m ∈ (["NoBenches", "NoBook", "NoRow", "NoStretch", "NoText", "TooMany", "Unknown"] : List Str), PySem.W.kitOne K (.ref (He.ga K m)) (.ref (He.ga K "NoBenches")) = some (isSub m "NoBenches")) (xk_NoUndo : ∀ m ∈ (["NoBenches", "NoBook", "NoRow", "NoStretch", "NoText", "TooMany", "Unknown"] : List Str), PySem.W.kitOne K (.ref (He.ga K m)) (.ref (He.ga K "NoUndo")) = some (isSub m "NoUndo")) (xk_NoTurn : ∀ m ∈ (["NoBenches", "NoBook", "NoRow", "NoStretch", "NoText", "TooMany", "Unknown"] : List Str), PySem.W.kitOne K (.ref (He.ga K m)) (.ref (He.ga K "NoTurn")) = some (isSub m "NoTurn")) (xk_NoRing : ∀ m ∈ (["NoBenches", "NoBook", "NoRow", "NoStretch", "NoText", "TooMany", "Unknown"] : List Str), PySem.W.kitOne K (.ref (He.ga K m)) (.ref (He.ga K "NoRing")) = some (isSub m "NoRing")) (xk_ValueError : ∀ m ∈ (["NoBenches", "NoBook", "NoRow", "NoStretch", "NoText", "TooMany", "Unknown"] : List Str), PySem.W.kitOne K (.ref (He.ga K m)) (.type "ValueError") = some true) (hX : ∀ m ∈ (["NoBenches", "NoBook", "NoRow", "NoStretch", "NoText", "TooMany", "Unknown"] : List Str), ExcC K (He.ga K m)) : Cal P w K mg base 7 "_law_said" ["_law_desk", "_law_row"] (F__law_saidS) := by
  refine cal_ok (N := ["_law_desk", "_law_row", "_law_found", "_law_word", "e", "_law_kinds", "_law_words", "_law_one", "_law_so"]) (es := r__law_saidS) Df_ sc__law_said (fun _ _ _ _ _ _ us hl => match us, hl with | [_, _], _ => rfl) (fun f cdv A outer s H E hr => ?_) d__law_saidS
  have hu := hr.units
  exact (jss_cons (js_set (i := 2) sc__law_said.nd rfl (by first | exact Or.inl rfl | exact Or.inr rfl) j_non)
      (jss_cons (js_set (i := 3) sc__law_said.nd rfl (by first | exact Or.inl rfl | exact Or.inr rfl) j_str)
      (jss_cons (js_tryAsQ (i := 4) (ns := (["NoBenches", "NoBook", "NoRow", "NoStretch", "NoText", "TooMany", "Unknown"] : List Str)) takes0Q rfl rfl sc__law_said.nd rfl rfl ⟨rfl, by decide, .inl xg_BenchError⟩ xm_BenchError (fun W pn xe tk po => (jss_one (js_setX (i := 2) sc__law_said.nd rfl (by first | exact Or.inl rfl | exact Or.inr rfl) (jq_meth c_Desk_say (hr.mono (by decide)) tk (jv 0) (jax_of (ja_cons (jv 1) ja_nil)))))) (fun a dd x oe pn hx hz hf hot => (jss_cons (js_set (i := 5) sc__law_said.nd rfl (by first | exact Or.inl rfl | exact Or.inr rfl) (j_lst (ja_cons (j_isE (c := .ref _) (hX _ hx) hz hf (xk_NoRow _ hx) (fun _ h => h) rfl b_isinstance (pv 4) (pe_glob (v := .ref _) rfl xg_NoRow rfl (by decide))) (ja_cons (j_isE (c := .ref _) (hX _ hx) hz hf (xk_Unknown _ hx) (fun _ h => h) rfl b_isinstance (pv 4) (pe_glob (v := .ref _) rfl xg_Unknown rfl (by decide))) (ja_cons (j_isE (c := .ref _) (hX _ hx) hz hf (xk_NoStretch _ hx) (fun _ h => h) rfl b_isinstance (pv 4) (pe_glob (v := .ref _) rfl xg_NoStretch rfl (by decide))) ja_nil)))))
      (jss_cons (js_set (i := 5) sc__law_said.nd rfl (by first | exact Or.inl rfl | exact Or.inr rfl) (j_add (jv 5) (j_lst (ja_cons (j_isE (c := .ref _) (hX _ hx) hz hf (xk_NoText _ hx) (fun _ h => h) rfl b_isinstance (pv 4) (pe_glob (v := .ref _) rfl xg_NoText rfl (by decide))) (ja_cons (j_isE (c := .ref _) (hX _ hx) hz hf (xk_TooMany _ hx) (fun _ h => h) rfl b_isinstance (pv 4) (pe_glob (v := .ref _) rfl xg_TooMany rfl (by decide))) (ja_cons (j_isE (c := .ref _) (hX _ hx) hz hf (xk_NoBook _ hx) (fun _ h => h) rfl b_isinstance (pv 4) (pe_glob (v := .ref _) rfl xg_NoBook rfl (by decide))) ja_nil))))))
      (jss_cons (js_set (i := 5) sc__law_said.nd rfl (by first | exact Or.inl rfl | exact Or.inr rfl) (j_add (jv 5) (j_lst (ja_cons (j_isE (c := .ref _) (hX _ hx) hz hf (xk_NoBenches _ hx) (fun _ h => h) rfl b_isinstance (pv 4) (pe_glob (v := .ref _) rfl xg_NoBenches rfl (by decide))) (ja_cons (j_isE (c := .ref _) (hX _ hx) hz hf (xk_NoTree _ hx) (fun _ h => h) rfl b_isinstance (pv 4) (pe_glob (v := .ref _) rfl xg_NoTree rfl (by decide))) (ja_cons (j_isE (c := .ref _) (hX _ hx) hz hf (xk_Crowded _ hx) (fun _ h => h) rfl b_isinstance (pv 4) (pe_glob (v := .ref _) rfl xg_Crowded rfl (by decide))) ja_nil))))))
      (jss_cons (js_set (i := 5) sc__law_said.nd rfl (by first | exact Or.inl rfl | exact Or.inr rfl) (j_add (jv 5) (j_lst (ja_cons (j_isE (c := .ref _) (hX _ hx) hz hf (xk_NoRing _ hx) (fun _ h => h) rfl b_isinstance (pv 4) (pe_glob (v := .ref _) rfl xg_NoRing rfl (by decide))) (ja_cons (j_isE (c := .ref _) (hX _ hx) hz hf (xk_NoTurn _ hx) (fun _ h => h) rfl b_isinstance (pv 4) (pe_glob (v := .ref _) rfl xg_NoTurn rfl (by decide))) (ja_cons (j_isE (c := .ref _) (hX _ hx) hz hf (xk_NoUndo _ hx) (fun _ h => h) rfl b_isinstance (pv 4) (pe_glob (v := .ref _) rfl xg_NoUndo rfl (by decide))) ja_nil))))))
      (jss_cons (js_set (i := 6) sc__law_said.nd rfl (by first | exact Or.inl rfl | exact Or.inr rfl) (j_lst (ja_cons j_str (ja_cons j_str (ja_cons j_str (ja_cons j_str (ja_cons j_str (ja_cons j_str ja_nil))))))))
      (jss_cons (js_set (i := 6) sc__law_said.nd rfl (by first | exact Or.inl rfl | exact Or.inr rfl) (j_add (jv 6) (j_lst (ja_cons j_str (ja_cons j_str (ja_cons j_str (ja_cons j_str (ja_cons j_str (ja_cons j_str ja_nil)))))))))
      (jss_cons (js_set (i := 3) sc__law_said.nd rfl (by first | exact Or.inl rfl | exact Or.inr rfl) (j_add j_str (j_m1 PySem.F.slot_str_join PySem.F.type_str_join mt_join lm_join j_str (j_lcQ (own := [("_law_one", 7), ("_law_so", 8)]) hot sc__law_said.nd (ji_zipQ rfl b_zip (ja_cons (jv 6) (ja_cons (jv 5) ja_nil))) (blkOk_by (own := [("_law_one", 7), ("_law_so", 8)]) (N := ["_law_desk", "_law_row", "_law_found", "_law_word", "e", "_law_kinds", "_law_words", "_law_one", "_law_so"]) (sc := defScope s__law_said) (by decide +kernel)) (fun _ _ _ _ _ hq => (jg_tupQ hq (jgs_cons (jg_name (i := 7) sc__law_said.nd rfl (by first | exact Or.inl rfl | exact Or.inr rfl)) (jgs_cons (jg_name (i := 8) sc__law_said.nd rfl (by first | exact Or.inl rfl | exact Or.inr rfl)) jgs_nil)))) (fun _ _ _ _ _ => (jts_one (jt_tru (jv 8)))) (fun _ _ _ _ _ => (jv 7))))))
      (jss_one (js_if (jt_not (jt_tru (j_isE (c := .ty "ValueError") (hX _ hx) hz hf (xk_ValueError _ hx) (fun _ h => h) rfl b_isinstance (pv 4) (pe_bltn (v := .ty "ValueError") rfl b_ValueError (by decide +kernel) rfl (by decide) (by decide))))) (jss_one (js_set (i := 3) sc__law_said.nd rfl (by first | exact Or.inl rfl | exact Or.inr rfl) j_str)) jss_nil)))))))))))
      (jss_cons (js_if (jt_cmp (op_neD hu) lo_ne (jv 3) j_str (nomark _)) (jss_one (js_ret (j_lst (ja_cons (jv 3) ja_nil)))) jss_nil)
      (jss_one (js_ret (jv 2)))))))
theorem ok_law {f : Addr} {fd : FuncData} (FD : FunD K "law" "law" (defArgs s_law) (defBody s_law) (defScope s_law) [] [] f fd) (b_range : mg "range" = none) (b_min : mg "min" = none) (b_len : mg "len" = none) (b_sorted : mg "sorted" = none) (b_str : mg "str" = none) (c_Desk___init__ : CalK P w K mg base 1 "Desk" ["self"] F_Desk___init__) (c__law_begun : Cal P w K mg base 1 "_law_begun" ["_law_script", "_law_k"] F__law_begun) (c__law_name : Cal P w K mg base 2 "_law_name" ["_law_state", "_law_k"] F__law_name) (c__law_done : Cal P w K mg base 4 "_law_done" ["_law_kept", "_law_names", "_law_state"] F__law_doneS) (c__law_said : Cal P w K mg base 7 "_law_said" ["_law_desk", "_law_row"] F__law_saidS) (c_Desk_say : CalMQ P w K mg base 6 "Desk" "say" ["self", "row"] F_Desk_sayS) (c__law_take : Cal P w K mg base 1 "_law_take" ["_law_state", "_law_many"] F__law_take) : FK P w K mg base 8 f fd ["_law_script"] (lawT 63 []) := by
  refine fk_ok (N := ["_law_script", "_law_desk", "_law_second", "_law_kept", "_law_state", "_law_names", "_law_k", "_law_row", "_law_due", "_law_name_here", "_law_book_here", "_law_letters", "_law_some", "_law_more"]) (es := r_law) FD sc_law (fun cdv A outer s H E hr => ?_) d_law
  have hu := hr.units
  have hu1 := DL.hu_of hr
  exact (jss_cons (js_set (i := 1) sc_law.nd rfl (by first | exact Or.inl rfl | exact Or.inr rfl) (j_make0 c_Desk___init__ (hr.mono (by decide)) rfl))
      (jss_cons (js_set (i := 2) sc_law.nd rfl (by first | exact Or.inl rfl | exact Or.inr rfl) (j_make0 c_Desk___init__ (hr.mono (by decide)) rfl))
      (jss_cons (js_set (i := 3) sc_law.nd rfl (by first | exact Or.inl rfl | exact Or.inr rfl) j_dnewO)
      (jss_cons (js_set (i := 4) sc_law.nd rfl (by first | exact Or.inl rfl | exact Or.inr rfl) (j_cal c__law_begun (hr.mono (by decide)) rfl (ja_cons (jv 0) (ja_cons j_int ja_nil))))
      (jss_cons (js_setLc (i := 5) (own := [("_law_k", 6)]) rfl sc_law.nd rfl rfl (sw_true rfl rfl rfl (by decide +kernel)) (ji_range1 rfl b_range (ja_cons j_int ja_nil)) (blkOk_by (own := [("_law_k", 6)]) (N := ["_law_script", "_law_desk", "_law_second", "_law_kept", "_law_state", "_law_names", "_law_k", "_law_row", "_law_due", "_law_name_here", "_law_book_here", "_law_letters", "_law_some", "_law_more"]) (sc := defScope s_law) (by decide +kernel)) (fun _ _ _ _ _ => (jg_name (i := 6) sc_law.nd rfl (by first | exact Or.inl rfl | exact Or.inr rfl))) (fun _ _ _ _ _ => jts_nil) (fun _ _ _ _ _ => (j_cal c__law_name (hr.mono (by decide)) rfl (ja_cons (jv 4) (ja_cons (jv 6) ja_nil)))))
      (jss_cons (js_for PassesOwn.never rfl (ji_range2 rfl b_range (ja_cons j_int (ja_cons (j_add (j_cb (call_min2 rfl) lc_min2 rfl b_min (by decide +kernel) (ja_cons (j_cb call_len lc_len rfl b_len PySem.boot_len (ja_cons (jv 0) ja_nil)) (ja_cons j_int ja_nil))) j_int) ja_nil))) (jg_name (i := 6) sc_law.nd rfl (by first | exact Or.inl rfl | exact Or.inr rfl))
      (jss_cons (js_asgTup (j_cal c__law_done (hr.mono (by decide)) rfl (ja_cons (jv 3) (ja_cons (jv 5) (ja_cons (j_cal c__law_begun (hr.mono (by decide)) rfl (ja_cons (jv 0) (ja_cons (jv 6) ja_nil))) ja_nil)))) (jg_tup rfl (jgs_cons (jg_name (i := 7) sc_law.nd rfl (by first | exact Or.inl rfl | exact Or.inr rfl)) (jgs_cons (jg_name (i := 8) sc_law.nd rfl (by first | exact Or.inl rfl | exact Or.inr rfl)) (jgs_cons (jg_name (i := 9) sc_law.nd rfl (by first | exact Or.inl rfl | exact Or.inr rfl)) (jgs_cons (jg_name (i := 10) sc_law.nd rfl (by first | exact Or.inl rfl | exact Or.inr rfl)) jgs_nil))))))
      (jss_cons (js_if (jt_cmp (op_neD hu) lo_ne (j_cal c__law_said (hr.mono (by decide)) rfl (ja_cons (jv 1) (ja_cons (jv 7) ja_nil))) (jv 8) (nomark _)) (jss_one (js_ret j_bl)) jss_nil)
      (jss_one (js_if (JW.jt (jw_and (jt_cmp op_notN lo_notN (jv 9) j_non (nomark _)) (jw_and1 (jt_cmp op_isN lo_isN (jv 10) j_non (nomark _))))) (jss_one (js_expr (j_dpop1 (jv 3) (jv 9)))) (jss_one (js_if (jt_cmp op_notN lo_notN (jv 9) j_non (nomark _)) (jss_one (js_putD hu1 (jv 10) (jv 3) (jv 9))) jss_nil)))))))
      (jss_cons (js_if (JW.jt (jw_or (jt_cmp (op_neD hu) lo_ne (j_meth (calMQ_never c_Desk_say) (hr.mono (by decide)) (jv 1) (ja_cons j_str ja_nil)) (j_or (j_m1 PySem.F.slot_str_join PySem.F.type_str_join mt_join lm_join j_str (j_cb (call_sortedD rfl) lc_sortedDS rfl b_sorted (by decide +kernel) (ja_cons (jv 3) ja_nil))) (j_one j_str)) (nomark _)) (jw_or1 (jt_cmp (op_neD hu) lo_ne (j_meth (calMQ_never c_Desk_say) (hr.mono (by decide)) (jv 2) (ja_cons j_str ja_nil)) j_str (nomark _))))) (jss_one (js_ret j_bl)) jss_nil)
      (jss_cons (js_set (i := 11) sc_law.nd rfl (by first | exact Or.inl rfl | exact Or.inr rfl) j_str)
      (jss_cons (js_setLc (i := 12) (own := [("_law_k", 6)]) rfl sc_law.nd rfl rfl (sw_true rfl rfl rfl (by decide +kernel)) (ji_range1 rfl b_range (ja_cons j_int ja_nil)) (blkOk_by (own := [("_law_k", 6)]) (N := ["_law_script", "_law_desk", "_law_second", "_law_kept", "_law_state", "_law_names", "_law_k", "_law_row", "_law_due", "_law_name_here", "_law_book_here", "_law_letters", "_law_some", "_law_more"]) (sc := defScope s_law) (by decide +kernel)) (fun _ _ _ _ _ => (jg_name (i := 6) sc_law.nd rfl (by first | exact Or.inl rfl | exact Or.inr rfl))) (fun _ _ _ _ _ => jts_nil) (fun _ _ _ _ _ => (j_repT (j_ix (jv 11) (j_mod (jv 6) j_int)) (j_add j_int (j_div (jv 6) j_int)))))
      (jss_cons (js_for PassesOwn.never rfl (ji_range1 rfl b_range (ja_cons j_int ja_nil)) (jg_name (i := 6) sc_law.nd rfl (by first | exact Or.inl rfl | exact Or.inr rfl))
      (jss_cons (js_set (i := 7) sc_law.nd rfl (by first | exact Or.inl rfl | exact Or.inr rfl) (j_m1 PySem.F.slot_str_join PySem.F.type_str_join mt_join lm_join j_str (j_lst (ja_cons j_str (ja_cons (j_ix (jv 12) (jv 6)) (ja_cons j_str (ja_cons j_str (ja_cons j_str (ja_cons (j_ct call_str_int lc_strI rfl b_str (by decide +kernel) (ja_cons (j_add j_int (jv 6)) ja_nil)) (ja_cons (j_ct call_str_int lc_strI rfl b_str (by decide +kernel) (ja_cons (jv 6) ja_nil)) ja_nil))))))))))
      (jss_one (js_if (jt_cmp (op_neD hu) lo_ne (j_meth (calMQ_never c_Desk_say) (hr.mono (by decide)) (jv 2) (ja_cons (jv 7) ja_nil)) j_str (nomark _)) (jss_one (js_ret j_bl)) jss_nil))))
      (jss_cons (js_set (i := 13) sc_law.nd rfl (by first | exact Or.inl rfl | exact Or.inr rfl) (j_add (j_repT (j_ix (jv 11) (j_add (j_cal c__law_take (hr.mono (by decide)) rfl (ja_cons (jv 4) (ja_cons j_int ja_nil))) j_int)) j_int) j_str))
      (jss_cons (js_if (jt_cmp (op_neD hu) lo_ne (j_cal c__law_said (hr.mono (by decide)) rfl (ja_cons (jv 2) (ja_cons (j_add (j_add j_str (jv 13)) j_str) ja_nil))) (j_lst (ja_cons j_str ja_nil)) (nomark _)) (jss_one (js_ret j_bl)) jss_nil)
      (jss_cons (js_if (jt_cmp (op_neD hu) lo_ne (j_cal c__law_said (hr.mono (by decide)) rfl (ja_cons (jv 2) (ja_cons (j_add j_str (jv 13)) ja_nil))) (j_lst (ja_cons j_str ja_nil)) (nomark _)) (jss_one (js_ret j_bl)) jss_nil)
      (jss_cons (js_if (jt_cmp (op_neD hu) lo_ne (j_cal c__law_said (hr.mono (by decide)) rfl (ja_cons (jv 2) (ja_cons (j_add j_str (j_slS (jv 13) jo_none (jo_some j_int))) ja_nil))) (j_lst (ja_cons j_str ja_nil)) (nomark _)) (jss_one (js_ret j_bl)) jss_nil)
      (jss_cons (js_if (jt_cmp (op_neD hu) lo_ne (j_meth (calMQ_never c_Desk_say) (hr.mono (by decide)) (jv 2) (ja_cons j_str ja_nil)) (j_m1 PySem.F.slot_str_join PySem.F.type_str_join mt_join lm_join j_str (j_cb cr_sortedS lc_sortedS rfl b_sorted (by decide +kernel) (ja_cons (jv 12) ja_nil))) (nomark _)) (jss_one (js_ret j_bl)) jss_nil)
      (jss_cons (js_if (JW.jt (jw_or (jt_cmp (op_neD hu) lo_ne (j_meth (calMQ_never c_Desk_say) (hr.mono (by decide)) (jv 2) (ja_cons j_str ja_nil)) j_str (nomark _)) (jw_or1 (jt_cmp (op_neD hu) lo_ne (j_meth (calMQ_never c_Desk_say) (hr.mono (by decide)) (jv 2) (ja_cons j_str ja_nil)) j_str (nomark _))))) (jss_one (js_ret j_bl)) jss_nil)
      (jss_cons (js_if (jt_cmp (op_neD hu) lo_ne (j_meth (calMQ_never c_Desk_say) (hr.mono (by decide)) (jv 2) (ja_cons j_str ja_nil)) j_str (nomark _)) (jss_one (js_ret j_bl)) jss_nil)
      (jss_cons (js_expr (j_meth (calMQ_never c_Desk_say) (hr.mono (by decide)) (jv 2) (ja_cons j_str ja_nil)))
      (jss_one (js_ret (j_and (j_cmp (op_eqD hu) lo_eq (j_meth (calMQ_never c_Desk_say) (hr.mono (by decide)) (jv 2) (ja_cons (j_add j_str (jv 13)) ja_nil)) j_str (nomark _)) (j_one (j_cmp (op_eqD hu) lo_eq (j_cal c__law_said (hr.mono (by decide)) rfl (ja_cons (jv 2) (ja_cons j_str ja_nil))) (j_lst (ja_cons j_str ja_nil)) (nomark _))))))))))))))))))))))))
end
def dd_Desk___init__ : He.DefD := ⟨("Desk", some "__init__"), "__init__", "Desk.__init__", defArgs s_Desk___init__, defBody s_Desk___init__, defScope s_Desk___init__, [], []⟩
def dd__law_begun : He.DefD := ⟨("_law_begun", none), "_law_begun", "_law_begun", defArgs s__law_begun, defBody s__law_begun, defScope s__law_begun, [], []⟩
def dd__law_take : He.DefD := ⟨("_law_take", none), "_law_take", "_law_take", defArgs s__law_take, defBody s__law_take, defScope s__law_take, [], []⟩
def dd__law_name : He.DefD := ⟨("_law_name", none), "_law_name", "_law_name", defArgs s__law_name, defBody s__law_name, defScope s__law_name, [], []⟩
def dd__law_book : He.DefD := ⟨("_law_book", none), "_law_book", "_law_book", defArgs s__law_book, defBody s__law_book, defScope s__law_book, [], []⟩
def dd__law_text : He.DefD := ⟨("_law_text", none), "_law_text", "_law_text", defArgs s__law_text, defBody s__law_text, defScope s__law_text, [], []⟩
def dd__law_bad_text : He.DefD := ⟨("_law_bad_text", none), "_law_bad_text", "_law_bad_text", defArgs s__law_bad_text, defBody s__law_bad_text, defScope s__law_bad_text, [], []⟩
def dd__law_done : He.DefD := ⟨("_law_done", none), "_law_done", "_law_done", defArgs s__law_done, defBody s__law_done, defScope s__law_done, [], []⟩
def dd_split_text : He.DefD := ⟨("split_text", none), "split_text", "split_text", defArgs s_split_text, defBody s_split_text, defScope s_split_text, [], []⟩
def dd_is_name : He.DefD := ⟨("is_name", none), "is_name", "is_name", defArgs s_is_name, defBody s_is_name, defScope s_is_name, [], []⟩
def dd_rows_of : He.DefD := ⟨("rows_of", none), "rows_of", "rows_of", defArgs s_rows_of, defBody s_rows_of, defScope s_rows_of, [], []⟩
def dd_number_of_reader : He.DefD := ⟨("number_of_reader", none), "number_of", "number_of", defArgs s_number_of_reader, defBody s_number_of_reader, defScope s_number_of_reader, [], []⟩
def dd_is_whole : He.DefD := ⟨("is_whole", none), "is_whole", "is_whole", defArgs s_is_whole, defBody s_is_whole, defScope s_is_whole, [], []⟩
def dd_is_stretch : He.DefD := ⟨("is_stretch", none), "is_stretch", "is_stretch", defArgs s_is_stretch, defBody s_is_stretch, defScope s_is_stretch, [], []⟩
def dd_read_book : He.DefD := ⟨("read_book", none), "read_book", "read_book", defArgs s_read_book, defBody s_read_book, defScope s_read_book, [], []⟩
def dd_Desk_takes : He.DefD := ⟨("Desk", some "takes"), "takes", "Desk.takes", defArgs s_Desk_takes, defBody s_Desk_takes, defScope s_Desk_takes, [], []⟩
def dd_is_number : He.DefD := ⟨("is_number", none), "is_number", "is_number", defArgs s_is_number, defBody s_is_number, defScope s_is_number, [], []⟩
def dd_are_benches : He.DefD := ⟨("are_benches", none), "are_benches", "are_benches", defArgs s_are_benches, defBody s_are_benches, defScope s_are_benches, [], []⟩
def dd_has_form : He.DefD := ⟨("has_form", none), "has_form", "has_form", defArgs s_has_form, defBody s_has_form, defScope s_has_form, [], []⟩
def dd_words_of : He.DefD := ⟨("words_of", none), "words_of", "words_of", defArgs s_words_of, defBody s_words_of, defScope s_words_of, [], []⟩
def dd_Desk_book_of : He.DefD := ⟨("Desk", some "book_of"), "book_of", "Desk.book_of", defArgs s_Desk_book_of, defBody s_Desk_book_of, defScope s_Desk_book_of, [], []⟩
def dd_write_book : He.DefD := ⟨("write_book", none), "write_book", "write_book", defArgs s_write_book, defBody s_write_book, defScope s_write_book, [], []⟩
def dd_Desk_tells : He.DefD := ⟨("Desk", some "tells"), "tells", "Desk.tells", defArgs s_Desk_tells, defBody s_Desk_tells, defScope s_Desk_tells, [], []⟩
def dd_Desk_say : He.DefD := ⟨("Desk", some "say"), "say", "Desk.say", defArgs s_Desk_say, defBody s_Desk_say, defScope s_Desk_say, [], []⟩
def dd__law_said : He.DefD := ⟨("_law_said", none), "_law_said", "_law_said", defArgs s__law_said, defBody s__law_said, defScope s__law_said, [], []⟩
def dd_law : He.DefD := ⟨("law", none), "law", "law", defArgs s_law, defBody s_law, defScope s_law, [], []⟩
def dd_NoText___init__ : He.DefD := ⟨("NoText", some "__init__"), "__init__", "NoText.__init__", defArgs s_NoText___init__, defBody s_NoText___init__, defScope s_NoText___init__, [], []⟩
def exK (K : PySem.W.Frag) : Bool := oxB K "NoText" "row" && (allB K (["NoBenches", "NoBook", "NoRow", "NoStretch", "NoText", "TooMany", "Unknown"] : List Str) (tExm "BenchError") && (allB K (["NoBenches", "NoBook", "NoRow", "NoStretch", "NoText", "TooMany", "Unknown"] : List Str) (tKit "NoStretch") && (allB K (["NoBenches", "NoBook", "NoRow", "NoStretch", "NoText", "TooMany", "Unknown"] : List Str) (tKit "Unknown") && (allB K (["NoBenches", "NoBook", "NoRow", "NoStretch", "NoText", "TooMany", "Unknown"] : List Str) (tKit "NoRow") && (allB K (["NoBenches", "NoBook", "NoRow", "NoStretch", "NoText", "TooMany", "Unknown"] : List Str) (tKit "NoBook") && (allB K (["NoBenches", "NoBook", "NoRow", "NoStretch", "NoText", "TooMany", "Unknown"] : List Str) (tKit "TooMany") && (allB K (["NoBenches", "NoBook", "NoRow", "NoStretch", "NoText", "TooMany", "Unknown"] : List Str) (tKit "NoText") && (allB K (["NoBenches", "NoBook", "NoRow", "NoStretch", "NoText", "TooMany", "Unknown"] : List Str) (tKit "Crowded") && (allB K (["NoBenches", "NoBook", "NoRow", "NoStretch", "NoText", "TooMany", "Unknown"] : List Str) (tKit "NoTree") && (allB K (["NoBenches", "NoBook", "NoRow", "NoStretch", "NoText", "TooMany", "Unknown"] : List Str) (tKit "NoBenches") && (allB K (["NoBenches", "NoBook", "NoRow", "NoStretch", "NoText", "TooMany", "Unknown"] : List Str) (tKit "NoUndo") && (allB K (["NoBenches", "NoBook", "NoRow", "NoStretch", "NoText", "TooMany", "Unknown"] : List Str) (tKit "NoTurn") && (allB K (["NoBenches", "NoBook", "NoRow", "NoStretch", "NoText", "TooMany", "Unknown"] : List Str) (tKit "NoRing") && (allB K (["NoBenches", "NoBook", "NoRow", "NoStretch", "NoText", "TooMany", "Unknown"] : List Str) tKitV && (allB K (["NoBenches", "NoBook", "NoRow", "NoStretch", "NoText", "TooMany", "Unknown"] : List Str) tExc && (ktB K "FORMS" tab_FORMS && true))))))))))))))))
def fn : List He.DefD := [dd_Desk___init__, dd__law_begun, dd__law_take, dd__law_name, dd__law_book, dd__law_text, dd__law_bad_text, dd__law_done, dd_split_text, dd_is_name, dd_rows_of, dd_number_of_reader, dd_is_whole, dd_is_stretch, dd_read_book, dd_Desk_takes, dd_is_number, dd_are_benches, dd_has_form, dd_words_of, dd_Desk_book_of, dd_write_book, dd_Desk_tells, dd_Desk_say, dd__law_said, dd_law, dd_NoText___init__]
def fa : List He.Fa := [.glo "_law_begun", .glo "_law_take", .glo "_law_name", .glo "_law_book", .glo "_law_text", .glo "_law_bad_text", .glo "_law_done", .glo "split_text", .glo "is_name", .glo "rows_of", .glo "number_of_reader", .glo "is_whole", .glo "is_stretch", .glo "read_book", .glo "is_number", .glo "are_benches", .glo "has_form", .glo "words_of", .glo "write_book", .glo "_law_said", .glo "law", .free "ValueError", .free "all", .free "bool", .free "enumerate", .free "int", .free "isinstance", .free "len", .free "max", .free "min", .free "range", .free "sorted", .free "str", .free "tuple", .free "zip", .glo "FORMS", .str "LETTERS" "abcdefghijklmnopqrstuvwxyz", .int "LONGEST" 8, .int "FARTHEST_books" 1000000000000, .int "GREATEST_WORTH" 1000000000000, .int "MOST_STRETCHES" 24, .str "FIGURES_reader" "0123456789", .str "FIGURES_desk" "0123456789", .int "MOST_FIGURES" 14, .int "MOST_BENCHES_desk" 24, .int "MOST_BOOKS" 40, .cls "Desk", .mkr "Desk", .glo "Desk", .meth "Desk" "takes", .meth "Desk" "book_of", .meth "Desk" "tells", .meth "Desk" "say", .noat "Desk" "kept", .exc "NoRow", .exc "TooMany", .exc "Unknown", .glo "BenchError", .glo "Crowded", .glo "NoBenches", .glo "NoBook", .glo "NoRing", .glo "NoRow", .glo "NoStretch", .glo "NoText", .glo "NoTree", .glo "NoTurn", .glo "NoUndo", .glo "TooMany", .glo "Unknown"]
abbrev R : PySem.W.OpenRow := PySem.W.OpenLaw.row PySem.Challenge.rw_benchworth_k86_books_kept
def tf : List He.Defn := []
def ts : List He.Tab := [(fun K => He.ga K "FORMS", tab_FORMS.map (·.1))]
abbrev hk : PySem.W.Hook := hookY fa fn ts tf exK
def ob (s : PySem.W.SharedT) : He.AlX := obsY fa fn ts tf exK (HandSHeadRun.getT s)
theorem ob_eq (s : PySem.W.SharedT) : ob s = hk.obs s.abs := obsY_eq (HandSHeadRun.getT_eq s)
def loose : List Str := (["_wall", "Crowded.__init__", "NoBook.__init__", "NoRing.__init__", "NoTree.__init__", "NoText.__init__", "is_whole", "is_name", "is_stretch", "is_over", "look_at_book", "moments_of", "load_at", "loads_of", "crowd_of", "worth_of", "Line.__init__", "Line.piece_arcs", "Line.span_arc", "Line.arcs_left", "Line.roads_told", "Line.go_along", "Line.send_unit", "Line.greatest_over", "Line.prices_now", "Line.taken_now", "chosen_within", "spans_of", "pieces_of", "paper_of"] : List Str) ++ (["most_of", "row_of", "most_by", "more_by", "number_of", "number_of_keepers", "are_many", "Keeper.__init__", "Keeper.done", "Keeper.changed", "Keeper.put", "Keeper.gone", "Keeper.set_worth", "Keeper.slide", "Keeper.set_benches", "Keeper.undo", "Keeper.told", "Keeper.book_now", "Keeper.benches_now", "Keeper.worth_now", "Keeper.choice_now", "Keeper.paper_now", "Keeper.row_now", "toll_of", "rest_of", "claim", "number_of_reader", "rows_of", "numbers_in", "read_book"] : List Str) ++ (["read_steps", "read_paper", "by_begins", "seats_for", "bound_at", "narrowest", "most_within", "bench_more", "rest_of_book", "beside", "wanted", "write_book", "is_number", "are_benches", "has_form", "split_text", "words_of", "Desk.__init__", "Desk.book_of", "Desk.say", "Desk.takes", "Desk.claims", "Desk.does", "Desk.tells", "_law_begun", "_law_take", "_law_name", "_law_book", "_law_text", "_law_said"] : List Str) ++ (["_law_bad_text", "_law_done", "LETTERS", "LONGEST", "FARTHEST_books", "GREATEST_WORTH", "MOST_STRETCHES", "MOST_BENCHES_keepers", "FIGURES_reader", "FARTHEST_reader", "GREATEST_PRICE", "MOST_PRICES", "FAR", "FIGURES_desk", "MOST_FIGURES", "MOST_BENCHES_desk", "MOST_BOOKS", "FORMS", "BenchError", "Crowded", "NoBook", "NoRing", "NoTree", "NoText", "TooMany", "NoBenches", "NoStretch", "Unknown", "NoUndo", "NoTurn"] : List Str) ++ (["NoRow", "Line", "Keeper", "Desk"] : List Str)
theorem run_true (w : World) : HandSHeadRun.RunEq R (PySem.W.view R.prog [105]) hk ob 20000 loose (w.withFollow "special-get-raises" true) := by
  intro os
  kernel_rfl
theorem run_false (w : World) : HandSHeadRun.RunEq R (PySem.W.view R.prog [105]) hk ob 20000 loose (w.withFollow "special-get-raises" false) := by
  intro os
  kernel_rfl
theorem run (w : World) : HandSHeadRun.RunEq R (PySem.W.view R.prog [105]) hk ob 20000 loose w := by
  have h : ∀ (b : Bool) (w : World), HandSHeadRun.RunEq R (PySem.W.view R.prog [105]) hk ob 20000 loose (w.withFollow "special-get-raises" b) := fun b w => by
    cases b
    · exact run_false w
    · exact run_true w
  have := h (w.params.followText "special-get-raises") w
  rwa [World.withFollow_self] at this
theorem facts {P : Program} {w : World} {K : PySem.W.Frag} {h : Heap} {mg : Str → Option Value} {f : Addr} (X : K.In h) (G : h.Ns mainGlobals mg) (hfa : mg ("law" : Str) = some (.ref f)) (c : He.SaysD fa fn K) (hx : exK K = true) (hk_FORMS : ∃ es n, KDict K w (He.ga K "FORMS") es n) :
    ∃ fd : FuncData, (∀ (s : Shared) (v : Value), BindsTo s fd ⟨[v], []⟩ [("_law_script", v)]) ∧ ∀ base : Heap, K.In base → base.Ns mainGlobals mg → (∀ p ∈ tf.map (He.cT K), LamX.TabB base mg p.1 p.2) → FK P w K mg base 8 f fd ["_law_script"] (lawT 63 []) := by
  have g__law_begun := He.glo_ok X G (c.fact 0 (f := .glo "_law_begun") rfl)
  have g__law_take := He.glo_ok X G (c.fact 1 (f := .glo "_law_take") rfl)
  have g__law_name := He.glo_ok X G (c.fact 2 (f := .glo "_law_name") rfl)
  have g__law_book := He.glo_ok X G (c.fact 3 (f := .glo "_law_book") rfl)
  have g__law_text := He.glo_ok X G (c.fact 4 (f := .glo "_law_text") rfl)
  have g__law_bad_text := He.glo_ok X G (c.fact 5 (f := .glo "_law_bad_text") rfl)
  have g__law_done := He.glo_ok X G (c.fact 6 (f := .glo "_law_done") rfl)
  have g_split_text := He.glo_ok X G (c.fact 7 (f := .glo "split_text") rfl)
  have g_is_name := He.glo_ok X G (c.fact 8 (f := .glo "is_name") rfl)
  have g_rows_of := He.glo_ok X G (c.fact 9 (f := .glo "rows_of") rfl)
  have g_number_of_reader := He.glo_ok X G (c.fact 10 (f := .glo "number_of_reader") rfl)
  have g_is_whole := He.glo_ok X G (c.fact 11 (f := .glo "is_whole") rfl)
  have g_is_stretch := He.glo_ok X G (c.fact 12 (f := .glo "is_stretch") rfl)
  have g_read_book := He.glo_ok X G (c.fact 13 (f := .glo "read_book") rfl)
  have g_is_number := He.glo_ok X G (c.fact 14 (f := .glo "is_number") rfl)
  have g_are_benches := He.glo_ok X G (c.fact 15 (f := .glo "are_benches") rfl)
  have g_has_form := He.glo_ok X G (c.fact 16 (f := .glo "has_form") rfl)
  have g_words_of := He.glo_ok X G (c.fact 17 (f := .glo "words_of") rfl)
  have g_write_book := He.glo_ok X G (c.fact 18 (f := .glo "write_book") rfl)
  have g__law_said := He.glo_ok X G (c.fact 19 (f := .glo "_law_said") rfl)
  have g_law := He.glo_ok X G (c.fact 20 (f := .glo "law") rfl)
  have b_ValueError := He.free_ok X G (c.fact 21 (f := .free "ValueError") rfl)
  have b_all := He.free_ok X G (c.fact 22 (f := .free "all") rfl)
  have b_bool := He.free_ok X G (c.fact 23 (f := .free "bool") rfl)
  have b_enumerate := He.free_ok X G (c.fact 24 (f := .free "enumerate") rfl)
  have b_int := He.free_ok X G (c.fact 25 (f := .free "int") rfl)
  have b_isinstance := He.free_ok X G (c.fact 26 (f := .free "isinstance") rfl)
  have b_len := He.free_ok X G (c.fact 27 (f := .free "len") rfl)
  have b_max := He.free_ok X G (c.fact 28 (f := .free "max") rfl)
  have b_min := He.free_ok X G (c.fact 29 (f := .free "min") rfl)
  have b_range := He.free_ok X G (c.fact 30 (f := .free "range") rfl)
  have b_sorted := He.free_ok X G (c.fact 31 (f := .free "sorted") rfl)
  have b_str := He.free_ok X G (c.fact 32 (f := .free "str") rfl)
  have b_tuple := He.free_ok X G (c.fact 33 (f := .free "tuple") rfl)
  have b_zip := He.free_ok X G (c.fact 34 (f := .free "zip") rfl)
  have zt_FORMS := He.glo_ok X G (c.fact 35 (f := .glo "FORMS") rfl)
  have z_LETTERS := He.str_ok X G (c.fact 36 (f := .str "LETTERS" "abcdefghijklmnopqrstuvwxyz") rfl)
  have z_LONGEST := He.int_ok X G (c.fact 37 (f := .int "LONGEST" 8) rfl)
  have z_FARTHEST_books := He.int_ok X G (c.fact 38 (f := .int "FARTHEST_books" 1000000000000) rfl)
  have z_GREATEST_WORTH := He.int_ok X G (c.fact 39 (f := .int "GREATEST_WORTH" 1000000000000) rfl)
  have z_MOST_STRETCHES := He.int_ok X G (c.fact 40 (f := .int "MOST_STRETCHES" 24) rfl)
  have z_FIGURES_reader := He.str_ok X G (c.fact 41 (f := .str "FIGURES_reader" "0123456789") rfl)
  have z_FIGURES_desk := He.str_ok X G (c.fact 42 (f := .str "FIGURES_desk" "0123456789") rfl)
  have z_MOST_FIGURES := He.int_ok X G (c.fact 43 (f := .int "MOST_FIGURES" 14) rfl)
  have z_MOST_BENCHES_desk := He.int_ok X G (c.fact 44 (f := .int "MOST_BENCHES_desk" 24) rfl)
  have z_MOST_BOOKS := He.int_ok X G (c.fact 45 (f := .int "MOST_BOOKS" 40) rfl)
  have kc_Desk := He.cls_ok (c.fact 46 (f := .cls "Desk") rfl)
  have km_Desk := He.mkr_ok (c.fact 47 (f := .mkr "Desk") rfl)
  have g_Desk := He.glo_ok X G (c.fact 48 (f := .glo "Desk") rfl)
  have kt_Desk_takes := He.meth_ok (c.fact 49 (f := .meth "Desk" "takes") rfl)
  have kt_Desk_book_of := He.meth_ok (c.fact 50 (f := .meth "Desk" "book_of") rfl)
  have kt_Desk_tells := He.meth_ok (c.fact 51 (f := .meth "Desk" "tells") rfl)
  have kt_Desk_say := He.meth_ok (c.fact 52 (f := .meth "Desk" "say") rfl)
  have kn_Desk_kept := He.noat_ok (c.fact 53 (f := .noat "Desk" "kept") rfl)
  have xe_NoRow := He.exc_ok (c.fact 54 (f := .exc "NoRow") rfl)
  have xe_TooMany := He.exc_ok (c.fact 55 (f := .exc "TooMany") rfl)
  have xe_Unknown := He.exc_ok (c.fact 56 (f := .exc "Unknown") rfl)
  have xg_BenchError := He.glo_ok X G (c.fact 57 (f := .glo "BenchError") rfl)
  have xg_Crowded := He.glo_ok X G (c.fact 58 (f := .glo "Crowded") rfl)
  have xg_NoBenches := He.glo_ok X G (c.fact 59 (f := .glo "NoBenches") rfl)
  have xg_NoBook := He.glo_ok X G (c.fact 60 (f := .glo "NoBook") rfl)
  have xg_NoRing := He.glo_ok X G (c.fact 61 (f := .glo "NoRing") rfl)
  have xg_NoRow := He.glo_ok X G (c.fact 62 (f := .glo "NoRow") rfl)
  have xg_NoStretch := He.glo_ok X G (c.fact 63 (f := .glo "NoStretch") rfl)
  have xg_NoText := He.glo_ok X G (c.fact 64 (f := .glo "NoText") rfl)
  have xg_NoTree := He.glo_ok X G (c.fact 65 (f := .glo "NoTree") rfl)
  have xg_NoTurn := He.glo_ok X G (c.fact 66 (f := .glo "NoTurn") rfl)
  have xg_NoUndo := He.glo_ok X G (c.fact 67 (f := .glo "NoUndo") rfl)
  have xg_TooMany := He.glo_ok X G (c.fact 68 (f := .glo "TooMany") rfl)
  have xg_Unknown := He.glo_ok X G (c.fact 69 (f := .glo "Unknown") rfl)
  have xt_NoRow : XtK K mg "NoRow" := ⟨xe_NoRow.1, xe_NoRow.2.1, xe_NoRow.2.2.1, xe_NoRow.2.2.2, xg_NoRow⟩
  have xt_TooMany : XtK K mg "TooMany" := ⟨xe_TooMany.1, xe_TooMany.2.1, xe_TooMany.2.2.1, xe_TooMany.2.2.2, xg_TooMany⟩
  have xt_Unknown : XtK K mg "Unknown" := ⟨xe_Unknown.1, xe_Unknown.2.1, xe_Unknown.2.2.1, xe_Unknown.2.2.2, xg_Unknown⟩
  obtain ⟨q_xo_NoText, hx⟩ := He.ba hx
  obtain ⟨q_xm_BenchError, hx⟩ := He.ba hx
  have xm_BenchError : ∀ m ∈ (["NoBenches", "NoBook", "NoRow", "NoStretch", "NoText", "TooMany", "Unknown"] : List Str), PySem.W.exmOne K (.ref (He.ga K m)) (.ref (He.ga K "BenchError")) = some (isSub m "BenchError") := fun m hm => tExm_ok (allB_ok q_xm_BenchError hm)
  obtain ⟨q_xk_NoStretch, hx⟩ := He.ba hx
  have xk_NoStretch : ∀ m ∈ (["NoBenches", "NoBook", "NoRow", "NoStretch", "NoText", "TooMany", "Unknown"] : List Str), PySem.W.kitOne K (.ref (He.ga K m)) (.ref (He.ga K "NoStretch")) = some (isSub m "NoStretch") := fun m hm => tKit_ok (allB_ok q_xk_NoStretch hm)
  obtain ⟨q_xk_Unknown, hx⟩ := He.ba hx
  have xk_Unknown : ∀ m ∈ (["NoBenches", "NoBook", "NoRow", "NoStretch", "NoText", "TooMany", "Unknown"] : List Str), PySem.W.kitOne K (.ref (He.ga K m)) (.ref (He.ga K "Unknown")) = some (isSub m "Unknown") := fun m hm => tKit_ok (allB_ok q_xk_Unknown hm)
  obtain ⟨q_xk_NoRow, hx⟩ := He.ba hx
  have xk_NoRow : ∀ m ∈ (["NoBenches", "NoBook", "NoRow", "NoStretch", "NoText", "TooMany", "Unknown"] : List Str), PySem.W.kitOne K (.ref (He.ga K m)) (.ref (He.ga K "NoRow")) = some (isSub m "NoRow") := fun m hm => tKit_ok (allB_ok q_xk_NoRow hm)
  obtain ⟨q_xk_NoBook, hx⟩ := He.ba hx
  have xk_NoBook : ∀ m ∈ (["NoBenches", "NoBook", "NoRow", "NoStretch", "NoText", "TooMany", "Unknown"] : List Str), PySem.W.kitOne K (.ref (He.ga K m)) (.ref (He.ga K "NoBook")) = some (isSub m "NoBook") := fun m hm => tKit_ok (allB_ok q_xk_NoBook hm)
  obtain ⟨q_xk_TooMany, hx⟩ := He.ba hx
  have xk_TooMany : ∀ m ∈ (["NoBenches", "NoBook", "NoRow", "NoStretch", "NoText", "TooMany", "Unknown"] : List Str), PySem.W.kitOne K (.ref (He.ga K m)) (.ref (He.ga K "TooMany")) = some (isSub m "TooMany") := fun m hm => tKit_ok (allB_ok q_xk_TooMany hm)
  obtain ⟨q_xk_NoText, hx⟩ := He.ba hx
  have xk_NoText : ∀ m ∈ (["NoBenches", "NoBook", "NoRow", "NoStretch", "NoText", "TooMany", "Unknown"] : List Str), PySem.W.kitOne K (.ref (He.ga K m)) (.ref (He.ga K "NoText")) = some (isSub m "NoText") := fun m hm => tKit_ok (allB_ok q_xk_NoText hm)
  obtain ⟨q_xk_Crowded, hx⟩ := He.ba hx
  have xk_Crowded : ∀ m ∈ (["NoBenches", "NoBook", "NoRow", "NoStretch", "NoText", "TooMany", "Unknown"] : List Str), PySem.W.kitOne K (.ref (He.ga K m)) (.ref (He.ga K "Crowded")) = some (isSub m "Crowded") := fun m hm => tKit_ok (allB_ok q_xk_Crowded hm)
  obtain ⟨q_xk_NoTree, hx⟩ := He.ba hx
  have xk_NoTree : ∀ m ∈ (["NoBenches", "NoBook", "NoRow", "NoStretch", "NoText", "TooMany", "Unknown"] : List Str), PySem.W.kitOne K (.ref (He.ga K m)) (.ref (He.ga K "NoTree")) = some (isSub m "NoTree") := fun m hm => tKit_ok (allB_ok q_xk_NoTree hm)
  obtain ⟨q_xk_NoBenches, hx⟩ := He.ba hx
  have xk_NoBenches : ∀ m ∈ (["NoBenches", "NoBook", "NoRow", "NoStretch", "NoText", "TooMany", "Unknown"] : List Str), PySem.W.kitOne K (.ref (He.ga K m)) (.ref (He.ga K "NoBenches")) = some (isSub m "NoBenches") := fun m hm => tKit_ok (allB_ok q_xk_NoBenches hm)
  obtain ⟨q_xk_NoUndo, hx⟩ := He.ba hx
  have xk_NoUndo : ∀ m ∈ (["NoBenches", "NoBook", "NoRow", "NoStretch", "NoText", "TooMany", "Unknown"] : List Str), PySem.W.kitOne K (.ref (He.ga K m)) (.ref (He.ga K "NoUndo")) = some (isSub m "NoUndo") := fun m hm => tKit_ok (allB_ok q_xk_NoUndo hm)
  obtain ⟨q_xk_NoTurn, hx⟩ := He.ba hx
  have xk_NoTurn : ∀ m ∈ (["NoBenches", "NoBook", "NoRow", "NoStretch", "NoText", "TooMany", "Unknown"] : List Str), PySem.W.kitOne K (.ref (He.ga K m)) (.ref (He.ga K "NoTurn")) = some (isSub m "NoTurn") := fun m hm => tKit_ok (allB_ok q_xk_NoTurn hm)
  obtain ⟨q_xk_NoRing, hx⟩ := He.ba hx
  have xk_NoRing : ∀ m ∈ (["NoBenches", "NoBook", "NoRow", "NoStretch", "NoText", "TooMany", "Unknown"] : List Str), PySem.W.kitOne K (.ref (He.ga K m)) (.ref (He.ga K "NoRing")) = some (isSub m "NoRing") := fun m hm => tKit_ok (allB_ok q_xk_NoRing hm)
  obtain ⟨q_xk_ValueError, hx⟩ := He.ba hx
  have xk_ValueError : ∀ m ∈ (["NoBenches", "NoBook", "NoRow", "NoStretch", "NoText", "TooMany", "Unknown"] : List Str), PySem.W.kitOne K (.ref (He.ga K m)) (.type "ValueError") = some true := fun m hm => tKitV_ok (allB_ok q_xk_ValueError hm)
  obtain ⟨q_hX, hx⟩ := He.ba hx
  have hX : ∀ m ∈ (["NoBenches", "NoBook", "NoRow", "NoStretch", "NoText", "TooMany", "Unknown"] : List Str), ExcC K (He.ga K m) := fun m hm => excB_ok (allB_ok q_hX hm)
  obtain ⟨q_ktb_FORMS, hx⟩ := He.ba hx
  have kt_FORMS : KTOk K w "FORMS" tab_FORMS := ktB_ok hk_FORMS q_ktb_FORMS
  obtain ⟨fd_NoText___init__, FD_NoText___init__⟩ := c.def_ 26 (d := dd_NoText___init__) rfl
  have D_NoText___init__ : DfM K "NoText" "__init__" "NoText.__init__" s_NoText___init__ := ⟨_, FD_NoText___init__⟩
  obtain ⟨fd_Desk___init__, FD_Desk___init__⟩ := c.def_ 0 (d := dd_Desk___init__) rfl
  have D_Desk___init__ : DfM K "Desk" "__init__" "Desk.__init__" s_Desk___init__ := ⟨_, FD_Desk___init__⟩
  obtain ⟨fd__law_begun, FD__law_begun⟩ := c.def_ 1 (d := dd__law_begun) rfl
  have D__law_begun : Df K mg "_law_begun" s__law_begun := ⟨_, _, FD__law_begun, g__law_begun⟩
  obtain ⟨fd__law_take, FD__law_take⟩ := c.def_ 2 (d := dd__law_take) rfl
  have D__law_take : Df K mg "_law_take" s__law_take := ⟨_, _, FD__law_take, g__law_take⟩
  obtain ⟨fd__law_name, FD__law_name⟩ := c.def_ 3 (d := dd__law_name) rfl
  have D__law_name : Df K mg "_law_name" s__law_name := ⟨_, _, FD__law_name, g__law_name⟩
  obtain ⟨fd__law_book, FD__law_book⟩ := c.def_ 4 (d := dd__law_book) rfl
  have D__law_book : Df K mg "_law_book" s__law_book := ⟨_, _, FD__law_book, g__law_book⟩
  obtain ⟨fd__law_text, FD__law_text⟩ := c.def_ 5 (d := dd__law_text) rfl
  have D__law_text : Df K mg "_law_text" s__law_text := ⟨_, _, FD__law_text, g__law_text⟩
  obtain ⟨fd__law_bad_text, FD__law_bad_text⟩ := c.def_ 6 (d := dd__law_bad_text) rfl
  have D__law_bad_text : Df K mg "_law_bad_text" s__law_bad_text := ⟨_, _, FD__law_bad_text, g__law_bad_text⟩
  obtain ⟨fd__law_done, FD__law_done⟩ := c.def_ 7 (d := dd__law_done) rfl
  have D__law_done : Df K mg "_law_done" s__law_done := ⟨_, _, FD__law_done, g__law_done⟩
  obtain ⟨fd_split_text, FD_split_text⟩ := c.def_ 8 (d := dd_split_text) rfl
  have D_split_text : Df K mg "split_text" s_split_text := ⟨_, _, FD_split_text, g_split_text⟩
  obtain ⟨fd_is_name, FD_is_name⟩ := c.def_ 9 (d := dd_is_name) rfl
  have D_is_name : Df K mg "is_name" s_is_name := ⟨_, _, FD_is_name, g_is_name⟩
  obtain ⟨fd_rows_of, FD_rows_of⟩ := c.def_ 10 (d := dd_rows_of) rfl
  have D_rows_of : Df K mg "rows_of" s_rows_of := ⟨_, _, FD_rows_of, g_rows_of⟩
  obtain ⟨fd_number_of_reader, FD_number_of_reader⟩ := c.def_ 11 (d := dd_number_of_reader) rfl
  have D_number_of_reader : DfA K mg "number_of_reader" "number_of" s_number_of_reader := ⟨_, _, FD_number_of_reader, g_number_of_reader⟩
  obtain ⟨fd_is_whole, FD_is_whole⟩ := c.def_ 12 (d := dd_is_whole) rfl
  have D_is_whole : Df K mg "is_whole" s_is_whole := ⟨_, _, FD_is_whole, g_is_whole⟩
  obtain ⟨fd_is_stretch, FD_is_stretch⟩ := c.def_ 13 (d := dd_is_stretch) rfl
  have D_is_stretch : Df K mg "is_stretch" s_is_stretch := ⟨_, _, FD_is_stretch, g_is_stretch⟩
  obtain ⟨fd_read_book, FD_read_book⟩ := c.def_ 14 (d := dd_read_book) rfl
  have D_read_book : Df K mg "read_book" s_read_book := ⟨_, _, FD_read_book, g_read_book⟩
  obtain ⟨fd_Desk_takes, FD_Desk_takes⟩ := c.def_ 15 (d := dd_Desk_takes) rfl
  have D_Desk_takes : DfM K "Desk" "takes" "Desk.takes" s_Desk_takes := ⟨_, FD_Desk_takes⟩
  obtain ⟨fd_is_number, FD_is_number⟩ := c.def_ 16 (d := dd_is_number) rfl
  have D_is_number : Df K mg "is_number" s_is_number := ⟨_, _, FD_is_number, g_is_number⟩
  obtain ⟨fd_are_benches, FD_are_benches⟩ := c.def_ 17 (d := dd_are_benches) rfl
  have D_are_benches : Df K mg "are_benches" s_are_benches := ⟨_, _, FD_are_benches, g_are_benches⟩
  obtain ⟨fd_has_form, FD_has_form⟩ := c.def_ 18 (d := dd_has_form) rfl
  have D_has_form : Df K mg "has_form" s_has_form := ⟨_, _, FD_has_form, g_has_form⟩
  obtain ⟨fd_words_of, FD_words_of⟩ := c.def_ 19 (d := dd_words_of) rfl
  have D_words_of : Df K mg "words_of" s_words_of := ⟨_, _, FD_words_of, g_words_of⟩
  obtain ⟨fd_Desk_book_of, FD_Desk_book_of⟩ := c.def_ 20 (d := dd_Desk_book_of) rfl
  have D_Desk_book_of : DfM K "Desk" "book_of" "Desk.book_of" s_Desk_book_of := ⟨_, FD_Desk_book_of⟩
  obtain ⟨fd_write_book, FD_write_book⟩ := c.def_ 21 (d := dd_write_book) rfl
  have D_write_book : Df K mg "write_book" s_write_book := ⟨_, _, FD_write_book, g_write_book⟩
  obtain ⟨fd_Desk_tells, FD_Desk_tells⟩ := c.def_ 22 (d := dd_Desk_tells) rfl
  have D_Desk_tells : DfM K "Desk" "tells" "Desk.tells" s_Desk_tells := ⟨_, FD_Desk_tells⟩
  obtain ⟨fd_Desk_say, FD_Desk_say⟩ := c.def_ 23 (d := dd_Desk_say) rfl
  have D_Desk_say : DfM K "Desk" "say" "Desk.say" s_Desk_say := ⟨_, FD_Desk_say⟩
  obtain ⟨fd__law_said, FD__law_said⟩ := c.def_ 24 (d := dd__law_said) rfl
  have D__law_said : Df K mg "_law_said" s__law_said := ⟨_, _, FD__law_said, g__law_said⟩
  obtain ⟨fd_law, FD_law⟩ := c.def_ 25 (d := dd_law) rfl
  have D_law : Df K mg "law" s_law := ⟨_, _, FD_law, g_law⟩
  have e := hfa.symm.trans g_law
  cases e
  have b := FunD.bindsA (ps := ["_law_script"]) FD_law fun _ _ _ _ _ _ us hl => match us, hl with | [_], _ => rfl
  refine ⟨fd_law, fun s v => b s [v] rfl, fun base _ _ hTB => ?_⟩
  have ox_NoText : OxK P w K mg base "NoText" "row" := oxB_ok q_xo_NoText xg_NoText (init_ok D_NoText___init__ sc_NoText___init__ (fun _ _ _ _ _ _ us hl => match us, hl with | [_, _], _ => rfl) (fun _ _ _ _ _ _ _ => pss_one (ps_ost (pv 0) (pv 1))))
  have c_Desk___init__ : CalK P w K mg base 1 "Desk" ["self"] F_Desk___init__ := calK_ok km_Desk g_Desk (ok_Desk___init__ D_Desk___init__ kc_Desk kn_Desk_kept)
  have c__law_begun : Cal P w K mg base 1 "_law_begun" ["_law_script", "_law_k"] F__law_begun := ok__law_begun D__law_begun b_len b_max
  have c__law_take : Cal P w K mg base 1 "_law_take" ["_law_state", "_law_many"] F__law_take := ok__law_take D__law_take b_range b_int
  have c__law_name : Cal P w K mg base 2 "_law_name" ["_law_state", "_law_k"] F__law_name := ok__law_name D__law_name b_range c__law_take
  have c__law_book : Cal P w K mg base 3 "_law_book" ["_law_state", "_law_most"] F__law_book := ok__law_book D__law_book b_range c__law_take c__law_name
  have c__law_text : Cal P w K mg base 1 "_law_text" ["_law_book_here"] F__law_textD := ok__law_text D__law_text b_str
  have c__law_bad_text : Cal P w K mg base 2 "_law_bad_text" ["_law_state", "_law_book_here"] F__law_bad_text := ok__law_bad_text D__law_bad_text b_str b_len c__law_take
  have c__law_done : Cal P w K mg base 4 "_law_done" ["_law_kept", "_law_names", "_law_state"] F__law_doneS := ok__law_done D__law_done b_len b_sorted c__law_take c__law_book c__law_text c__law_bad_text
  have c_split_text : CalQ P w K mg base 1 "split_text" ["row", "many"] F_split_text := ok_split_text D_split_text b_range xt_NoRow
  have c_is_name : Cal P w K mg base 1 "is_name" ["thing"] F_is_name := ok_is_name D_is_name b_isinstance b_str b_len b_all z_LONGEST z_LETTERS
  have c_rows_of : CalQ P w K mg base 3 "rows_of" ["text"] F_rows_of := ok_rows_of D_rows_of b_isinstance b_str ox_NoText
  have c_number_of_reader : Cal P w K mg base 1 "number_of_reader" ["word"] F_number_of := ok_number_of_reader D_number_of_reader b_all b_int z_FIGURES_reader
  have c_is_whole : Cal P w K mg base 1 "is_whole" ["thing"] F_is_whole := ok_is_whole D_is_whole b_isinstance b_int b_bool
  have c_is_stretch : Cal P w K mg base 2 "is_stretch" ["thing"] F_is_stretch := ok_is_stretch D_is_stretch b_isinstance b_tuple b_len b_all z_FARTHEST_books z_GREATEST_WORTH c_is_name c_is_whole
  have c_read_book : CalQ P w K mg base 4 "read_book" ["text"] F_read_book := ok_read_book D_read_book b_enumerate b_len z_MOST_STRETCHES c_rows_of c_number_of_reader c_is_stretch ox_NoText
  have c_Desk_takes : CalMQ P w K mg base 5 "Desk" "takes" ["self", "row"] F_Desk_takes := calMQ_ok kc_Desk kt_Desk_takes (ok_Desk_takes D_Desk_takes b_len z_MOST_BOOKS kc_Desk kn_Desk_kept c_split_text c_is_name c_read_book xt_NoRow xt_TooMany)
  have c_is_number : Cal P w K mg base 1 "is_number" ["word"] F_is_number := ok_is_number D_is_number b_len b_all z_MOST_FIGURES z_FIGURES_desk
  have c_are_benches : Cal P w K mg base 2 "are_benches" ["word", "many"] F_are_benchesD := ok_are_benches D_are_benches b_int c_is_number
  have c_has_form : Cal P w K mg base 3 "has_form" ["word", "form"] F_has_form := ok_has_form D_has_form z_MOST_BENCHES_desk c_is_name c_is_number c_are_benches
  have c_words_of : CalQ P w K mg base 4 "words_of" ["row"] F_words_of := ok_words_of D_words_of b_len b_zip kt_FORMS zt_FORMS c_has_form xt_NoRow
  have c_Desk_book_of : CalMQ P w K mg base 1 "Desk" "book_of" ["self", "name"] F_Desk_book_of := calMQ_ok kc_Desk kt_Desk_book_of (ok_Desk_book_of D_Desk_book_of kc_Desk kn_Desk_kept xt_Unknown)
  have c_write_book : Cal P w K mg base 1 "write_book" ["book"] F_write_book := ok_write_book D_write_book
  have c_Desk_tells : CalMQ P w K mg base 2 "Desk" "tells" ["self", "words", "book"] F_Desk_tellsS := calMQ_ok kc_Desk kt_Desk_tells (ok_Desk_tells D_Desk_tells c_write_book)
  have c_Desk_say : CalMQ P w K mg base 6 "Desk" "say" ["self", "row"] F_Desk_sayS := calMQ_ok kc_Desk kt_Desk_say (ok_Desk_say D_Desk_say b_isinstance b_str b_sorted kc_Desk kn_Desk_kept c_Desk_takes c_words_of c_Desk_book_of c_Desk_tells xt_NoRow)
  have c__law_said : Cal P w K mg base 7 "_law_said" ["_law_desk", "_law_row"] F__law_saidS := ok__law_said D__law_said b_isinstance b_zip b_ValueError c_Desk_say xg_BenchError xg_NoStretch xg_Unknown xg_NoRow xg_NoBook xg_TooMany xg_NoText xg_Crowded xg_NoTree xg_NoBenches xg_NoUndo xg_NoTurn xg_NoRing xm_BenchError xk_NoStretch xk_Unknown xk_NoRow xk_NoBook xk_TooMany xk_NoText xk_Crowded xk_NoTree xk_NoBenches xk_NoUndo xk_NoTurn xk_NoRing xk_ValueError hX
  exact ok_law FD_law b_range b_min b_len b_sorted b_str c_Desk___init__ c__law_begun c__law_name c__law_done c__law_said c_Desk_say c__law_take
end Row
open PySem PySem.W PySem.Calls PyProof.Rows
theorem PySem.Challenge.cw_benchworth_k86_books_kept_holds : PySem.Challenge.rw_benchworth_k86_books_kept.Holds := by
  w_on; o_law
  refine HandSHeadRun.head_any (r := OpenLaw.row PySem.Challenge.rw_benchworth_k86_books_kept) (q := view (OpenLaw.row PySem.Challenge.rw_benchworth_k86_books_kept).prog [105]) (H := Row.hk) (ob := Row.ob) (M := 20000) (loose := Row.loose) (d := HandSHeadRun.topDef (OpenLaw.row PySem.Challenge.rw_benchworth_k86_books_kept).prog 105) (kwd := []) Row.ob_eq
    (by kernel_rfl) (fun s => by kernel_rfl) Row.run (by kernel_rfl) (by kernel_rfl) (by kernel_rfl) (by rfl) (by first | assumption | decide +kernel) (by decide +kernel) ⟨rfl, rfl, rfl, rfl, rfl, by decide +kernel⟩ ?hw ?hc
  case hw => w_witness2
  case hc =>
    refine LamX.walk_ofTsE (l := PySem.Challenge.rw_benchworth_k86_books_kept) (n := 63) (k := 8) (x := "_law_script") (CX := fun _ => L2.CX0) rfl (by decide) (by kernel_rfl) ⟨rfl, by decide, by decide⟩ ?F (fun _ _ _ _ _ z => z)
    intro w mg fa h Y G hmg0
    obtain ⟨K, KX, cX⟩ := Y
    have c := cX.t.d
    have hx := cX.more
    have hmg : mg ("law" : PySem.Str) = some (.ref fa) := by
      have e : (HandSHeadRun.topDef (OpenLaw.row PySem.Challenge.rw_benchworth_k86_books_kept).prog 105).name = ("law" : PySem.Str) := by kernel_rfl
      rw [← e]
      exact hmg0
    obtain ⟨fd, hb, hF⟩ := Row.facts (P := (PySem.Challenge.rw_benchworth_k86_books_kept).prog) (w := w) KX G hmg c hx (cX.t.tab 0)
    exact ⟨K, KX, fd, Row.tf.map (He.cT K), DL.Lf K 1 (DL.lawT 63 []), fun p hp => by obtain ⟨d, hd, e⟩ := List.mem_map.mp hp; rw [← e]; exact cX.empty d hd, fun p hp => by obtain ⟨d, hd, e⟩ := List.mem_map.mp hp; rw [← e]; exact cX.out d hd, fun p hp => by obtain ⟨d, hd, e⟩ := List.mem_map.mp hp; rw [← e]; exact PySem.W.codeHd_of_K KX (cX.hd d hd), hb, fun H a ns hl _ hT hS => DL.law_spT (by decide) hl (fun f hf => hT _ (List.mem_map.mpr ⟨(f, none), by revert hf; simp [Row.tf], rfl⟩)) ((fun f hf => absurd hf List.not_mem_nil)) hS, hF⟩
