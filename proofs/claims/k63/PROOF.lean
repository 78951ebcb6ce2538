import PyProof.Rows.All
import Wide.All
import OpenK.AllK
import Wide.FinOn
import HandS.ForMost
import HandS.Exc
import HandS.IsInst
import HandS.Wide
import HandS.Defaults
import HandS.HeadHook1
import HandS.Lambda
import HandS.HeadHook4
import HandS.Flow
import HandS.Conv
import HandS.SetFor
import HandS.Strs
import HandS.SortInts
import HandS.Style
import HandS.More
import HandS.Rev
import HandS.Codes
import HandS.TupAny
import PyProof.StrOps2
import HandS.SortKw
import PyProof.MinMaxWalk
import KE.DataMinMax
import KE.SortData
import HandS.HeadHook2
import HandS.Deep
import HandS.NoneIn
import PyProof.ListStr
import PyProof.TupleOfStr
import HandS.ExcValue
import HandS.HeadEnd
import HandS.RaiseMore
import PyProof.ReprRoads
import PyProof.StrLawsRepr
import PyProof.FitsInt
import PyProof.CallFns
import PyProof.RowDictHeap
import HandS.ExcOwn
import HandS.ExcInit
import HandS.ExcField
import HandS.ExcIs
import HandS.TryOnly
import HandS.WordsExc
import KE.KExcIs
import HandS.Sort
import KE.SortKeyHeap
import HandS.Nested
import HandS.HeadWalk
import HandS.FStr
import HandS.Text
import HandS.StrMore
import HandS.Flt
import PyProof.StrLawsTight
import PyProof.StrLawsReplace
import KE.IntTextLaws
import HandS.RaiseFrom
import HandS.SuiteRaise
import HandS.ExcInitHot
import PyProof.EqKinds
import KE.KDictSum
import KE.DataCmp
import KE.KStateDown
import Lean
import HandS.Head0
import HandS.Head1
import HandS.Head2
import PySem.Challenge.RW_benchworth_k63_bench_papers
set_option Elab.async false
set_option linter.all false
set_option maxRecDepth 100000
set_option maxHeartbeats 4000000
namespace DL
open PySem L2
/-- data by value; .ref: an owned object of the ghost heap -/
inductive D where
  | non | bl (b : Bool) | int (i : Int) | str (x : Str) | ty (n : String) | ref (a : Addr) | cl (a : Addr)
  | lst (ds : List D) | tup (ds : List D) | dct (ks : List Key) (ds : List D) | scr (ns : List Int) | exc (a dd : Addr) (f : Str) (e : D)
inductive GO where
  | lst (ds : List D) | dct (ks : List Key) (ds : List D) | ins (C : Str) (dx : Addr) (ks : List Str) (ds : List D) | own (x : Addr) | set (S : Int → Bool) (n : Nat) | tbl (f q : Str) (a : Addr) | gen (r : List V → HO → Prop) (ds : List D)
abbrev Gp := Addr → Option GO
def gput (G : Gp) (a : Addr) (o : GO) : Gp := fun b => if b = a then some o else G b
theorem gput_same {G : Gp} {a : Addr} {o : GO} : gput G a o a = some o := by unfold gput; rw [if_pos rfl]
theorem gput_ne {G : Gp} {a b : Addr} {o : GO} (h : b ≠ a) : gput G a o b = G b := by unfold gput; rw [if_neg h]
theorem gput_gput {G : Gp} {a : Addr} {o u : GO} : gput (gput G a o) a u = gput G a u := by
  funext b; unfold gput; split <;> rfl
/-- the script: locked, or written -/
def SqS (K : PySem.W.Frag) (H : Hp) (G : Gp) (P : Addr → Prop) (a : Addr) (xs : List V) : Prop :=
  ((∃ o, H a = some (.frz o (.lst xs))) ∧ G a = none) ∨ (H a = some (.lst xs) ∧ G a = none ∧ ¬ P a) ∨
    ∃ (o : Obj) (its : Array Value) (n : Nat), K.lookup a = some o ∧ o.cls = .type "list" ∧ o.dict = none ∧ o.data = .seq its n ∧ its.size ≤ sizeLine ∧ Vals xs its.toList
theorem SqS.sq {K : PySem.W.Frag} {H : Hp} {G : Gp} {P : Addr → Prop} {a : Addr} {xs : List V} (h : SqS K H G P a xs) : SqL K H a xs := by
  rcases h with ⟨⟨o, h⟩, _⟩ | ⟨h, _, _⟩ | h
  · exact .inl (.inr ⟨o, h⟩)
  · exact .inl (.inl h)
  · exact .inr h
mutual
def Rep (K : PySem.W.Frag) (H : Hp) (G : Gp) (P : Addr → Prop) : D → V → Prop
  | .non, v => v = .non
  | .bl b, v => v = .bl b
  | .int i, v => v = .int i
  | .str x, v => v = .str x
  | .ty n, v => v = .ty n
  | .cl a, v => v = .ref a
  | .ref a, v => v = .ref a ∧ ∃ o, G a = some o
  | .exc a dd f e, v => v = .ref a ∧ G dd = none ∧ ¬ P dd ∧ ∃ u, H dd = some (.xd [(f, u)]) ∧ Rep K H G P e u
  | .scr ns, v => ∃ a, v = .ref a ∧ ns.length ≤ sizeLine ∧ SqS K H G P a (ns.map V.int)
  | .lst ds, v => ∃ a xs, v = .ref a ∧ G a = none ∧ ¬ P a ∧ H a = some (.lst xs) ∧ ds.length ≤ sizeLine ∧ Reps K H G P ds xs
  | .tup ds, v => ∃ a xs, v = .ref a ∧ G a = none ∧ ¬ P a ∧ H a = some (.tup xs) ∧ ds.length ≤ sizeLine ∧ Reps K H G P ds xs
  | .dct ks ds, v => ∃ a xs, v = .ref a ∧ G a = none ∧ ¬ P a ∧ H a = some (.dK (ks.zip xs)) ∧ ks.length = ds.length ∧ Reps K H G P ds xs
def Reps (K : PySem.W.Frag) (H : Hp) (G : Gp) (P : Addr → Prop) : List D → List V → Prop
  | [], xs => xs = []
  | d :: ds, xs => ∃ x r, xs = x :: r ∧ Rep K H G P d x ∧ Reps K H G P ds r
end
def RelO (K : PySem.W.Frag) (H : Hp) (G : Gp) (P : Addr → Prop) : GO → HO → Prop
  | .lst ds, ho => ∃ xs, ho = .lst xs ∧ ds.length ≤ sizeLine ∧ Reps K H G P ds xs
  | .dct ks ds, ho => ∃ xs, ho = .dK (ks.zip xs) ∧ ks.length = ds.length ∧ Reps K H G P ds xs
  | .ins C dx ks ds, ho => ∃ xs, ho = .ins (He.ga K C) dx (ks.zip xs) ∧ ks.length = ds.length ∧ Reps K H G P ds xs
  | .own x, ho => ho = .own x
  | .set S n, ho => ho = .set S n
  | .gen r ds, ho => ∃ xs, r xs ho ∧ (∀ ys, ho ≠ .tup ys) ∧ Reps K H G P ds xs
  | .tbl f q a, ho => a = (He.cT K (f, none)).2 ∧ ∃ ps, ho = .tbl ps ∧ TriplesOk ps.toList ∧ ∀ (pos : Pos) (cv : Value), codeAmong pos ps.toList = some cv → ∃ c, cv = .ref c ∧ H c = some (LamX.CodeO c q) ∧ G c = none ∧ ¬ P c
/-- the world is held: owned objects as told, private ones apart -/
structure Wo (K : PySem.W.Frag) (P : Addr → Prop) (G : Gp) (H : Hp) : Prop where
  own : ∀ a o, G a = some o → ∃ ho, H a = some ho ∧ RelO K H G P o ho
  prv : ∀ a, P a → G a = none ∧ ∃ ho, H a = some ho ∧ ∀ ys, ho ≠ .tup ys
/-- what a step keeps: what is not owned stands; what is owned stays owned -/
structure Step (G : Gp) (H : Hp) (G' : Gp) (H' : Hp) : Prop where
  keep : ∀ a o, H a = some o → G a = none → H' a = some o ∧ G' a = none
  own : ∀ a o, G a = some o → ∃ o', G' a = some o'
theorem Step.refl (G : Gp) (H : Hp) : Step G H G H := ⟨fun _ _ h g => ⟨h, g⟩, fun _ o h => ⟨o, h⟩⟩
theorem Step.trans {G G1 G2 : Gp} {H H1 H2 : Hp} (a : Step G H G1 H1) (b : Step G1 H1 G2 H2) : Step G H G2 H2 :=
  ⟨fun c o h g => let ⟨h1, g1⟩ := a.keep c o h g; b.keep c o h1 g1, fun c o h => let ⟨o1, h1⟩ := a.own c o h; b.own c o1 h1⟩
mutual
theorem Rep.mono {K : PySem.W.Frag} {P P' : Addr → Prop} {G G' : Gp} {H H' : Hp} (s : Step G H G' H') (hP : ∀ a, (∃ ho, H a = some ho) → P' a → P a) : ∀ {d : D} {v : V}, Rep K H G P d v → Rep K H' G' P' d v
  | .non, _, h => by unfold Rep at h ⊢; exact h
  | .bl _, _, h => by unfold Rep at h ⊢; exact h
  | .int _, _, h => by unfold Rep at h ⊢; exact h
  | .str _, _, h => by unfold Rep at h ⊢; exact h
  | .ty _, _, h => by unfold Rep at h ⊢; exact h
  | .cl _, _, h => by unfold Rep at h ⊢; exact h
  | .ref a, _, h => by
    unfold Rep at h ⊢
    obtain ⟨rfl, o, ho⟩ := h
    exact ⟨rfl, s.own _ _ ho⟩
  | .exc a dd f e, _, h => by
    unfold Rep at h ⊢
    obtain ⟨rfl, g, p, u, r, q⟩ := h
    exact ⟨rfl, (s.keep _ _ r g).2, fun x => p (hP dd ⟨_, r⟩ x), u, (s.keep _ _ r g).1, Rep.mono s hP q⟩
  | .scr ns, _, h => by
    unfold Rep at h ⊢
    obtain ⟨a, rfl, z, ⟨⟨o, h⟩, g⟩ | ⟨h, g, pp⟩ | h⟩ := h
    · exact ⟨a, rfl, z, .inl ⟨⟨o, (s.keep _ _ h g).1⟩, (s.keep _ _ h g).2⟩⟩
    · exact ⟨a, rfl, z, .inr (.inl ⟨(s.keep _ _ h g).1, (s.keep _ _ h g).2, fun x => pp (hP a ⟨_, h⟩ x)⟩)⟩
    · exact ⟨a, rfl, z, .inr (.inr h)⟩
  | .lst ds, _, h => by
    unfold Rep at h ⊢
    obtain ⟨a, xs, rfl, g, p, r, z, q⟩ := h
    exact ⟨a, xs, rfl, (s.keep _ _ r g).2, fun x => p (hP a ⟨_, r⟩ x), (s.keep _ _ r g).1, z, Reps.mono s hP q⟩
  | .tup ds, _, h => by
    unfold Rep at h ⊢
    obtain ⟨a, xs, rfl, g, p, r, z, q⟩ := h
    exact ⟨a, xs, rfl, (s.keep _ _ r g).2, fun x => p (hP a ⟨_, r⟩ x), (s.keep _ _ r g).1, z, Reps.mono s hP q⟩
  | .dct ks ds, _, h => by
    unfold Rep at h ⊢
    obtain ⟨a, xs, rfl, g, p, r, z, q⟩ := h
    exact ⟨a, xs, rfl, (s.keep _ _ r g).2, fun x => p (hP a ⟨_, r⟩ x), (s.keep _ _ r g).1, z, Reps.mono s hP q⟩
theorem Reps.mono {K : PySem.W.Frag} {P P' : Addr → Prop} {G G' : Gp} {H H' : Hp} (s : Step G H G' H') (hP : ∀ a, (∃ ho, H a = some ho) → P' a → P a) : ∀ {ds : List D} {vs : List V}, Reps K H G P ds vs → Reps K H' G' P' ds vs
  | [], _, h => by unfold Reps at h ⊢; exact h
  | d :: ds, _, h => by
    unfold Reps at h ⊢
    obtain ⟨x, r, rfl, h1, h2⟩ := h
    exact ⟨x, r, rfl, Rep.mono s hP h1, Reps.mono s hP h2⟩
end
section
variable {K : PySem.W.Frag} {P : Addr → Prop} {G G' : Gp} {H H' : Hp}
theorem Rep.step {d : D} {v : V} (s : Step G H G' H') (h : Rep K H G P d v) : Rep K H' G' P d v := Rep.mono s (fun _ _ x => x) h
theorem Reps.step {ds : List D} {vs : List V} (s : Step G H G' H') (h : Reps K H G P ds vs) : Reps K H' G' P ds vs := Reps.mono s (fun _ _ x => x) h
theorem reps_nil : Reps K H G P [] [] := by unfold Reps; rfl
theorem reps_cons {d : D} {ds : List D} {v : V} {vs : List V} (h : Rep K H G P d v) (t : Reps K H G P ds vs) : Reps K H G P (d :: ds) (v :: vs) := by
  rw [Reps]; exact ⟨v, vs, rfl, h, t⟩
theorem Reps.length : ∀ {ds : List D} {vs : List V}, Reps K H G P ds vs → ds.length = vs.length
  | [], _, h => by unfold Reps at h; subst h; rfl
  | d :: ds, _, h => by
    unfold Reps at h
    obtain ⟨x, r, rfl, _, h2⟩ := h
    simp [Reps.length h2]
theorem Reps.get : ∀ {ds : List D} {vs : List V} {i : Nat} {d : D}, Reps K H G P ds vs → ds[i]? = some d → ∃ v, vs[i]? = some v ∧ Rep K H G P d v
  | [], _, _, _, _, e => by simp at e
  | d :: ds, _, i, d', h, e => by
    unfold Reps at h
    obtain ⟨x, r, rfl, h1, h2⟩ := h
    cases i with
    | zero => simp at e; subst e; exact ⟨x, by simp, h1⟩
    | succ i =>
      obtain ⟨v, e1, e2⟩ := Reps.get (i := i) (d := d') h2 (by simpa using e)
      exact ⟨v, by simpa using e1, e2⟩
theorem Reps.append : ∀ {ds es : List D} {vs ws : List V}, Reps K H G P ds vs → Reps K H G P es ws → Reps K H G P (ds ++ es) (vs ++ ws)
  | [], es, _, ws, h, k => by unfold Reps at h; subst h; exact k
  | d :: ds, es, _, ws, h, k => by
    unfold Reps at h
    obtain ⟨x, r, rfl, h1, h2⟩ := h
    exact reps_cons h1 (Reps.append h2 k)
theorem Reps.set {d : D} {v : V} (hd : Rep K H G P d v) : ∀ {ds : List D} {vs : List V} (i : Nat), Reps K H G P ds vs → Reps K H G P (ds.set i d) (vs.set i v)
  | [], _, _, h => by unfold Reps at h; subst h; exact reps_nil
  | e :: ds, _, i, h => by
    unfold Reps at h
    obtain ⟨x, r, rfl, h1, h2⟩ := h
    cases i with
    | zero => exact reps_cons hd h2
    | succ i => exact reps_cons h1 (Reps.set hd i h2)
theorem Reps.drop : ∀ {ds : List D} {vs : List V} (n : Nat), Reps K H G P ds vs → Reps K H G P (ds.drop n) (vs.drop n)
  | _, _, 0, h => h
  | [], _, n + 1, h => by unfold Reps at h; subst h; exact reps_nil
  | e :: ds, _, n + 1, h => by
    unfold Reps at h
    obtain ⟨x, r, rfl, h1, h2⟩ := h
    exact Reps.drop n h2
theorem Reps.take : ∀ {ds : List D} {vs : List V} (n : Nat), Reps K H G P ds vs → Reps K H G P (ds.take n) (vs.take n)
  | _, _, 0, h => reps_nil
  | [], _, n + 1, h => by unfold Reps at h; subst h; exact reps_nil
  | e :: ds, _, n + 1, h => by
    unfold Reps at h
    obtain ⟨x, r, rfl, h1, h2⟩ := h
    exact reps_cons h1 (Reps.take n h2)
theorem reps_of_ints : ∀ {ns : List Int}, Reps K H G P (ns.map D.int) (ns.map V.int)
  | [] => reps_nil
  | n :: ns => reps_cons (by unfold Rep; rfl) reps_of_ints
theorem rep_int {i : Int} : Rep K H G P (.int i) (.int i) := by unfold Rep; rfl
theorem rep_bl {i : Bool} : Rep K H G P (.bl i) (.bl i) := by unfold Rep; rfl
theorem rep_str {i : Str} : Rep K H G P (.str i) (.str i) := by unfold Rep; rfl
theorem rep_non : Rep K H G P .non .non := by unfold Rep; rfl
theorem rep_lst {a : Addr} {xs : List V} {ds : List D} (g : G a = none) (p : ¬ P a) (r : H a = some (.lst xs)) (z : ds.length ≤ sizeLine) (q : Reps K H G P ds xs) : Rep K H G P (.lst ds) (.ref a) := by
  unfold Rep; exact ⟨a, xs, rfl, g, p, r, z, q⟩
theorem rep_tup {a : Addr} {xs : List V} {ds : List D} (g : G a = none) (p : ¬ P a) (r : H a = some (.tup xs)) (z : ds.length ≤ sizeLine) (q : Reps K H G P ds xs) : Rep K H G P (.tup ds) (.ref a) := by
  unfold Rep; exact ⟨a, xs, rfl, g, p, r, z, q⟩
theorem RelO.step {P' : Addr → Prop} {o : GO} {ho : HO} (s : Step G H G' H') (hP : ∀ a, (∃ ho, H a = some ho) → P' a → P a) (h : RelO K H G P o ho) : RelO K H' G' P' o ho := by
  cases o with
  | lst ds => obtain ⟨xs, e, z, q⟩ := h; exact ⟨xs, e, z, q.mono s hP⟩
  | dct ks ds => obtain ⟨xs, e, z, q⟩ := h; exact ⟨xs, e, z, q.mono s hP⟩
  | ins C dx ks ds => obtain ⟨xs, e, z, q⟩ := h; exact ⟨xs, e, z, q.mono s hP⟩
  | own x => exact h
  | set S n => exact h
  | gen r ds => obtain ⟨xs, e, z, q⟩ := h; exact ⟨xs, e, z, q.mono s hP⟩
  | tbl f q a =>
    obtain ⟨ea, ps, e, z, q⟩ := h
    refine ⟨ea, ps, e, z, fun pos cv hc => ?_⟩
    obtain ⟨c, e1, e2, e3, e4⟩ := q pos cv hc
    exact ⟨c, e1, (s.keep c _ e2 e3).1, (s.keep c _ e2 e3).2, fun x => e4 (hP c ⟨_, e2⟩ x)⟩
theorem Wo.fresh (w : Wo K P G H) {p : Addr} (h : H p = none) : G p = none ∧ ¬ P p := by
  refine ⟨?_, fun q => ?_⟩
  · cases e : G p with
    | none => rfl
    | some o => obtain ⟨ho, q, _⟩ := w.own p o e; rw [h] at q; cases q
  · obtain ⟨_, ho, e, _⟩ := w.prv p q; rw [h] at e; cases e
/-- a new object, not owned -/
theorem Step.new {p : Addr} {o : HO} (h : H p = none) : Step G H G (upd H p o) :=
  ⟨fun a u e g => ⟨by rw [upd_ne (ne_of_none e h)]; exact e, g⟩, fun _ u e => ⟨u, e⟩⟩
theorem Wo.new (w : Wo K P G H) {p : Addr} {o : HO} (h : H p = none) : Wo K P G (upd H p o) := by
  refine ⟨fun a u e => ?_, fun a q => ?_⟩
  · obtain ⟨ho, e1, r⟩ := w.own a u e
    exact ⟨ho, by rw [upd_ne (ne_of_none e1 h)]; exact e1, r.step (Step.new h) fun _ _ x => x⟩
  · obtain ⟨g, ho, e, nt⟩ := w.prv a q
    exact ⟨g, ho, by rw [upd_ne (ne_of_none e h)]; exact e, nt⟩
/-- a new object, owned -/
theorem Step.newOwn {p : Addr} {o : HO} {g : GO} (w : Wo K P G H) (h : H p = none) : Step G H (gput G p g) (upd H p o) := by
  refine ⟨fun a u e q => ?_, fun a u e => ?_⟩
  · have ne : a ≠ p := ne_of_none e h
    exact ⟨by rw [upd_ne ne]; exact e, by rw [gput_ne ne]; exact q⟩
  · by_cases ne : a = p
    · subst ne; exact ⟨g, gput_same⟩
    · exact ⟨u, by rw [gput_ne ne]; exact e⟩
theorem Wo.newOwn (w : Wo K P G H) {p : Addr} {o : HO} {g : GO} (h : H p = none) (r : RelO K (upd H p o) (gput G p g) P g o) : Wo K P (gput G p g) (upd H p o) := by
  refine ⟨fun a u e => ?_, fun a q => ?_⟩
  · by_cases ne : a = p
    · subst ne; rw [gput_same] at e; cases e; exact ⟨o, upd_same, r⟩
    · rw [gput_ne ne] at e
      obtain ⟨ho, e1, r1⟩ := w.own a u e
      exact ⟨ho, by rw [upd_ne ne]; exact e1, r1.step (Step.newOwn w h) fun _ _ x => x⟩
  · obtain ⟨g1, ho, e, nt⟩ := w.prv a q
    have ne : a ≠ p := ne_of_none e h
    exact ⟨by rw [gput_ne ne]; exact g1, ho, by rw [upd_ne ne]; exact e, nt⟩
/-- an owned object changed -/
theorem Step.chg {p : Addr} {o : HO} {g g0 : GO} (h : G p = some g0) : Step G H (gput G p g) (upd H p o) := by
  refine ⟨fun a u e q => ?_, fun a u e => ?_⟩
  · have ne : a ≠ p := fun z => by subst z; rw [h] at q; cases q
    exact ⟨by rw [upd_ne ne]; exact e, by rw [gput_ne ne]; exact q⟩
  · by_cases ne : a = p
    · subst ne; exact ⟨g, gput_same⟩
    · exact ⟨u, by rw [gput_ne ne]; exact e⟩
theorem Wo.chg (w : Wo K P G H) {p : Addr} {o : HO} {g g0 : GO} (h : G p = some g0) (r : RelO K (upd H p o) (gput G p g) P g o) : Wo K P (gput G p g) (upd H p o) := by
  refine ⟨fun a u e => ?_, fun a q => ?_⟩
  · by_cases ne : a = p
    · subst ne; rw [gput_same] at e; cases e; exact ⟨o, upd_same, r⟩
    · rw [gput_ne ne] at e
      obtain ⟨ho, e1, r1⟩ := w.own a u e
      exact ⟨ho, by rw [upd_ne ne]; exact e1, r1.step (Step.chg h) fun _ _ x => x⟩
  · obtain ⟨g1, ho, e, nt⟩ := w.prv a q
    have ne : a ≠ p := fun z => by subst z; rw [h] at g1; cases g1
    exact ⟨by rw [gput_ne ne]; exact g1, ho, by rw [upd_ne ne]; exact e, nt⟩
end
end DL
set_option Elab.async false
set_option linter.all false
set_option maxRecDepth 100000
set_option maxHeartbeats 4000000
namespace DL
open PySem L2
abbrev DK := D → Gp → Prop
abbrev Sd := List (Option D)
abbrev EE := Sd → Gp → DK → Prop
abbrev ET := Sd → Gp → (Bool → Gp → Prop) → Prop
abbrev EA := Sd → Gp → (List D → Gp → Prop) → Prop
/-- an exception: its class by name, its field -/
structure Xd where
  c : Str
  f : Option (Str × D)
structure En where
  nx : Sd → Gp → Prop
  rt : DK
  bk : Sd → Gp → Prop := fun _ _ => False
  ct : Sd → Gp → Prop := fun _ _ => False
  xr : Xd → Sd → Gp → Prop := fun _ _ _ => False
abbrev ES := En → Sd → Gp → Prop
/-- the slots and the world told -/
structure Rl (K : PySem.W.Frag) (P : Addr → Prop) (s : Sd) (G : Gp) (σ : St) (H : Hp) : Prop where
  wo : Wo K P G H
  len : s.length = σ.length
  at_ : ∀ (i : Nat) (d : D), s[i]? = some (some d) → ∃ v, σ[i]? = some (some v) ∧ Rep K H G P d v
section
variable {K : PySem.W.Frag} {P : Addr → Prop} {s : Sd} {G G' : Gp} {σ : St} {H H' : Hp}
theorem Rl.step (r : Rl K P s G σ H) (st : Step G H G' H') (w : Wo K P G' H') : Rl K P s G' σ H' :=
  ⟨w, r.len, fun i d e => let ⟨v, e1, e2⟩ := r.at_ i d e; ⟨v, e1, e2.step st⟩⟩
theorem Rl.set (r : Rl K P s G σ H) {i : Nat} {d : D} {v : V} (h : Rep K H G P d v) : Rl K P (s.set i (some d)) G (σ.set i (some v)) H := by
  refine ⟨r.wo, by rw [List.length_set, List.length_set]; exact r.len, fun j e q => ?_⟩
  by_cases hj : i = j
  · subst hj
    by_cases hi : i < s.length
    · rw [List.getElem?_set_self hi] at q
      cases q
      exact ⟨v, List.getElem?_set_self (by rw [← r.len]; exact hi), h⟩
    · rw [List.getElem?_eq_none (by rw [List.length_set]; omega)] at q; cases q
  · rw [List.getElem?_set_ne hj] at q
    obtain ⟨w, e1, e2⟩ := r.at_ j e q
    exact ⟨w, by rw [List.getElem?_set_ne hj]; exact e1, e2⟩
end
/-- a reading over the heap keeps one over data -/
def LE (K : PySem.W.Frag) (te : TE) (t : EE) : Prop := ∀ (P : Addr → Prop) (s : Sd) (G : Gp) (Q : DK) (σ : St) (H : Hp) (R : VK), t s G Q → Rl K P s G σ H →
  (∀ d G' v H', Step G H G' H' → Wo K P G' H' → Rep K H' G' P d v → Q d G' → R v H') → te σ H R
def LT (K : PySem.W.Frag) (te : TT) (t : ET) : Prop := ∀ (P : Addr → Prop) (s : Sd) (G : Gp) (Q : Bool → Gp → Prop) (σ : St) (H : Hp) (R : Bool → Hp → Prop), t s G Q → Rl K P s G σ H →
  (∀ b G' H', Step G H G' H' → Wo K P G' H' → Q b G' → R b H') → te σ H R
def LA (K : PySem.W.Frag) (n : Nat) (te : TA) (t : EA) : Prop := ∀ (P : Addr → Prop) (s : Sd) (G : Gp) (Q : List D → Gp → Prop) (σ : St) (H : Hp) (R : List V → Hp → Prop), t s G Q → Rl K P s G σ H →
  (∀ ds G' vs H', Step G H G' H' → Wo K P G' H' → Reps K H' G' P ds vs → ds.length = n → Q ds G' → R vs H') → te σ H R
/-- what is raised, over the heap; the classes' addresses -/
structure Wx where
  w : WX
def RepX (K : PySem.W.Frag) (H : Hp) (G : Gp) (P : Addr → Prop) (x : Xd) (cls : Value) (d : Option Addr) : Prop := cls = .ref (He.ga K x.c) ∧ match x.f with
  | none => d = none
  | some (n, e) => ∃ a v, d = some a ∧ G a = none ∧ ¬ P a ∧ H a = some (.xd [(n, v)]) ∧ Rep K H G P e v
theorem RepX.step {K : PySem.W.Frag} {P : Addr → Prop} {G G' : Gp} {H H' : Hp} {x : Xd} {cls : Value} {d : Option Addr} (s : Step G H G' H') (h : RepX K H G P x cls d) : RepX K H' G' P x cls d := by
  obtain ⟨e, h⟩ := h
  refine ⟨e, ?_⟩
  split
  · rename_i q; rw [q] at h; exact h
  · rename_i n e q
    rw [q] at h
    obtain ⟨a, v, e1, g, p, e2, r⟩ := h
    exact ⟨a, v, e1, (s.keep a _ e2 g).2, p, (s.keep a _ e2 g).1, r.step s⟩
/-- what follows a statement, over the heap and over data -/
structure Co (K : PySem.W.Frag) (Y : Wx) (P : Addr → Prop) (G : Gp) (H : Hp) (N : En) (M : Ends) : Prop where
  nx : ∀ s' G' σ' H', Step G H G' H' → Rl K P s' G' σ' H' → N.nx s' G' → M.nx σ' H'
  rt : ∀ d G' v H', Step G H G' H' → Wo K P G' H' → Rep K H' G' P d v → N.rt d G' → M.rt v H'
  bk : ∀ s' G' σ' H', Step G H G' H' → Rl K P s' G' σ' H' → N.bk s' G' → M.bk σ' H'
  ct : ∀ s' G' σ' H', Step G H G' H' → Rl K P s' G' σ' H' → N.ct s' G' → M.ct σ' H'
  xr : ∀ x s' G' cls d σ' H', Step G H G' H' → Rl K P s' G' σ' H' → RepX K H' G' P x cls d → N.xr x s' G' → Y.w cls d σ' H'
theorem Co.step {K : PySem.W.Frag} {Y : Wx} {P : Addr → Prop} {G G' : Gp} {H H' : Hp} {N : En} {M : Ends} (c : Co K Y P G H N M) (st : Step G H G' H') : Co K Y P G' H' N M :=
  ⟨fun a b e d x y z => c.nx a b e d (st.trans x) y z, fun a b e d x y z w => c.rt a b e d (st.trans x) y z w, fun a b e d x y z => c.bk a b e d (st.trans x) y z, fun a b e d x y z => c.ct a b e d (st.trans x) y z, fun a b e d f g h x y z w => c.xr a b e d f g h (st.trans x) y z w⟩
def LS (K : PySem.W.Frag) (Y : Wx) (ts : TS) (t : ES) : Prop := ∀ (P : Addr → Prop) (s : Sd) (G : Gp) (N : En) (σ : St) (H : Hp) (M : Ends), t N s G → Rl K P s G σ H → Co K Y P G H N M → ts M σ H
def upE (K : PySem.W.Frag) (t : EE) : TE := fun σ H R => ∃ (P : Addr → Prop) (s : Sd) (G : Gp) (Q : DK), t s G Q ∧ Rl K P s G σ H ∧ ∀ d G' v H', Step G H G' H' → Wo K P G' H' → Rep K H' G' P d v → Q d G' → R v H'
def upT (K : PySem.W.Frag) (t : ET) : TT := fun σ H R => ∃ (P : Addr → Prop) (s : Sd) (G : Gp) (Q : Bool → Gp → Prop), t s G Q ∧ Rl K P s G σ H ∧ ∀ b G' H', Step G H G' H' → Wo K P G' H' → Q b G' → R b H'
def upA (K : PySem.W.Frag) (n : Nat) (t : EA) : TA := fun σ H R => ∃ (P : Addr → Prop) (s : Sd) (G : Gp) (Q : List D → Gp → Prop), t s G Q ∧ Rl K P s G σ H ∧ ∀ ds G' vs H', Step G H G' H' → Wo K P G' H' → Reps K H' G' P ds vs → ds.length = n → Q ds G' → R vs H'
def upS (K : PySem.W.Frag) (Y : Wx) (t : ES) : TS := fun M σ H => ∃ (P : Addr → Prop) (s : Sd) (G : Gp) (N : En), t N s G ∧ Rl K P s G σ H ∧ Co K Y P G H N M
inductive JE (X : Cx) (e : Expr) (t : EE) : Prop where
  | mk {te : TE} (a : PE X e te) (b : LE X.K te t) : JE X e t
inductive JT (X : Cx) (e : Expr) (t : ET) : Prop where
  | mk {te : TT} (a : PT X e te) (b : LT X.K te t) : JT X e t
inductive JW (X : Cx) (e : Expr) (t : ET) : Prop where
  | mk {te : TT} (a : PW X e te) (b : LT X.K te t) : JW X e t
inductive JA (X : Cx) (es : List Expr) (t : EA) : Prop where
  | mk {te : TA} (a : PA X es te) (b : LA X.K es.length te t) : JA X es t
inductive JS (X : Cx) (Y : Wx) (st : Stmt) (t : ES) : Prop where
  | mk {ts : TS} (a : PS X st ts) (b : LS X.K Y ts t) : JS X Y st t
inductive JSs (X : Cx) (Y : Wx) (st : List Stmt) (t : ES) : Prop where
  | mk {ts : TS} (a : PSs X st ts) (b : LS X.K Y ts t) : JSs X Y st t
section
variable {X : Cx} {e : Expr} {es : List Expr} {st : Stmt} {sts : List Stmt} {t : EE} {tt : ET} {ta : EA} {ts : ES}
theorem JE.pe (h : JE X e t) : PE X e (upE X.K t) := by
  obtain ⟨a, b⟩ := h
  exact ⟨fun pins s σ H Q I ⟨P, s', G, Q', h1, h2, h3⟩ => a.run pins s σ H Q I (b P s' G Q' σ H Q h1 h2 h3)⟩
theorem JE.le (h : JE X e t) : LE X.K (upE X.K t) t := fun P s G Q σ H R h1 h2 h3 => ⟨P, s, G, Q, h1, h2, h3⟩
theorem JT.pt (h : JT X e tt) : PT X e (upT X.K tt) := by
  obtain ⟨a, b⟩ := h
  exact ⟨fun pins s σ H Q I ⟨P, s', G, Q', h1, h2, h3⟩ => a.run pins s σ H Q I (b P s' G Q' σ H Q h1 h2 h3)⟩
theorem JT.lt (h : JT X e tt) : LT X.K (upT X.K tt) tt := fun P s G Q σ H R h1 h2 h3 => ⟨P, s, G, Q, h1, h2, h3⟩
theorem JW.pw (h : JW X e tt) : PW X e (upT X.K tt) := by
  obtain ⟨a, b⟩ := h
  exact ⟨fun wh pins s σ H Q I ⟨P, s', G, Q', h1, h2, h3⟩ => a.run wh pins s σ H Q I (b P s' G Q' σ H Q h1 h2 h3)⟩
theorem JW.lt (h : JW X e tt) : LT X.K (upT X.K tt) tt := fun P s G Q σ H R h1 h2 h3 => ⟨P, s, G, Q, h1, h2, h3⟩
theorem JA.pa (h : JA X es ta) : PA X es (upA X.K es.length ta) := by
  obtain ⟨a, b⟩ := h
  exact ⟨fun pos pins s σ H Q I ⟨P, s', G, Q', h1, h2, h3⟩ => a.run pos pins s σ H Q I (b P s' G Q' σ H Q h1 h2 h3)⟩
theorem JA.la (h : JA X es ta) : LA X.K es.length (upA X.K es.length ta) ta := fun P s G Q σ H R h1 h2 h3 => ⟨P, s, G, Q, h1, h2, h3⟩
theorem JS.ps {Y : Wx} (h : JS X Y st ts) : PS X st (upS X.K Y ts) := by
  obtain ⟨a, b⟩ := h
  exact ⟨fun pins s σ H M I ⟨P, s', G, N, h1, h2, h3⟩ => a.run pins s σ H M I (b P s' G N σ H M h1 h2 h3)⟩
theorem JS.ls {Y : Wx} (h : JS X Y st ts) : LS X.K Y (upS X.K Y ts) ts := fun P s G N σ H M h1 h2 h3 => ⟨P, s, G, N, h1, h2, h3⟩
theorem JSs.ps {Y : Wx} (h : JSs X Y sts ts) : PSs X sts (upS X.K Y ts) := by
  obtain ⟨a, b⟩ := h
  exact ⟨fun pins s σ H M I ⟨P, s', G, N, h1, h2, h3⟩ => a.run pins s σ H M I (b P s' G N σ H M h1 h2 h3)⟩
theorem JSs.ls {Y : Wx} (h : JSs X Y sts ts) : LS X.K Y (upS X.K Y ts) ts := fun P s G N σ H M h1 h2 h3 => ⟨P, s, G, N, h1, h2, h3⟩
end
@[simp] def eVar (i : Nat) : EE := fun s G Q => match s[i]? with
  | some (some d) => Q d G
  | _ => False
@[simp] def eC (d : D) : EE := fun _ G Q => Q d G
section
variable {X : Cx} {K : PySem.W.Frag}
theorem le_var {i : Nat} : LE K (tVar i) (eVar i) := fun P s G Q σ H R h r k => by
  unfold eVar at h
  split at h
  · rename_i d e
    obtain ⟨v, e1, e2⟩ := r.at_ i d e
    exact ⟨v, e1, k d G v H (Step.refl _ _) r.wo e2 h⟩
  · exact h.elim
theorem jv (i : Nat) {x : Str} {pos : Pos} (hN : X.N[i]? = some x := by rfl) (hv : Vis X.env.scope x := by first | exact Or.inl rfl | exact Or.inr (Or.inl rfl) | exact Or.inr (Or.inr rfl)) (hd : (x == ("__debug__" : Str)) = false := by decide)
    (hcd : (x == ("__classdict__" : Str)) = false := by decide) : JE X (.Name x pos) (eVar i) := ⟨pv i hN hv hd hcd, le_var⟩
theorem le_c {v : V} {d : D} (h : ∀ H G P, Rep K H G P d v) : LE K (tC v) (eC d) := fun P s G Q σ H R q r k => k d G v H (Step.refl _ _) r.wo (h _ _ _) q
theorem j_int {i j pos} : JE X (.Constant (.int i) j pos) (eC (.int i)) := ⟨pe_int, le_c fun _ _ _ => rep_int⟩
theorem j_bl {i j pos} : JE X (.Constant (.bool i) j pos) (eC (.bl i)) := ⟨pe_bl, le_c fun _ _ _ => rep_bl⟩
theorem j_non {j pos} : JE X (.Constant .none j pos) (eC .non) := ⟨pe_non, le_c fun _ _ _ => rep_non⟩
theorem j_str {i j pos} : JE X (.Constant (.str i) j pos) (eC (.str i)) := ⟨pe_str, le_c fun _ _ _ => rep_str⟩
/-- a module's int, text -/
theorem j_gint {x : Str} {i : Int} {pos : Pos} (hg : Gl X x) (hm : ∃ t, X.mg x = some (.int i t)) (hd : (x == ("__debug__" : Str)) = false := by decide) : JE X (.Name x pos) (eC (.int i)) :=
  let ⟨t, e⟩ := hm; ⟨pe_glob (v := .int i) hg e ⟨t, rfl⟩ hd, le_c fun _ _ _ => rep_int⟩
theorem j_ty {x : Str} {n : String} {pos : Pos} (hg : Gl X x) (hm : X.mg x = none) (hv : bootBuiltins x = some (.type n)) (hn : x ≠ "__name__" := by decide) (hd : (x == ("__debug__" : Str)) = false := by decide) : JE X (.Name x pos) (eC (.ty n)) :=
  ⟨pe_bltn (v := .ty n) hg hm hv rfl hn hd, le_c fun _ _ _ => by unfold Rep; rfl⟩
end
abbrev OD := D → D → Gp → DK → Prop
abbrev UD := D → Gp → DK → Prop
/-- an operator over the heap keeps one over data -/
def LO (K : PySem.W.Frag) (r : R2) (o : OD) : Prop := ∀ (P : Addr → Prop) (G : Gp) (H : Hp) (x y : D) (u v : V) (Q : DK) (R : VK), o x y G Q → Wo K P G H → Rep K H G P x u → Rep K H G P y v →
  (∀ d G' w H', Step G H G' H' → Wo K P G' H' → Rep K H' G' P d w → Q d G' → R w H') → r u v H R
def LU (K : PySem.W.Frag) (r : V → Hp → VK → Prop) (o : UD) : Prop := ∀ (P : Addr → Prop) (G : Gp) (H : Hp) (x : D) (u : V) (Q : DK) (R : VK), o x G Q → Wo K P G H → Rep K H G P x u →
  (∀ d G' w H', Step G H G' H' → Wo K P G' H' → Rep K H' G' P d w → Q d G' → R w H') → r u H R
@[simp] def eOp (r : OD) (ta tb : EE) : EE := fun s G Q => ta s G fun x G1 => tb s G1 fun y G2 => r x y G2 Q
@[simp] def eUn (r : UD) (ta : EE) : EE := fun s G Q => ta s G fun x G1 => r x G1 Q
section
variable {X : Cx} {K : PySem.W.Frag} {ta tb : TE} {a b : EE} {r : R2} {o : OD}
theorem le_op (lo : LO K r o) (la : LE K ta a) (lb : LE K tb b) : LE K (tOp r ta tb) (eOp o a b) := fun P s G Q σ H R h rl k => by
  refine la P s G _ σ H _ h rl fun x G1 u H1 s1 w1 r1 h1 => ?_
  refine lb P s G1 _ σ H1 _ h1 (rl.step s1 w1) fun y G2 v H2 s2 w2 r2 h2 => ?_
  exact lo P G2 H2 x y u v Q R h2 w2 (r1.step s2) r2 fun d G3 w H3 s3 w3 r3 q3 => k d G3 w H3 ((s1.trans s2).trans s3) w3 r3 q3
theorem le_un {r : V → Hp → VK → Prop} {o : UD} (lo : LU K r o) (la : LE K ta a) : LE K (tUn r ta) (eUn o a) := fun P s G Q σ H R h rl k => by
  refine la P s G _ σ H _ h rl fun x G1 u H1 s1 w1 r1 h1 => ?_
  exact lo P G1 H1 x u Q R h1 w1 r1 fun d G3 w H3 s3 w3 r3 q3 => k d G3 w H3 (s1.trans s3) w3 r3 q3
theorem LO.or {r r' : R2} {o : OD} (h : ∀ P G H x y u v Q R, o x y G Q → Wo K P G H → Rep K H G P x u → Rep K H G P y v → (∀ d G' w H', Step G H G' H' → Wo K P G' H' → Rep K H' G' P d w → Q d G' → R w H') → r u v H R ∨ r' u v H R) : LO K (fun x y H Q => r x y H Q ∨ r' x y H Q) o :=
  fun P G H x y u v Q R a b c d e => h P G H x y u v Q R a b c d e
end
/-- an index's ways: lists, tuples, the script -/
def lkL (G : Gp) : D → Option (List D)
  | .lst ds => some ds
  | .ref a => match G a with
    | some (.lst ds) => some ds
    | _ => none
  | .scr ns => some (ns.map D.int)
  | _ => none
@[simp] theorem lkL_lst {G : Gp} {ds : List D} : lkL G (.lst ds) = some ds := rfl
@[simp] theorem lkL_ref {G : Gp} {a : Addr} : lkL G (.ref a) = match G a with
    | some (.lst ds) => some ds
    | _ => none := rfl
@[simp] theorem lkL_scr {G : Gp} {ns : List Int} : lkL G (.scr ns) = some (ns.map D.int) := rfl
@[simp] theorem lkL_tup {G : Gp} {ds : List D} : lkL G (.tup ds) = none := rfl
@[simp] theorem lkL_int {G : Gp} {i : Int} : lkL G (.int i) = none := rfl
@[simp] theorem lkL_str {G : Gp} {i : Str} : lkL G (.str i) = none := rfl
@[simp] theorem lkL_non {G : Gp} : lkL G .non = none := rfl
@[simp] theorem lkL_bl {G : Gp} {b : Bool} : lkL G (.bl b) = none := rfl
@[simp] theorem lkL_dct {G : Gp} {k : List Key} {ds : List D} : lkL G (.dct k ds) = none := rfl
section
variable {K : PySem.W.Frag} {P : Addr → Prop} {G : Gp} {H : Hp}
theorem rep_i {i : Int} {v : V} (h : Rep K H G P (.int i) v) : v = .int i := by unfold Rep at h; exact h
theorem rep_b {i : Bool} {v : V} (h : Rep K H G P (.bl i) v) : v = .bl i := by unfold Rep at h; exact h
theorem rep_s {i : Str} {v : V} (h : Rep K H G P (.str i) v) : v = .str i := by unfold Rep at h; exact h
theorem rep_n {v : V} (h : Rep K H G P .non v) : v = .non := by unfold Rep at h; exact h
theorem rep_t {ds : List D} {v : V} (h : Rep K H G P (.tup ds) v) : ∃ a xs, v = .ref a ∧ G a = none ∧ ¬ P a ∧ H a = some (.tup xs) ∧ ds.length ≤ sizeLine ∧ Reps K H G P ds xs := by unfold Rep at h; exact h
theorem rep_l {ds : List D} {v : V} (h : Rep K H G P (.lst ds) v) : ∃ a xs, v = .ref a ∧ G a = none ∧ ¬ P a ∧ H a = some (.lst xs) ∧ ds.length ≤ sizeLine ∧ Reps K H G P ds xs := by unfold Rep at h; exact h
/-- what may be read as a list -/
theorem lk_sq (w : Wo K P G H) {d : D} {v : V} {ds : List D} (h : Rep K H G P d v) (e : lkL G d = some ds) : ∃ a xs, v = .ref a ∧ SqL K H a xs ∧ Reps K H G P ds xs ∧ ds.length ≤ sizeLine := by
  cases d with
  | lst es =>
    cases e
    obtain ⟨a, xs, rfl, g, p, r, z, q⟩ := rep_l h
    exact ⟨a, xs, rfl, SqL.of r, q, z⟩
  | ref a =>
    unfold Rep at h
    obtain ⟨rfl, o, ho⟩ := h
    simp only [lkL, ho] at e
    cases o with
    | lst es =>
      cases e
      obtain ⟨ho', e1, xs, rfl, z, q⟩ := w.own a _ ho
      exact ⟨a, xs, rfl, SqL.of e1, q, z⟩
    | _ => cases e
  | scr ns =>
    cases e
    unfold Rep at h
    obtain ⟨a, rfl, z, q⟩ := h
    exact ⟨a, _, rfl, q.sq, reps_of_ints, by simpa using z⟩
  | _ => cases e
/-- .. that is tracked plainly -/
theorem lk_hp (w : Wo K P G H) {d : D} {v : V} {ds : List D} (h : Rep K H G P d v) (e : lkL G d = some ds) (hs : ∀ ns, d ≠ .scr ns) : ∃ a xs, v = .ref a ∧ H a = some (.lst xs) ∧ Reps K H G P ds xs ∧ ds.length ≤ sizeLine := by
  cases d with
  | lst es =>
    cases e
    obtain ⟨a, xs, rfl, g, p, r, z, q⟩ := rep_l h
    exact ⟨a, xs, rfl, r, q, z⟩
  | ref a =>
    unfold Rep at h
    obtain ⟨rfl, o, ho⟩ := h
    simp only [lkL, ho] at e
    cases o with
    | lst es =>
      cases e
      obtain ⟨ho', e1, xs, rfl, z, q⟩ := w.own a _ ho
      exact ⟨a, xs, rfl, e1, q, z⟩
    | _ => cases e
  | scr ns => exact absurd rfl (hs ns)
  | _ => cases e
end
@[simp] def oI (C : Int → Int → Prop) (g : Int → Int → D) : OD := fun x y G Q => match x, y with
  | .int i, .int j => C i j ∧ Q (g i j) G
  | _, _ => False
@[simp] def oI0 (g : Int → Int → D) : OD := fun x y G Q => match x, y with
  | .int i, .int j => Q (g i j) G
  | _, _ => False
section
variable {K : PySem.W.Frag}
theorem lo_I {C : Int → Int → Prop} {g : Int → Int → V} {g' : Int → Int → D} (hg : ∀ i j H G P, Rep K H G P (g' i j) (g i j)) : LO K (rI C g) (oI C g') := fun P G H x y u v Q R h w rx ry k => by
  unfold oI at h
  split at h
  · rename_i i j
    rw [rep_i rx, rep_i ry]
    exact ⟨i, j, rfl, rfl, h.1, k _ G _ H (Step.refl _ _) w (hg i j H G P) h.2⟩
  · exact h.elim
theorem lo_I0 {g : Int → Int → V} {g' : Int → Int → D} (hg : ∀ i j H G P, Rep K H G P (g' i j) (g i j)) : LO K (rI0 g) (oI0 g') := fun P G H x y u v Q R h w rx ry k => by
  unfold oI0 at h
  split at h
  · rename_i i j
    rw [rep_i rx, rep_i ry]
    exact ⟨i, j, rfl, rfl, k _ G _ H (Step.refl _ _) w (hg i j H G P) h⟩
  · exact h.elim
end
/-- + : ints, texts, lists (a new one, frozen) -/
@[simp] def oAdd : OD := fun x y G Q => match x, y with
  | .int i, .int j => Q (.int (i + j)) G
  | .str i, .str j => i.length + j.length ≤ sizeLine ∧ Q (.str (i ++ j)) G
  | .scr _, _ => False
  | _, .scr _ => False
  | x, y => match lkL G x, lkL G y with
    | some ds, some es => ds.length + es.length ≤ sizeLine ∧ Q (.lst (ds ++ es)) G
    | _, _ => False
def rAddS' : R2 := fun x y H Q => ∃ i j, x = .str i ∧ y = .str j ∧ i.length + j.length ≤ sizeLine ∧ Q (.str (i ++ j)) H
def rAdd3 : R2 := fun x y H Q => (rI0 fun i j => .int (i + j)) x y H Q ∨ rAddS' x y H Q ∨ rCat x y H Q
theorem op_add3 {X : Cx} : OpR X (binaryOp .Add) rAdd3 := op_add.or (op_add_str.or op_cat)
theorem lo_add {K : PySem.W.Frag} : LO K rAdd3 oAdd := fun P G H x y u v Q R h w rx ry k => by
  have lists : ∀ ds es, lkL G x = some ds → lkL G y = some es → (∀ ns, x ≠ .scr ns) → (∀ ns, y ≠ .scr ns) → ds.length + es.length ≤ sizeLine ∧ Q (.lst (ds ++ es)) G → rAdd3 u v H R := fun ds es e1 e2 n1 n2 q => by
    obtain ⟨a, xs, rfl, r1, q1, z1⟩ := lk_hp w rx e1 n1
    obtain ⟨b, ys, rfl, r2, q2, z2⟩ := lk_hp w ry e2 n2
    refine .inr (.inr ⟨a, b, xs, ys, rfl, rfl, r1, r2, by rw [← q1.length, ← q2.length]; exact q.1, fun p hp => ?_⟩)
    have st : Step G H G (upd H p (.lst (xs ++ ys))) := Step.new hp
    obtain ⟨f1, f2⟩ := w.fresh hp
    exact k _ G _ _ st (w.new hp) (rep_lst f1 f2 upd_same (by rw [List.length_append]; exact q.1) ((q1.append q2).step st)) q.2
  unfold oAdd at h
  split at h
  · rw [rep_i rx, rep_i ry]
    exact .inl ⟨_, _, rfl, rfl, k _ G _ H (Step.refl _ _) w rep_int h⟩
  · rw [rep_s rx, rep_s ry]
    exact .inr (.inl ⟨_, _, rfl, rfl, h.1, k _ G _ H (Step.refl _ _) w rep_str h.2⟩)
  · exact h.elim
  · exact h.elim
  · have n3 : ∀ ns, x ≠ .scr ns := by assumption
    have n4 : ∀ ns, y ≠ .scr ns := by assumption
    split at h
    · rename_i ds es e1 e2
      exact lists ds es e1 e2 n3 n4 h
    · exact h.elim
@[simp] def oSub : OD := oI0 fun i j => .int (i - j)
@[simp] def oMul : OD := oI (fun i j => CMul i j) fun i j => .int (i * j)
@[simp] def oMod : OD := oI (fun _ j => 0 < j) fun i j => .int (i % j)
@[simp] def oDivW : OD := oI CDivW fun i j => .int (i / j)
@[simp] def oPow : OD := oI CPow fun i j => .int (i ^ j.toNat)
@[simp] def oLt : OD := oI0 fun i j => .bl (decide (i < j))
@[simp] def oLe : OD := oI0 fun i j => .bl (decide (i ≤ j))
@[simp] def oGt : OD := oI0 fun i j => .bl (decide (j < i))
@[simp] def oGe : OD := oI0 fun i j => .bl (decide (j ≤ i))
@[simp] def oNeg : UD := fun x G Q => match x with
  | .int i => Q (.int (-i)) G
  | _ => False
section
variable {X : Cx} {a b : Expr} {ta tb : TE} {ea eb : EE} {pos : Pos}
theorem j_bin {op : Operator} {r : R2} {o : OD} (ho : OpR X (binaryOp op) r) (lo : LO X.K r o) (ha : JE X a ea) (hb : JE X b eb) : JE X (.BinOp a op b pos) (eOp o ea eb) := ⟨pe_op ho ha.pe hb.pe, le_op lo ha.le hb.le⟩
theorem j_add (ha : JE X a ea) (hb : JE X b eb) : JE X (.BinOp a .Add b pos) (eOp oAdd ea eb) := j_bin op_add3 lo_add ha hb
theorem j_sub (ha : JE X a ea) (hb : JE X b eb) : JE X (.BinOp a .Sub b pos) (eOp oSub ea eb) := j_bin op_sub (lo_I0 fun _ _ _ _ _ => rep_int) ha hb
theorem j_mul (ha : JE X a ea) (hb : JE X b eb) : JE X (.BinOp a .Mult b pos) (eOp oMul ea eb) := j_bin op_mul (lo_I fun _ _ _ _ _ => rep_int) ha hb
theorem j_mod (ha : JE X a ea) (hb : JE X b eb) : JE X (.BinOp a .Mod b pos) (eOp oMod ea eb) := j_bin op_mod (lo_I fun _ _ _ _ _ => rep_int) ha hb
theorem j_div (ha : JE X a ea) (hb : JE X b eb) : JE X (.BinOp a .FloorDiv b pos) (eOp oDivW ea eb) := j_bin op_fdivW (lo_I fun _ _ _ _ _ => rep_int) ha hb
theorem j_pow (ha : JE X a ea) (hb : JE X b eb) : JE X (.BinOp a .Pow b pos) (eOp oPow ea eb) := j_bin op_pow (lo_I fun _ _ _ _ _ => rep_int) ha hb
theorem j_neg (ha : JE X a ea) : JE X (.UnaryOp .USub a pos) (eUn oNeg ea) := ⟨pe_un un_neg ha.pe, le_un (fun P G H x u Q R h w rx k => by
  unfold oNeg at h
  split at h
  · rw [rep_i rx]; exact ⟨_, rfl, k _ G _ H (Step.refl _ _) w rep_int h⟩
  · exact h.elim) ha.le⟩
end
end DL
set_option Elab.async false
set_option linter.all false
set_option maxRecDepth 100000
set_option maxHeartbeats 4000000
namespace DL
open PySem L2
mutual
@[simp] def toPy0 : D → Option PyData
  | .non => some .none
  | .bl b => some (.bool b)
  | .int i => some (.int i)
  | .str x => some (.str x)
  | .lst ds => (toPys0 ds).map .list
  | .tup ds => (toPys0 ds).map .tuple
  | .scr ns => some (.list (ns.map .int))
  | _ => none
@[simp] def toPys0 : List D → Option (List PyData)
  | [] => some []
  | d :: ds => match toPy0 d, toPys0 ds with
    | some a, some r => some (a :: r)
    | _, _ => none
end
mutual
@[simp] def toPy (G : Gp) : D → Option PyData
  | .non => some .none
  | .bl b => some (.bool b)
  | .int i => some (.int i)
  | .str x => some (.str x)
  | .lst ds => (toPys G ds).map .list
  | .tup ds => (toPys G ds).map .tuple
  | .scr ns => some (.list (ns.map .int))
  | .ref a => match G a with
    | some (.lst ds) => (toPys0 ds).map .list
    | _ => none
  | _ => none
@[simp] def toPys (G : Gp) : List D → Option (List PyData)
  | [] => some []
  | d :: ds => match toPy G d, toPys G ds with
    | some a, some r => some (a :: r)
    | _, _ => none
end
section
variable {K : PySem.W.Frag} {P : Addr → Prop} {G : Gp} {H : Hp}
theorem dpAll_ints : ∀ ns : List Int, DpAll K H (ns.map V.int) (ns.map PyData.int)
  | [] => .nil
  | n :: ns => .cons (.int n) (dpAll_ints ns)
theorem opt_map {α β : Type} {f : α → β} {o : Option α} {b : β} (h : o.map f = some b) : ∃ a, o = some a ∧ f a = b := by
  cases o with
  | none => cases h
  | some a => exact ⟨a, rfl, Option.some.inj h⟩
mutual
theorem dp_of0 : ∀ (d : D) {v : V} {p : PyData}, Rep K H G P d v → toPy0 d = some p → Dp K H v p
  | .non, v, p, h, e => by rw [toPy0] at e; cases e; rw [rep_n h]; exact .non
  | .bl b, v, p, h, e => by rw [toPy0] at e; cases e; rw [rep_b h]; exact .bl b
  | .int b, v, p, h, e => by rw [toPy0] at e; cases e; rw [rep_i h]; exact .int b
  | .str b, v, p, h, e => by rw [toPy0] at e; cases e; rw [rep_s h]; exact .str b
  | .lst ds, v, p, h, e => by
    rw [toPy0] at e
    obtain ⟨r, e1, rfl⟩ := opt_map e
    obtain ⟨a, xs, rfl, g, q, r1, z, q1⟩ := rep_l h
    exact .lst (SqL.of r1) (dps_of0 ds q1 e1)
  | .tup ds, v, p, h, e => by
    rw [toPy0] at e
    obtain ⟨r, e1, rfl⟩ := opt_map e
    obtain ⟨a, xs, rfl, g, q, r1, z, q1⟩ := rep_t h
    exact .tup (SqT.of r1) (dps_of0 ds q1 e1)
  | .exc a dd f x, v, p, h, e => by simp [toPy0] at e
  | .scr ns, v, p, h, e => by
    rw [toPy0] at e; cases e
    unfold Rep at h
    obtain ⟨a, rfl, z, q⟩ := h
    exact .lst q.sq (dpAll_ints ns)
  | .ty _, _, _, _, e => by rw [toPy0] at e <;> first | cases e | simp
  | .ref _, _, _, _, e => by rw [toPy0] at e <;> first | cases e | simp
  | .cl _, _, _, _, e => by rw [toPy0] at e <;> first | cases e | simp
  | .dct _ _, _, _, _, e => by rw [toPy0] at e <;> first | cases e | simp
theorem dps_of0 : ∀ (ds : List D) {vs : List V} {ps : List PyData}, Reps K H G P ds vs → toPys0 ds = some ps → DpAll K H vs ps
  | [], vs, ps, h, e => by rw [toPys0] at e; cases e; unfold Reps at h; subst h; exact .nil
  | d :: ds, vs, ps, h, e => by
    rw [toPys0] at e
    unfold Reps at h
    obtain ⟨x, r, rfl, h1, h2⟩ := h
    cases e1 : toPy0 d with
    | none => rw [e1] at e; simp at e
    | some a =>
      cases e2 : toPys0 ds with
      | none => rw [e1, e2] at e; simp at e
      | some q =>
        rw [e1, e2] at e
        cases e
        exact .cons (dp_of0 d h1 e1) (dps_of0 ds h2 e2)
end
mutual
theorem dp_of (w : Wo K P G H) : ∀ (d : D) {v : V} {p : PyData}, Rep K H G P d v → toPy G d = some p → Dp K H v p
  | .non, v, p, h, e => by rw [toPy] at e; cases e; rw [rep_n h]; exact .non
  | .bl b, v, p, h, e => by rw [toPy] at e; cases e; rw [rep_b h]; exact .bl b
  | .int b, v, p, h, e => by rw [toPy] at e; cases e; rw [rep_i h]; exact .int b
  | .str b, v, p, h, e => by rw [toPy] at e; cases e; rw [rep_s h]; exact .str b
  | .lst ds, v, p, h, e => by
    rw [toPy] at e
    obtain ⟨r, e1, rfl⟩ := opt_map e
    obtain ⟨a, xs, rfl, g, q, r1, z, q1⟩ := rep_l h
    exact .lst (SqL.of r1) (dps_of w ds q1 e1)
  | .tup ds, v, p, h, e => by
    rw [toPy] at e
    obtain ⟨r, e1, rfl⟩ := opt_map e
    obtain ⟨a, xs, rfl, g, q, r1, z, q1⟩ := rep_t h
    exact .tup (SqT.of r1) (dps_of w ds q1 e1)
  | .exc a dd f x, v, p, h, e => by simp [toPy] at e
  | .scr ns, v, p, h, e => by
    rw [toPy] at e; cases e
    unfold Rep at h
    obtain ⟨a, rfl, z, q⟩ := h
    exact .lst q.sq (dpAll_ints ns)
  | .ref a, v, p, h, e => by
    rw [toPy] at e
    unfold Rep at h
    obtain ⟨rfl, o, ho⟩ := h
    rw [ho] at e
    cases o with
    | lst ds =>
      obtain ⟨r, e1, rfl⟩ := opt_map e
      obtain ⟨ho', e2, xs, rfl, z, q⟩ := w.own a _ ho
      exact .lst (SqL.of e2) (dps_of0 ds q e1)
    | _ => cases e
  | .ty _, _, _, _, e => by rw [toPy] at e <;> first | cases e | simp
  | .cl _, _, _, _, e => by rw [toPy] at e <;> first | cases e | simp
  | .dct _ _, _, _, _, e => by rw [toPy] at e <;> first | cases e | simp
theorem dps_of (w : Wo K P G H) : ∀ (ds : List D) {vs : List V} {ps : List PyData}, Reps K H G P ds vs → toPys G ds = some ps → DpAll K H vs ps
  | [], vs, ps, h, e => by rw [toPys] at e; cases e; unfold Reps at h; subst h; exact .nil
  | d :: ds, vs, ps, h, e => by
    rw [toPys] at e
    unfold Reps at h
    obtain ⟨x, r, rfl, h1, h2⟩ := h
    cases e1 : toPy G d with
    | none => rw [e1] at e; simp at e
    | some a =>
      cases e2 : toPys G ds with
      | none => rw [e1, e2] at e; simp at e
      | some q =>
        rw [e1, e2] at e
        cases e
        exact .cons (dp_of w d h1 e1) (dps_of w ds h2 e2)
end
end
@[simp] def oEq : OD := fun x y G Q => match toPy G x, toPy G y with
  | some a, some b => SeqAt.shaped a = true ∧ SeqAt.shaped b = true ∧ Q (.bl (PyData.eqv a b)) G
  | _, _ => False
@[simp] def oNe : OD := fun x y G Q => match toPy G x, toPy G y with
  | some a, some b => SeqAt.shaped a = true ∧ SeqAt.shaped b = true ∧ Q (.bl (!PyData.eqv a b)) G
  | _, _ => False
@[simp] def oIsN : OD := fun x y G Q => match y with
  | .non => match x with
    | .non => Q (.bl true) G
    | _ => Q (.bl false) G
  | _ => False
@[simp] def oNotN : OD := fun x y G Q => match y with
  | .non => match x with
    | .non => Q (.bl false) G
    | _ => Q (.bl true) G
  | _ => False
/-- flat data -/
@[simp] def flD : D → Option V
  | .non => some .non
  | .bl b => some (.bl b)
  | .int i => some (.int i)
  | .str x => some (.str x)
  | _ => none
@[simp] def flDs : List D → Option (List V)
  | [] => some []
  | d :: ds => match flD d, flDs ds with
    | some a, some r => some (a :: r)
    | _, _ => none
/-- a list's or a tuple's items -/
def lkQ (G : Gp) : D → Option (List D)
  | .tup ds => some ds
  | d => lkL G d
@[simp] theorem lkQ_lst {G : Gp} {ds : List D} : lkQ G (.lst ds) = some ds := rfl
@[simp] theorem lkQ_tup {G : Gp} {ds : List D} : lkQ G (.tup ds) = some ds := rfl
@[simp] theorem lkQ_ref {G : Gp} {a : Addr} : lkQ G (.ref a) = lkL G (.ref a) := rfl
@[simp] theorem lkQ_scr {G : Gp} {ns : List Int} : lkQ G (.scr ns) = some (ns.map D.int) := rfl
@[simp] theorem lkQ_int {G : Gp} {i : Int} : lkQ G (.int i) = none := rfl
@[simp] theorem lkQ_str {G : Gp} {i : Str} : lkQ G (.str i) = none := rfl
@[simp] theorem lkQ_non {G : Gp} : lkQ G .non = none := rfl
@[simp] theorem lkQ_bl {G : Gp} {b : Bool} : lkQ G (.bl b) = none := rfl
@[simp] theorem lkQ_dct {G : Gp} {k : List Key} {ds : List D} : lkQ G (.dct k ds) = none := rfl
@[simp] def oIn (neg : Bool) : OD := fun x y G Q => match flD x, (lkQ G y).bind flDs with
  | some a, some r => Q (.bl (if neg then !inV a r else inV a r)) G
  | _, _ => False
/-- one sign in a text -/
@[simp] def oInS : OD := fun x y G Q => match x, y with
  | .str a, .str z => (match a.cps.toList with
    | [c] => Q (.bl (decide (c ∈ z.cps.toList))) G
    | _ => False)
  | _, _ => False
@[simp] def oNotInS : OD := fun x y G Q => match x, y with
  | .str a, .str z => (match a.cps.toList with
    | [c] => Q (.bl (!decide (c ∈ z.cps.toList))) G
    | _ => False)
  | _, _ => False
section
variable {K : PySem.W.Frag}
theorem lo_eq : LO K (rEqD K) oEq := fun P G H x y u v Q R h w rx ry k => by
  unfold oEq at h
  split at h
  · rename_i a b e1 e2
    exact ⟨a, b, dp_of w x rx e1, dp_of w y ry e2, h.1, h.2.1, k _ G _ H (Step.refl _ _) w rep_bl h.2.2⟩
  · exact h.elim
theorem lo_ne : LO K (rNeD K) oNe := fun P G H x y u v Q R h w rx ry k => by
  unfold oNe at h
  split at h
  · rename_i a b e1 e2
    exact ⟨a, b, dp_of w x rx e1, dp_of w y ry e2, h.1, h.2.1, k _ G _ H (Step.refl _ _) w rep_bl h.2.2⟩
  · exact h.elim
/-- what may be read as a list or a tuple -/
theorem lkQ_sq {P : Addr → Prop} {G : Gp} {H : Hp} (w : Wo K P G H) {d : D} {v : V} {ds : List D} (h : Rep K H G P d v) (e : lkQ G d = some ds) : ∃ a xs, v = .ref a ∧ (SqL K H a xs ∨ SqT K H a xs) ∧ Reps K H G P ds xs ∧ ds.length ≤ sizeLine := by
  by_cases t : ∃ es, d = .tup es
  · obtain ⟨es, rfl⟩ := t
    cases e
    obtain ⟨a, xs, rfl, g, q, r1, z, q1⟩ := rep_t h
    exact ⟨a, xs, rfl, .inr (SqT.of r1), q1, z⟩
  · have e' : lkL G d = some ds := by
      cases d with
      | tup es => exact absurd ⟨es, rfl⟩ t
      | _ => exact e
    obtain ⟨a, xs, rfl, r, q, z⟩ := lk_sq w h e'
    exact ⟨a, xs, rfl, .inl r, q, z⟩
end
@[simp] def eT (t : EE) : ET := fun s G Q => t s G fun x G1 => match x with
  | .bl b => Q b G1
  | _ => False
theorem lt_test {K : PySem.W.Frag} {te : TE} {t : EE} (h : LE K te t) : LT K (tTest te) (eT t) := fun P s G Q σ H R q r k => by
  refine h P s G _ σ H _ q r fun d G' v H' st w rp q' => ?_
  cases d with
  | bl b => rw [rep_b rp]; exact ⟨b, rfl, k b G' H' st w q'⟩
  | _ => exact q'.elim
/-- a op b op' c -/
@[simp] def eChain (r r' : OD) (ta tb tc : EE) : EE := fun s G Q => ta s G fun x G1 => tb s G1 fun y G2 => r x y G2 fun z G3 => match z with
  | .bl k => if k = true then tc s G3 fun w G4 => r' y w G4 Q else Q (.bl false) G3
  | _ => False
theorem le_chain {K : PySem.W.Frag} {r r' : R2} {o o' : OD} {ta tb tc : TE} {a b c : EE} (lo : LO K r o) (lo' : LO K r' o') (la : LE K ta a) (lb : LE K tb b) (lc : LE K tc c) : LE K (tChain r r' ta tb tc) (eChain o o' a b c) := fun P s G Q σ H R h rl k => by
  refine la P s G _ σ H _ h rl fun x G1 u H1 s1 w1 r1 h1 => ?_
  refine lb P s G1 _ σ H1 _ h1 (rl.step s1 w1) fun y G2 v H2 s2 w2 r2 h2 => ?_
  refine lo P G2 H2 x y u v _ _ h2 w2 (r1.step s2) r2 fun z G3 vz H3 s3 w3 r3 h3 => ?_
  cases z with
  | bl bz =>
    rw [rep_b r3]
    refine ⟨bz, rfl, ?_⟩
    cases bz with
    | true =>
      refine lc P s G3 _ σ H3 _ h3 (rl.step ((s1.trans s2).trans s3) w3) fun z G4 vz H4 s4 w4 r4 h4 => ?_
      exact lo' P G4 H4 y z v vz Q R h4 w4 ((r2.step s3).step s4) r4 fun d G5 w H5 s5 w5 r5 q5 => k d G5 w H5 ((((s1.trans s2).trans s3).trans s4).trans s5) w5 r5 q5
    | false =>
      exact k _ G3 _ H3 ((s1.trans s2).trans s3) w3 rep_bl h3
  | _ => exact h3.elim
section
variable {X : Cx} {a b c : Expr} {ta tb tc : TE} {ea eb ec : EE} {pos : Pos}
theorem j_cmp {op : CmpOp} {r : R2} {o : OD} (ho : OpR X (compareOp op) r) (lo : LO X.K r o) (ha : JE X a ea) (hb : JE X b eb) (hm : behindInMarks op b = false) : JE X (.Compare a [op] [b] pos) (eOp o ea eb) := ⟨pe_cmpR ho ha.pe hb.pe hm, le_op lo ha.le hb.le⟩
theorem jt_cmp {op : CmpOp} {r : R2} {o : OD} (ho : OpR X (compareOp op) r) (lo : LO X.K r o) (ha : JE X a ea) (hb : JE X b eb) (hm : behindInMarks op b = false) : JT X (.Compare a [op] [b] pos) (eT (eOp o ea eb)) := ⟨pt_cmpR ho ha.pe hb.pe hm, lt_test (le_op lo ha.le hb.le)⟩
theorem j_chain {op op' : CmpOp} {r r' : R2} {o o' : OD} (ho : OpR X (compareOp op) r) (lo : LO X.K r o) (ho' : OpR X (compareOp op') r') (lo' : LO X.K r' o') (ha : JE X a ea) (hb : JE X b eb) (hc : JE X c ec)
    (hm : lastMarks [op, op'] [b, c] = false := by with_unfolding_all rfl) : JE X (.Compare a [op, op'] [b, c] pos) (eChain o o' ea eb ec) := ⟨pe_chain ho ho' ha.pe hb.pe hc.pe hm, le_chain lo lo' ha.le hb.le hc.le⟩
theorem lo_lt {K : PySem.W.Frag} : LO K (rI0 fun i j => .bl (decide (i < j))) oLt := lo_I0 fun _ _ _ _ _ => rep_bl
theorem lo_le {K : PySem.W.Frag} : LO K (rI0 fun i j => .bl (decide (i ≤ j))) oLe := lo_I0 fun _ _ _ _ _ => rep_bl
theorem lo_gt {K : PySem.W.Frag} : LO K (rI0 fun i j => .bl (decide (j < i))) oGt := lo_I0 fun _ _ _ _ _ => rep_bl
theorem lo_ge {K : PySem.W.Frag} : LO K (rI0 fun i j => .bl (decide (j ≤ i))) oGe := lo_I0 fun _ _ _ _ _ => rep_bl
end
def truD (G : Gp) : D → Option Bool
  | .non => some false
  | .bl b => some b
  | .int i => some (i != 0)
  | .str y => if y.length ≤ sizeLine then some ((y.length : Int) != 0) else none
  | .tup ds => some (!ds.isEmpty)
  | .lst ds => some (!ds.isEmpty)
  | .ref a => match G a with
    | some (.lst ds) => some (!ds.isEmpty)
    | some (.dct ks _) => some (!ks.isEmpty)
    | _ => none
  | .dct ks _ => some (!ks.isEmpty)
  | _ => none
@[simp] theorem truD_non {G : Gp} : truD G .non = some false := rfl
@[simp] theorem truD_bl {G : Gp} {b : Bool} : truD G (.bl b) = some b := rfl
@[simp] theorem truD_int {G : Gp} {i : Int} : truD G (.int i) = some (i != 0) := rfl
@[simp] theorem truD_str {G : Gp} {y : Str} : truD G (.str y) = if y.length ≤ sizeLine then some ((y.length : Int) != 0) else none := rfl
@[simp] theorem truD_tup {G : Gp} {ds : List D} : truD G (.tup ds) = some (!ds.isEmpty) := rfl
@[simp] theorem truD_lst {G : Gp} {ds : List D} : truD G (.lst ds) = some (!ds.isEmpty) := rfl
@[simp] theorem truD_dct {G : Gp} {ks : List Key} {ds : List D} : truD G (.dct ks ds) = some (!ks.isEmpty) := rfl
@[simp] theorem truD_ref {G : Gp} {a : Addr} : truD G (.ref a) = match G a with
    | some (.lst ds) => some (!ds.isEmpty)
    | some (.dct ks _) => some (!ks.isEmpty)
    | _ => none := rfl
theorem reps_empty {K : PySem.W.Frag} {P : Addr → Prop} {G : Gp} {H : Hp} {ds : List D} {xs : List V} (h : Reps K H G P ds xs) : (!ds.isEmpty) = !xs.isEmpty := by
  have l := h.length
  cases ds <;> cases xs <;> first | rfl | simp at l
theorem zip_empty {ks : List Key} {xs : List V} {n : Nat} (h : ks.length = n) (h2 : n = xs.length) : (!ks.isEmpty) = !(ks.zip xs).isEmpty := by
  cases ks <;> cases xs <;> first | rfl | (simp at h h2; omega)
theorem tru_of {K : PySem.W.Frag} {P : Addr → Prop} {G : Gp} {H : Hp} (w : Wo K P G H) {d : D} {v : V} {b : Bool} (h : Rep K H G P d v) (e : truD G d = some b) : TruV K v H b := by
  cases d with
  | non => cases e; rw [rep_n h]; rfl
  | bl c => cases e; rw [rep_b h]; rfl
  | int c => cases e; rw [rep_i h]; rfl
  | str c =>
    rw [rep_s h]
    simp only [truD] at e
    split at e
    · cases e; rename_i z; exact ⟨z, rfl⟩
    · cases e
  | tup ds =>
    cases e
    obtain ⟨a, xs, rfl, g, q, r1, z, q1⟩ := rep_t h
    exact .inr (.inl ⟨xs, SqT.of r1, reps_empty q1⟩)
  | lst ds =>
    cases e
    obtain ⟨a, xs, rfl, g, q, r1, z, q1⟩ := rep_l h
    exact .inl ⟨xs, SqL.of r1, reps_empty q1⟩
  | ref a =>
    unfold Rep at h
    obtain ⟨rfl, o, ho⟩ := h
    simp only [truD, ho] at e
    obtain ⟨u, e1, r⟩ := w.own a o ho
    cases o with
    | lst ds => cases e; obtain ⟨xs, rfl, z, q⟩ := r; exact .inl ⟨xs, SqL.of e1, reps_empty q⟩
    | dct ks ds => cases e; obtain ⟨xs, rfl, z, q⟩ := r; exact .inr (.inr ⟨_, e1, zip_empty z q.length⟩)
    | _ => cases e
  | dct ks ds =>
    cases e
    unfold Rep at h
    obtain ⟨a, xs, rfl, g, p, r, z, q⟩ := h
    exact .inr (.inr ⟨_, r, zip_empty z q.length⟩)
  | _ => cases e
@[simp] def eTru (t : EE) : ET := fun s G Q => t s G fun x G1 => match truD G1 x with
  | some b => Q b G1
  | none => False
@[simp] def eAndT (ta tb : EE) : EE := fun s G Q => ta s G fun x G1 => match truD G1 x with
  | some k => if k = true then tb s G1 Q else Q x G1
  | none => False
@[simp] def eOrT (ta tb : EE) : EE := fun s G Q => ta s G fun x G1 => match truD G1 x with
  | some k => if k = true then Q x G1 else tb s G1 Q
  | none => False
@[simp] def eNotT (ta : EE) : EE := fun s G Q => ta s G fun x G1 => match truD G1 x with
  | some k => Q (.bl (!k)) G1
  | none => False
@[simp] def eAnd (t u : ET) : ET := fun s G Q => t s G fun c G1 => if c = true then u s G1 Q else Q false G1
@[simp] def eOr (t u : ET) : ET := fun s G Q => t s G fun c G1 => if c = true then Q true G1 else u s G1 Q
@[simp] def eNot (t : ET) : ET := fun s G Q => t s G fun c G1 => Q (!c) G1
@[simp] def eIf (t : ET) (ta tb : EE) : EE := fun s G Q => t s G fun c G1 => if c = true then ta s G1 Q else tb s G1 Q
section
variable {K : PySem.W.Frag} {te tu : TE} {a b : EE} {tt tv : TT} {t u : ET}
theorem lt_tru (h : LE K te a) : LT K (fun σ H Q => te σ H fun x H' => ∃ k, TruV K x H' k ∧ Q k H') (eTru a) := fun P s G Q σ H R q r k => by
  refine h P s G _ σ H _ q r fun d G' v H' st w rp q' => ?_
  cases e : truD G' d with
  | none => rw [e] at q'; exact q'.elim
  | some b => rw [e] at q'; exact ⟨b, tru_of w rp e, k b G' H' st w q'⟩
theorem le_andT (ha : LE K te a) (hb : LE K tu b) : LE K (tAndT K te tu) (eAndT a b) := fun P s G Q σ H R q r k => by
  refine ha P s G _ σ H _ q r fun d G' v H' st w rp q' => ?_
  cases e : truD G' d with
  | none => rw [e] at q'; exact q'.elim
  | some c =>
    rw [e] at q'
    refine ⟨c, tru_of w rp e, ?_⟩
    cases c with
    | true => exact hb P s G' Q σ H' R q' (r.step st w) fun d G2 v H2 s2 w2 r2 q2 => k d G2 v H2 (st.trans s2) w2 r2 q2
    | false => exact k d G' v H' st w rp q'
theorem le_notT (ha : LE K te a) : LE K (tNotT K te) (eNotT a) := fun P s G Q σ H R q r k => by
  refine ha P s G _ σ H _ q r fun d G' v H' st w rp q' => ?_
  cases e : truD G' d with
  | none => rw [e] at q'; exact q'.elim
  | some c => rw [e] at q'; exact ⟨c, tru_of w rp e, k _ G' _ H' st w rep_bl q'⟩
theorem lt_and (ha : LT K tt t) (hb : LT K tv u) : LT K (tAnd tt tv) (eAnd t u) := fun P s G Q σ H R q r k => by
  refine ha P s G _ σ H _ q r fun c G' H' st w q' => ?_
  cases c with
  | true => exact hb P s G' Q σ H' R q' (r.step st w) fun b G2 H2 s2 w2 q2 => k b G2 H2 (st.trans s2) w2 q2
  | false => exact k false G' H' st w q'
theorem lt_or (ha : LT K tt t) (hb : LT K tv u) : LT K (tOr tt tv) (eOr t u) := fun P s G Q σ H R q r k => by
  refine ha P s G _ σ H _ q r fun c G' H' st w q' => ?_
  cases c with
  | false => exact hb P s G' Q σ H' R q' (r.step st w) fun b G2 H2 s2 w2 q2 => k b G2 H2 (st.trans s2) w2 q2
  | true => exact k true G' H' st w q'
theorem lt_not (ha : LT K tt t) : LT K (tNot tt) (eNot t) := fun P s G Q σ H R q r k => ha P s G _ σ H _ q r fun c G' H' st w q' => k _ G' H' st w q'
end
section
variable {X : Cx} {a b c : Expr} {rest : List Expr} {ta tb : TE} {ea eb : EE} {tt tv : TT} {et eu : ET} {pos : Pos}
theorem jt_tru (ha : JE X a ea) (he : ∀ whole, isTrue a X.env whole = (do let v ← whole; standAt a.pos; holding [v] (truthy v)) := by intro _; rfl) : JT X a (eTru ea) := ⟨pt_truth ha.pe he, lt_tru ha.le⟩
theorem JW.jt (h : JW X a et) : JT X a et := ⟨h.pw.pt, h.lt⟩
theorem jw_and1 (ha : JT X a et) : JW X (.BoolOp .And [a] pos) et := ⟨pw_and1 ha.pt, ha.lt⟩
theorem jw_or1 (ha : JT X a et) : JW X (.BoolOp .Or [a] pos) et := ⟨pw_or1 ha.pt, ha.lt⟩
theorem jw_and (ha : JT X a et) (hb : JW X (.BoolOp .And (b :: rest) pos) eu) : JW X (.BoolOp .And (a :: b :: rest) pos) (eAnd et eu) := ⟨pw_and ha.pt hb.pw, lt_and ha.lt hb.lt⟩
theorem jw_or (ha : JT X a et) (hb : JW X (.BoolOp .Or (b :: rest) pos) eu) : JW X (.BoolOp .Or (a :: b :: rest) pos) (eOr et eu) := ⟨pw_or ha.pt hb.pw, lt_or ha.lt hb.lt⟩
theorem jt_not (ha : JT X a et) : JT X (.UnaryOp .Not a pos) (eNot et) := ⟨pt_not ha.pt, lt_not ha.lt⟩
theorem j_one {op} (h : JE X a ea) : JE X (.BoolOp op [a] pos) ea := ⟨pe_one h.pe, h.le⟩
theorem j_and (ha : JE X a ea) (hb : JE X (.BoolOp .And (b :: rest) pos) eb) : JE X (.BoolOp .And (a :: b :: rest) pos) (eAndT ea eb) := ⟨pe_andT ha.pe hb.pe, le_andT ha.le hb.le⟩
theorem j_not (ha : JE X a ea) : JE X (.UnaryOp .Not a pos) (eNotT ea) := ⟨pe_notT ha.pe, le_notT ha.le⟩
end
end DL
set_option Elab.async false
set_option linter.all false
set_option maxRecDepth 100000
set_option maxHeartbeats 4000000
namespace DL
open PySem L2
@[simp] def oIx : OD := fun x y G Q => match y with
  | .int i => (match x with
    | .str z => z.length ≤ sizeLine ∧ (match atI z.cps.toList i with
      | some c => Q (.str ⟨#[c]⟩) G
      | none => False)
    | x => (match lkQ G x with
      | some ds => (match atI ds i with
        | some d => Q d G
        | none => False)
      | none => False))
  | _ => False
section
variable {K : PySem.W.Frag} {P : Addr → Prop} {G : Gp} {H : Hp}
theorem reps_at {ds : List D} {xs : List V} {i : Int} {d : D} (q : Reps K H G P ds xs) (h : atI ds i = some d) : ∃ v, atI xs i = some v ∧ Rep K H G P d v := by
  unfold atI at h ⊢
  rw [← q.length]
  cases e : ixN ds.length i with
  | none => rw [e] at h; cases h
  | some j =>
    rw [e] at h
    obtain ⟨v, e1, e2⟩ := q.get (show ds[j]? = some d from h)
    exact ⟨v, e1, e2⟩
theorem lo_ix : LO K (rIx K) oIx := fun P G H x y u v Q R h w rx ry k => by
  unfold oIx at h
  split at h
  · rename_i i
    rw [rep_i ry]
    split at h
    · rename_i z
      rw [rep_s rx]
      obtain ⟨hz, h⟩ := h
      split at h
      · rename_i c e
        exact .inr (.inr ⟨z, i, c, rfl, rfl, hz, e, k _ G _ H (Step.refl _ _) w rep_str h⟩)
      · exact h.elim
    · split at h
      · rename_i ds e
        split at h
        · rename_i d e2
          obtain ⟨a, xs, rfl, s, q, z⟩ := lkQ_sq w rx e
          obtain ⟨v', e3, r3⟩ := reps_at q e2
          have q' := k _ G _ H (Step.refl _ _) w r3 h
          rcases s with s | s
          · exact .inl ⟨a, xs, i, v', rfl, rfl, s, e3, q'⟩
          · exact .inr (.inl ⟨a, xs, i, v', rfl, rfl, s, e3, q'⟩)
        · exact h.elim
      · exact h.elim
  · exact h.elim
end
abbrev EO := Sd → Gp → (Option Int → Gp → Prop) → Prop
def LPo (K : PySem.W.Frag) (te : TO) (t : EO) : Prop := ∀ (P : Addr → Prop) (s : Sd) (G : Gp) (Q : Option Int → Gp → Prop) (σ : St) (H : Hp) (R : Option Int → Hp → Prop), t s G Q → Rl K P s G σ H →
  (∀ b G' H', Step G H G' H' → Wo K P G' H' → Q b G' → R b H') → te σ H R
def upO (K : PySem.W.Frag) (t : EO) : TO := fun σ H R => ∃ (P : Addr → Prop) (s : Sd) (G : Gp) (Q : Option Int → Gp → Prop), t s G Q ∧ Rl K P s G σ H ∧ ∀ b G' H', Step G H G' H' → Wo K P G' H' → Q b G' → R b H'
inductive JO (X : Cx) (e : Option Expr) (t : EO) : Prop where
  | mk {te : TO} (a : PO X e te) (b : LPo X.K te t) : JO X e t
theorem JO.po {X : Cx} {e : Option Expr} {t : EO} (h : JO X e t) : PO X e (upO X.K t) := by
  obtain ⟨a, b⟩ := h
  exact ⟨fun pins s σ H Q I ⟨P, s', G, Q', h1, h2, h3⟩ => a.run pins s σ H Q I (b P s' G Q' σ H Q h1 h2 h3)⟩
theorem JO.lp {X : Cx} {e : Option Expr} {t : EO} (h : JO X e t) : LPo X.K (upO X.K t) t := fun P s G Q σ H R h1 h2 h3 => ⟨P, s, G, Q, h1, h2, h3⟩
@[simp] def eNoPart : EO := fun _ G Q => Q none G
@[simp] def ePart (t : EE) : EO := fun s G Q => t s G fun x G1 => match x with
  | .int i => Q (some i) G1
  | _ => False
def cutD (xs : List D) (lo hi : Option Int) : List D := (xs.drop (HT.sIx xs.length 0 lo)).take (HT.sIx xs.length xs.length hi - HT.sIx xs.length 0 lo)
theorem cut_reps {K : PySem.W.Frag} {P : Addr → Prop} {G : Gp} {H : Hp} {ds : List D} {xs : List V} {lo hi : Option Int} (q : Reps K H G P ds xs) : Reps K H G P (cutD ds lo hi) (cutV xs lo hi) := by
  unfold cutD cutV
  rw [q.length]
  exact (q.drop _).take _
theorem cutD_length (xs : List D) (lo hi : Option Int) : (cutD xs lo hi).length ≤ xs.length := by
  unfold cutD; rw [List.length_take, List.length_drop]; omega
section
variable {X : Cx} {K : PySem.W.Frag}
theorem jo_none : JO X none eNoPart := ⟨po_none, fun P s G Q σ H R h r k => k _ G H (Step.refl _ _) r.wo h⟩
theorem jo_some {e : Expr} {t : EE} (h : JE X e t) : JO X (some e) (ePart t) := ⟨po_some h.pe, fun P s G Q σ H R q r k => by
  refine h.le P s G _ σ H _ q r fun d G' v H' st w rp q' => ?_
  cases d with
  | int i => rw [rep_i rp]; exact ⟨i, rfl, k _ G' H' st w q'⟩
  | _ => exact q'.elim⟩
/-- a list's slice -/
@[simp] def eSlL (te : EE) (tl th : EO) : EE := fun s G Q => te s G fun x G1 => tl s G1 fun l G2 => th s G2 fun u G3 => match lkL G3 x with
  | some ds => Q (.lst (cutD ds l u)) G3
  | none => False
/-- a tuple's slice that is not the whole -/
@[simp] def eSlT (te : EE) (tl th : EO) : EE := fun s G Q => te s G fun x G1 => tl s G1 fun l G2 => th s G2 fun u G3 => match x with
  | .tup ds => ¬ (HT.sIx ds.length 0 l = 0 ∧ HT.sIx ds.length ds.length u = ds.length) ∧ Q (.tup (cutD ds l u)) G3
  | _ => False
theorem j_slL {e : Expr} {lo hi : Option Expr} {t : EE} {el eh : EO} {pos p2 : Pos} (he : JE X e t) (hl : JO X lo el) (hu : JO X hi eh) : JE X (.Subscript e (.Slice lo hi none p2) pos) (eSlL t el eh) :=
  ⟨pe_slice sl_list he.pe hl.po hu.po, fun P s G Q σ H R h r k => by
    refine he.le P s G _ σ H _ h r fun x G1 u H1 s1 w1 r1 h1 => ?_
    refine hl.lp P s G1 _ σ H1 _ h1 (r.step s1 w1) fun l G2 H2 s2 w2 h2 => ?_
    refine hu.lp P s G2 _ σ H2 _ h2 (r.step (s1.trans s2) w2) fun m G3 H3 s3 w3 h3 => ?_
    have r3 := (r1.step s2).step s3
    cases e : lkL G3 x with
    | none => rw [e] at h3; exact h3.elim
    | some ds =>
      rw [e] at h3
      obtain ⟨a, xs, rfl, s, q, z⟩ := lk_sq w3 r3 e
      refine ⟨a, xs, rfl, s, fun p hp => ?_⟩
      obtain ⟨f1, f2⟩ := w3.fresh hp
      have st : Step G3 H3 G3 (upd H3 p (.lst (cutV xs l m))) := Step.new hp
      exact k _ G3 _ _ (((s1.trans s2).trans s3).trans st) (w3.new hp) (rep_lst f1 f2 upd_same (Nat.le_trans (cutD_length _ _ _) z) ((cut_reps q).step st)) h3⟩
theorem j_slT {e : Expr} {lo hi : Option Expr} {t : EE} {el eh : EO} {pos p2 : Pos} (he : JE X e t) (hl : JO X lo el) (hu : JO X hi eh) : JE X (.Subscript e (.Slice lo hi none p2) pos) (eSlT t el eh) :=
  ⟨pe_slice sl_tup he.pe hl.po hu.po, fun P s G Q σ H R h r k => by
    refine he.le P s G _ σ H _ h r fun x G1 u H1 s1 w1 r1 h1 => ?_
    refine hl.lp P s G1 _ σ H1 _ h1 (r.step s1 w1) fun l G2 H2 s2 w2 h2 => ?_
    refine hu.lp P s G2 _ σ H2 _ h2 (r.step (s1.trans s2) w2) fun m G3 H3 s3 w3 h3 => ?_
    have r3 := (r1.step s2).step s3
    cases x with
    | tup ds =>
      obtain ⟨a, xs, rfl, g, p, rr, z, q⟩ := rep_t r3
      refine ⟨a, xs, rfl, SqT.of rr, by rw [← q.length]; exact h3.1, fun p hp => ?_⟩
      obtain ⟨f1, f2⟩ := w3.fresh hp
      have st : Step G3 H3 G3 (upd H3 p (.tup (cutV xs l m))) := Step.new hp
      exact k _ G3 _ _ (((s1.trans s2).trans s3).trans st) (w3.new hp) (rep_tup f1 f2 upd_same (Nat.le_trans (cutD_length _ _ _) z) ((cut_reps q).step st)) h3.2
    | _ => exact h3.elim⟩
theorem j_ix {a b : Expr} {ea eb : EE} {pos : Pos} (ha : JE X a ea) (hb : JE X b eb) (hs : PlainIx b := by intro _ _; rfl) : JE X (.Subscript a b pos) (eOp oIx ea eb) := ⟨pe_ix ix_seq ha.pe hb.pe hs, le_op lo_ix ha.le hb.le⟩
@[simp] def eNil : EA := fun _ G Q => Q [] G
@[simp] def eCons (ta : EE) (tr : EA) : EA := fun s G Q => ta s G fun x G1 => tr s G1 fun xs G2 => Q (x :: xs) G2
theorem la_nil : LA K 0 tNil eNil := fun P s G Q σ H R h r k => k [] G [] H (Step.refl _ _) r.wo reps_nil rfl h
theorem la_cons {n : Nat} {ta : TE} {tr : TA} {ea : EE} {er : EA} (ha : LE K ta ea) (hr : LA K n tr er) : LA K (n + 1) (tCons ta tr) (eCons ea er) := fun P s G Q σ H R h r k => by
  refine ha P s G _ σ H _ h r fun x G1 u H1 s1 w1 r1 h1 => ?_
  exact hr P s G1 _ σ H1 _ h1 (r.step s1 w1) fun xs G2 us H2 s2 w2 r2 l2 h2 => k _ G2 _ H2 (s1.trans s2) w2 (reps_cons (r1.step s2) r2) (by rw [List.length_cons, l2]) h2
theorem ja_nil : JA X [] eNil := ⟨pa_nil, la_nil⟩
theorem ja_cons {e : Expr} {es : List Expr} {ee : EE} {ea : EA} (ha : JE X e ee) (hr : JA X es ea) (hs : starEach (e :: es) X.env = (false, eval e X.env) :: starEach es X.env := by rfl) : JA X (e :: es) (eCons ee ea) := ⟨pa_cons ha.pe hr.pa hs, la_cons ha.le hr.la⟩
/-- a tuple; a list, frozen; a list, owned -/
@[simp] def eTup (t : EA) : EE := fun s G Q => t s G fun xs G1 => xs.length ≤ sizeLine ∧ Q (.tup xs) G1
@[simp] def eLst (t : EA) : EE := fun s G Q => t s G fun xs G1 => xs.length ≤ sizeLine ∧ Q (.lst xs) G1
@[simp] def eLstO (t : EA) : EE := fun s G Q => t s G fun xs G1 => xs.length ≤ sizeLine ∧ ∀ p, G1 p = none → Q (.ref p) (gput G1 p (.lst xs))
theorem j_tup {es : List Expr} {ea : EA} {x1 : Nat} {pos : Pos} (h : JA X es ea) : JE X (.Tuple es x1 pos) (eTup ea) := ⟨pe_tup h.pa, fun P s G Q σ H R q r k => by
  refine h.la P s G _ σ H _ q r fun xs G1 us H1 s1 w1 r1 _ h1 => ?_
  refine ⟨by rw [← r1.length]; exact h1.1, fun p hp => ?_⟩
  obtain ⟨f1, f2⟩ := w1.fresh hp
  have st : Step G1 H1 G1 (upd H1 p (.tup us)) := Step.new hp
  exact k _ G1 _ _ (s1.trans st) (w1.new hp) (rep_tup f1 f2 upd_same h1.1 (r1.step st)) h1.2⟩
theorem j_lst {es : List Expr} {ea : EA} {pos : Pos} (h : JA X es ea) : JE X (.List es pos) (eLst ea) := ⟨pe_lst h.pa, fun P s G Q σ H R q r k => by
  refine h.la P s G _ σ H _ q r fun xs G1 us H1 s1 w1 r1 _ h1 => ?_
  refine ⟨by rw [← r1.length]; exact h1.1, fun p hp => ?_⟩
  obtain ⟨f1, f2⟩ := w1.fresh hp
  have st : Step G1 H1 G1 (upd H1 p (.lst us)) := Step.new hp
  exact k _ G1 _ _ (s1.trans st) (w1.new hp) (rep_lst f1 f2 upd_same h1.1 (r1.step st)) h1.2⟩
/-- a new owned list -/
theorem own_lst {P : Addr → Prop} {G : Gp} {H : Hp} {ds : List D} {xs : List V} {p : Addr} (w : Wo K P G H) (hp : H p = none) (q : Reps K H G P ds xs) (z : ds.length ≤ sizeLine) : Step G H (gput G p (.lst ds)) (upd H p (.lst xs)) ∧ Wo K P (gput G p (.lst ds)) (upd H p (.lst xs)) ∧ Rep K (upd H p (.lst xs)) (gput G p (.lst ds)) P (.ref p) (.ref p) := by
  have st : Step G H (gput G p (.lst ds)) (upd H p (.lst xs)) := Step.newOwn w hp
  refine ⟨st, w.newOwn hp ⟨xs, rfl, z, q.step st⟩, ?_⟩
  unfold Rep
  exact ⟨rfl, _, gput_same⟩
theorem j_lstO {es : List Expr} {ea : EA} {pos : Pos} (h : JA X es ea) : JE X (.List es pos) (eLstO ea) := ⟨pe_lst h.pa, fun P s G Q σ H R q r k => by
  refine h.la P s G _ σ H _ q r fun xs G1 us H1 s1 w1 r1 _ h1 => ?_
  refine ⟨by rw [← r1.length]; exact h1.1, fun p hp => ?_⟩
  obtain ⟨a, b, c⟩ := own_lst w1 hp r1 h1.1
  exact k _ _ _ _ (s1.trans a) b c (h1.2 p (w1.fresh hp).1)⟩
abbrev CD := List D → Gp → DK → Prop
def LC (K : PySem.W.Frag) (r : List V → Hp → VK → Prop) (c : CD) : Prop := ∀ (P : Addr → Prop) (G : Gp) (H : Hp) (xs : List D) (us : List V) (Q : DK) (R : VK), c xs G Q → Wo K P G H → Reps K H G P xs us →
  (∀ d G' w H', Step G H G' H' → Wo K P G' H' → Rep K H' G' P d w → Q d G' → R w H') → r us H R
@[simp] def eCB (c : CD) (t : EA) : EE := fun s G Q => t s G fun xs G1 => c xs G1 Q
theorem le_cb {n : Nat} {r : List V → Hp → VK → Prop} {c : CD} {t : TA} {ea : EA} (hc : LC K r c) (ha : LA K n t ea) : LE K (tCB r t) (eCB c ea) := fun P s G Q σ H R h rl k => by
  refine ha P s G _ σ H _ h rl fun xs G1 us H1 s1 w1 r1 _ h1 => ?_
  exact hc P G1 H1 xs us Q R h1 w1 r1 fun d G' w H' st w' r' q' => k d G' w H' (s1.trans st) w' r' q'
theorem j_cb {x : Str} {p pos : Pos} {e : Expr} {es : List Expr} {ea : EA} {id : String} {r : List V → Hp → VK → Prop} {c : CD} (hc : CallR X (.builtin id) r) (lc : LC X.K r c) (hg : Gl X x) (hm : X.mg x = none) (hv : bootBuiltins x = some (.builtin id)) (ha : JA X (e :: es) ea)
    (hn : x ≠ "__name__" := by decide) (hdb : (x == ("__debug__" : Str)) = false := by decide) (he : starEach (e :: es) X.env = (false, eval e X.env) :: starEach es X.env := by rfl) (hpl : (backTo pos (starEach es X.env)).any (·.1) = false := by rfl) : JE X (.Call (.Name x p) (e :: es) [] pos) (eCB c ea) :=
  ⟨pe_callB hc hg hm hv ha.pa hn hdb he hpl, le_cb lc ha.la⟩
theorem j_ct {x : Str} {p pos : Pos} {e : Expr} {es : List Expr} {ea : EA} {T : String} {r : List V → Hp → VK → Prop} {c : CD} (hc : CallR X (.type T) r) (lc : LC X.K r c) (hg : Gl X x) (hm : X.mg x = none) (hv : bootBuiltins x = some (.type T)) (ha : JA X (e :: es) ea)
    (hn : x ≠ "__name__" := by decide) (hdb : (x == ("__debug__" : Str)) = false := by decide) (he : starEach (e :: es) X.env = (false, eval e X.env) :: starEach es X.env := by rfl) (hpl : (backTo pos (starEach es X.env)).any (·.1) = false := by rfl) : JE X (.Call (.Name x p) (e :: es) [] pos) (eCB c ea) :=
  ⟨pe_callTy hc hg hm hv ha.pa hn hdb he hpl, le_cb lc ha.la⟩
theorem reps1 {P : Addr → Prop} {G : Gp} {H : Hp} {d : D} {us : List V} (h : Reps K H G P [d] us) : ∃ u, us = [u] ∧ Rep K H G P d u := by
  unfold Reps at h
  obtain ⟨x, r, rfl, h1, h2⟩ := h
  unfold Reps at h2
  subst h2
  exact ⟨x, rfl, h1⟩
theorem reps2 {P : Addr → Prop} {G : Gp} {H : Hp} {d e : D} {us : List V} (h : Reps K H G P [d, e] us) : ∃ u v, us = [u, v] ∧ Rep K H G P d u ∧ Rep K H G P e v := by
  unfold Reps at h
  obtain ⟨x, r, rfl, h1, h2⟩ := h
  obtain ⟨v, rfl, h3⟩ := reps1 h2
  exact ⟨x, v, rfl, h1, h3⟩
/-- len -/
@[simp] def cLen : CD := fun xs G Q => match xs with
  | [.str z] => z.length ≤ sizeLine ∧ Q (.int z.length) G
  | [x] => (match lkQ G x with
    | some ds => Q (.int ds.length) G
    | none => False)
  | _ => False
theorem lc_len : LC K (fun xs H Q => ∃ x n, xs = [x] ∧ LenV K x H n ∧ Q (.int n) H) cLen := fun P G H xs us Q R h w r k => by
  unfold cLen at h
  split at h
  · rename_i z
    obtain ⟨u, rfl, r1⟩ := reps1 r
    rw [rep_s r1]
    exact ⟨_, _, rfl, ⟨h.1, rfl⟩, k _ G _ H (Step.refl _ _) w rep_int h.2⟩
  · rename_i x _
    obtain ⟨u, rfl, r1⟩ := reps1 r
    split at h
    · rename_i ds e
      obtain ⟨a, ys, rfl, s, q, z⟩ := lkQ_sq w r1 e
      refine ⟨_, ys.length, rfl, ?_, k _ G _ H (Step.refl _ _) w rep_int (by rw [← q.length]; exact h)⟩
      rcases s with s | s
      · exact .inl ⟨ys, s, rfl⟩
      · exact .inr ⟨ys, s, rfl⟩
    · exact h.elim
  · exact h.elim
@[simp] def cMax2 : CD := fun xs G Q => match xs with
  | [.int i, .int j] => Q (.int (if j > i then j else i)) G
  | _ => False
@[simp] def cMin2 : CD := fun xs G Q => match xs with
  | [.int i, .int j] => Q (.int (if j < i then j else i)) G
  | _ => False
theorem lc_max2 : LC K (fun xs H Q => ∃ i j, xs = [.int i, .int j] ∧ Q (.int (if j > i then j else i)) H) cMax2 := fun P G H xs us Q R h w r k => by
  unfold cMax2 at h
  split at h
  · obtain ⟨u, v, rfl, r1, r2⟩ := reps2 r
    rw [rep_i r1, rep_i r2]
    exact ⟨_, _, rfl, k _ G _ H (Step.refl _ _) w rep_int h⟩
  · exact h.elim
theorem lc_min2 : LC K (fun xs H Q => ∃ i j, xs = [.int i, .int j] ∧ Q (.int (if j < i then j else i)) H) cMin2 := fun P G H xs us Q R h w r k => by
  unfold cMin2 at h
  split at h
  · obtain ⟨u, v, rfl, r1, r2⟩ := reps2 r
    rw [rep_i r1, rep_i r2]
    exact ⟨_, _, rfl, k _ G _ H (Step.refl _ _) w rep_int h⟩
  · exact h.elim
@[simp] def cInt1 : CD := fun xs G Q => match xs with
  | [.int i] => Q (.int i) G
  | [.bl b] => Q (.int (if b then 1 else 0)) G
  | _ => False
theorem lc_int1 : LC K (fun xs H Q => (∃ i, xs = [.int i] ∧ Q (.int i) H) ∨ ∃ k, xs = [.bl k] ∧ Q (.int (if k then 1 else 0)) H) cInt1 := fun P G H xs us Q R h w r k => by
  unfold cInt1 at h
  split at h
  · obtain ⟨u, rfl, r1⟩ := reps1 r
    rw [rep_i r1]
    exact .inl ⟨_, rfl, k _ G _ H (Step.refl _ _) w rep_int h⟩
  · obtain ⟨u, rfl, r1⟩ := reps1 r
    rw [rep_b r1]
    exact .inr ⟨_, rfl, k _ G _ H (Step.refl _ _) w rep_int h⟩
  · exact h.elim
/-- list(x) of a list or tuple: new, frozen; owned -/
@[simp] def cList : CD := fun xs G Q => match xs with
  | [x] => (match lkQ G x with
    | some ds => Q (.lst ds) G
    | none => False)
  | _ => False
@[simp] def cListO : CD := fun xs G Q => match xs with
  | [x] => (match lkQ G x with
    | some ds => ∀ p, G p = none → Q (.ref p) (gput G p (.lst ds))
    | none => False)
  | _ => False
theorem lc_list : LC K (fun xs H Q => ∃ p ys, xs = [.ref p] ∧ (SqL K H p ys ∨ SqT K H p ys) ∧ ∀ l, H l = none → Q (.ref l) (upd H l (.lst ys))) cList := fun P G H xs us Q R h w r k => by
  unfold cList at h
  split at h
  · obtain ⟨u, rfl, r1⟩ := reps1 r
    split at h
    · rename_i ds e
      obtain ⟨a, ys, rfl, s, q, z⟩ := lkQ_sq w r1 e
      refine ⟨a, ys, rfl, s, fun p hp => ?_⟩
      obtain ⟨f1, f2⟩ := w.fresh hp
      have st : Step G H G (upd H p (.lst ys)) := Step.new hp
      exact k _ G _ _ st (w.new hp) (rep_lst f1 f2 upd_same z (q.step st)) h
    · exact h.elim
  · exact h.elim
theorem lc_listO : LC K (fun xs H Q => ∃ p ys, xs = [.ref p] ∧ (SqL K H p ys ∨ SqT K H p ys) ∧ ∀ l, H l = none → Q (.ref l) (upd H l (.lst ys))) cListO := fun P G H xs us Q R h w r k => by
  unfold cListO at h
  split at h
  · obtain ⟨u, rfl, r1⟩ := reps1 r
    split at h
    · rename_i ds e
      obtain ⟨a, ys, rfl, s, q, z⟩ := lkQ_sq w r1 e
      refine ⟨a, ys, rfl, s, fun p hp => ?_⟩
      obtain ⟨b, c, d⟩ := own_lst w hp q z
      exact k _ _ _ _ b c d (h p (w.fresh hp).1)
    · exact h.elim
  · exact h.elim
/-- ints of a list of data -/
def intsD : List D → Option (List Int)
  | [] => some []
  | .int i :: ds => (intsD ds).map (i :: ·)
  | _ :: _ => none
@[simp] def cSum : CD := fun xs G Q => match xs with
  | [x] => (match (lkL G x).bind intsD with
    | some ns => Q (.int ns.sum) G
    | none => False)
  | _ => False
/-- max, min of a list of ints -/
@[simp] def cMax : CD := fun xs G Q => match xs with
  | [x] => (match (lkL G x).bind intsD with
    | some ns => 0 < ns.length ∧ ∀ m, m ∈ ns → (∀ y, y ∈ ns → y ≤ m) → Q (.int m) G
    | none => False)
  | _ => False
@[simp] def cMin : CD := fun xs G Q => match xs with
  | [x] => (match (lkL G x).bind intsD with
    | some ns => 0 < ns.length ∧ ∀ m, m ∈ ns → (∀ y, y ∈ ns → m ≤ y) → Q (.int m) G
    | none => False)
  | _ => False
/-- all, any of a list of truths -/
def blsD : List D → Option (List Bool)
  | [] => some []
  | .bl i :: ds => (blsD ds).map (i :: ·)
  | _ :: _ => none
@[simp] def cAll : CD := fun xs G Q => match xs with
  | [x] => (match (lkL G x).bind blsD with
    | some ns => Q (.bl (ns.all id)) G
    | none => False)
  | _ => False
@[simp] def cAny : CD := fun xs G Q => match xs with
  | [x] => (match (lkL G x).bind blsD with
    | some ns => Q (.bl (ns.any id)) G
    | none => False)
  | _ => False
/-- isinstance(x, T), T a built-in type -/
def tyD (G : Gp) : D → Option String
  | .non => some "NoneType"
  | .bl _ => some "bool"
  | .int _ => some "int"
  | .str _ => some "str"
  | .lst _ => some "list"
  | .tup _ => some "tuple"
  | .dct _ _ => some "dict"
  | .ref a => match G a with
    | some (.lst _) => some "list"
    | some (.dct _ _) => some "dict"
    | _ => none
  | _ => none
@[simp] theorem tyD_non {G : Gp} : tyD G .non = some "NoneType" := rfl
@[simp] theorem tyD_bl {G : Gp} {b : Bool} : tyD G (.bl b) = some "bool" := rfl
@[simp] theorem tyD_int {G : Gp} {i : Int} : tyD G (.int i) = some "int" := rfl
@[simp] theorem tyD_str {G : Gp} {y : Str} : tyD G (.str y) = some "str" := rfl
@[simp] theorem tyD_lst {G : Gp} {ds : List D} : tyD G (.lst ds) = some "list" := rfl
@[simp] theorem tyD_tup {G : Gp} {ds : List D} : tyD G (.tup ds) = some "tuple" := rfl
@[simp] theorem tyD_dct {G : Gp} {ks : List Key} {ds : List D} : tyD G (.dct ks ds) = some "dict" := rfl
@[simp] theorem tyD_ref {G : Gp} {a : Addr} : tyD G (.ref a) = match G a with
    | some (.lst _) => some "list"
    | some (.dct _ _) => some "dict"
    | _ => none := rfl
theorem ty_of {P : Addr → Prop} {G : Gp} {H : Hp} (w : Wo K P G H) {d : D} {v : V} {n : String} (h : Rep K H G P d v) (e : tyD G d = some n) : TyX K H v (.type n) := by
  refine .base ?_
  cases d with
  | non => cases e; rw [rep_n h]; exact .non
  | bl b => cases e; rw [rep_b h]; exact .bl b
  | int b => cases e; rw [rep_i h]; exact .int b
  | str b => cases e; rw [rep_s h]; exact .str b
  | lst ds => cases e; obtain ⟨a, xs, rfl, g, p, r, z, q⟩ := rep_l h; exact .lst r
  | tup ds => cases e; obtain ⟨a, xs, rfl, g, p, r, z, q⟩ := rep_t h; exact .tup r
  | dct ks ds => cases e; unfold Rep at h; obtain ⟨a, xs, rfl, g, p, r, z, q⟩ := h; exact .dK r
  | ref a =>
    unfold Rep at h
    obtain ⟨rfl, o, ho⟩ := h
    simp only [tyD, ho] at e
    obtain ⟨u, e1, r⟩ := w.own a o ho
    cases o with
    | lst ds => cases e; obtain ⟨xs, rfl, z, q⟩ := r; exact .lst e1
    | dct ks ds => cases e; obtain ⟨xs, rfl, z, q⟩ := r; exact .dK e1
    | _ => cases e
  | _ => cases e
@[simp] def cIsi : CD := fun xs G Q => match xs with
  | [x, .ty n] => (match (tyD G x).bind fun m => kitB m n with
    | some b => Q (.bl b) G
    | none => False)
  | _ => False
theorem lc_isi : LC K (rIsi K) cIsi := fun P G H xs us Q R h w r k => by
  unfold cIsi at h
  split at h
  · rename_i x n
    obtain ⟨u, v, rfl, r1, r2⟩ := reps2 r
    have e2 : v = .ty n := by unfold Rep at r2; exact r2
    split at h
    · rename_i b e
      cases e1 : tyD G x with
      | none => rw [e1] at e; cases e
      | some m =>
        rw [e1] at e
        exact ⟨u, v, .type m, .type n, b, rfl, by rw [e2]; exact .ty n, ty_of w r1 e1, kit_ty e, k _ G _ H (Step.refl _ _) w rep_bl h⟩
    · exact h.elim
  · exact h.elim
end
end DL
set_option Elab.async false
set_option linter.all false
set_option maxRecDepth 100000
set_option maxHeartbeats 4000000
namespace DL
open PySem L2
mutual
theorem Rep.prv {K : PySem.W.Frag} {P : Addr → Prop} {G : Gp} {H : Hp} {p : Addr} {o : HO} (hp : P p) (hf : ∀ o' xs, H p ≠ some (.frz o' xs)) : ∀ {d : D} {v : V}, Rep K H G P d v → Rep K (upd H p o) G P d v
  | .non, _, h => by unfold Rep at h ⊢; exact h
  | .bl _, _, h => by unfold Rep at h ⊢; exact h
  | .int _, _, h => by unfold Rep at h ⊢; exact h
  | .str _, _, h => by unfold Rep at h ⊢; exact h
  | .ty _, _, h => by unfold Rep at h ⊢; exact h
  | .cl _, _, h => by unfold Rep at h ⊢; exact h
  | .ref a, _, h => by unfold Rep at h ⊢; exact h
  | .exc a dd f e, _, h => by
    unfold Rep at h ⊢
    obtain ⟨rfl, g, pp, u, r, t⟩ := h
    exact ⟨rfl, g, pp, u, by rw [upd_ne (fun e => by subst e; exact pp hp)]; exact r, Rep.prv hp hf t⟩
  | .scr ns, _, h => by
    unfold Rep at h ⊢
    obtain ⟨a, rfl, z, ⟨⟨o, h⟩, g⟩ | ⟨h, g, pp⟩ | h⟩ := h
    · exact ⟨a, rfl, z, .inl ⟨⟨o, by rw [upd_ne (fun e => by subst e; exact hf _ _ h)]; exact h⟩, g⟩⟩
    · exact ⟨a, rfl, z, .inr (.inl ⟨by rw [upd_ne (fun e => by subst e; exact pp hp)]; exact h, g, pp⟩)⟩
    · exact ⟨a, rfl, z, .inr (.inr h)⟩
  | .lst ds, _, h => by
    unfold Rep at h ⊢
    obtain ⟨a, xs, rfl, g, q, r, z, t⟩ := h
    exact ⟨a, xs, rfl, g, q, by rw [upd_ne (fun e => by subst e; exact q hp)]; exact r, z, Reps.prv hp hf t⟩
  | .tup ds, _, h => by
    unfold Rep at h ⊢
    obtain ⟨a, xs, rfl, g, q, r, z, t⟩ := h
    exact ⟨a, xs, rfl, g, q, by rw [upd_ne (fun e => by subst e; exact q hp)]; exact r, z, Reps.prv hp hf t⟩
  | .dct ks ds, _, h => by
    unfold Rep at h ⊢
    obtain ⟨a, xs, rfl, g, q, r, z, t⟩ := h
    exact ⟨a, xs, rfl, g, q, by rw [upd_ne (fun e => by subst e; exact q hp)]; exact r, z, Reps.prv hp hf t⟩
theorem Reps.prv {K : PySem.W.Frag} {P : Addr → Prop} {G : Gp} {H : Hp} {p : Addr} {o : HO} (hp : P p) (hf : ∀ o' xs, H p ≠ some (.frz o' xs)) : ∀ {ds : List D} {vs : List V}, Reps K H G P ds vs → Reps K (upd H p o) G P ds vs
  | [], _, h => by unfold Reps at h ⊢; exact h
  | d :: ds, _, h => by
    unfold Reps at h ⊢
    obtain ⟨x, r, rfl, h1, h2⟩ := h
    exact ⟨x, r, rfl, Rep.prv hp hf h1, Reps.prv hp hf h2⟩
end
section
variable {K : PySem.W.Frag} {P : Addr → Prop} {G G' : Gp} {H H' : Hp} {p : Addr}
theorem RelO.prv {o : GO} {ho u : HO} (hp : P p) (hf : ∀ o' xs, H p ≠ some (.frz o' xs)) (h : RelO K H G P o ho) : RelO K (upd H p u) G P o ho := by
  cases o with
  | lst ds => obtain ⟨xs, e, z, q⟩ := h; exact ⟨xs, e, z, q.prv hp hf⟩
  | dct ks ds => obtain ⟨xs, e, z, q⟩ := h; exact ⟨xs, e, z, q.prv hp hf⟩
  | ins C dx ks ds => obtain ⟨xs, e, z, q⟩ := h; exact ⟨xs, e, z, q.prv hp hf⟩
  | own x => exact h
  | set S n => exact h
  | gen r ds => obtain ⟨xs, e, z, q⟩ := h; exact ⟨xs, e, z, q.prv hp hf⟩
  | tbl f q a =>
    obtain ⟨ea, ps, e, z, q⟩ := h
    refine ⟨ea, ps, e, z, fun pos cv hc => ?_⟩
    obtain ⟨c, e1, e2, e3, e4⟩ := q pos cv hc
    exact ⟨c, e1, by rw [upd_ne (fun z => e4 (by rw [z]; exact hp))]; exact e2, e3, e4⟩
theorem Wo.prvUpd (w : Wo K P G H) {u : HO} (hp : P p) (hf : ∀ o' xs, H p ≠ some (.frz o' xs)) (nt : ∀ ys, u ≠ .tup ys := by intro _ h; cases h) : Wo K P G (upd H p u) := by
  refine ⟨fun a o e => ?_, fun a q => ?_⟩
  · obtain ⟨ho, e1, r⟩ := w.own a o e
    have ne : a ≠ p := fun z => by subst z; rw [(w.prv a hp).1] at e; cases e
    exact ⟨ho, by rw [upd_ne ne]; exact e1, r.prv hp hf⟩
  · obtain ⟨g, ho, e, n2⟩ := w.prv a q
    by_cases ne : a = p
    · subst ne; exact ⟨g, u, upd_same, nt⟩
    · exact ⟨g, ho, by rw [upd_ne ne]; exact e, n2⟩
/-- what was not there may change -/
theorem Step.out (s : Step G H G' H') {o : HO} (h : H p = none) : Step G H G' (upd H' p o) :=
  ⟨fun a u e g => ⟨by rw [upd_ne (ne_of_none e h)]; exact (s.keep a u e g).1, (s.keep a u e g).2⟩, s.own⟩
/-- one more private address -/
def prvAdd (P : Addr → Prop) (p : Addr) : Addr → Prop := fun a => P a ∨ a = p
theorem Wo.add (w : Wo K P G H) {o : HO} (h : H p = none) (nt : ∀ ys, o ≠ .tup ys := by intro _ h; cases h) : Wo K (prvAdd P p) G (upd H p o) := by
  have w1 := w.new (o := o) h
  obtain ⟨f1, f2⟩ := w.fresh h
  refine ⟨fun a u e => ?_, fun a q => ?_⟩
  · obtain ⟨ho, e1, r⟩ := w.own a u e
    refine ⟨ho, by rw [upd_ne (ne_of_none e1 h)]; exact e1, r.step (Step.new h) fun b hb q => ?_⟩
    rcases q with q | q
    · exact q
    · subst q; obtain ⟨x, e⟩ := hb; rw [h] at e; cases e
  · rcases q with q | q
    · exact w1.prv a q
    · subst q; exact ⟨f1, o, upd_same, nt⟩
theorem Wo.sub (w : Wo K (prvAdd P p) G H) : Wo K P G H :=
  ⟨fun a o e => let ⟨ho, e1, r⟩ := w.own a o e; ⟨ho, e1, r.step (Step.refl _ _) fun _ _ q => .inl q⟩, fun a q => w.prv a (.inl q)⟩
theorem Rep.sub {d : D} {v : V} (h : Rep K H G (prvAdd P p) d v) : Rep K H G P d v := h.mono (Step.refl _ _) fun _ _ q => .inl q
theorem Reps.sub {d : List D} {v : List V} (h : Reps K H G (prvAdd P p) d v) : Reps K H G P d v := h.mono (Step.refl _ _) fun _ _ q => .inl q
end
def Wk (K : PySem.W.Frag) (P : Addr → Prop) (G0 : Gp) (H0 : Hp) (Kp : Gp → Prop) (J : It) (ds : List D) : Prop := ds.length ≤ sizeLine ∧ ∀ (P' : Addr → Prop) (G : Gp) (H : Hp) (i : Nat), (∀ a, (∃ ho, H0 a = some ho) → P' a → P a) → Step G0 H0 G H → Wo K P' G H → Kp G →
  (∀ d, ds[i]? = some d → J.go i H ∧ ∀ x H', J.yld i H x H' → Step G H G H' ∧ Wo K P' G H' ∧ Rep K H' G P' d x) ∧ (ds.length ≤ i → J.stop i H)
abbrev EI := Sd → Gp → (List D → (Gp → Prop) → Gp → Prop) → Prop
def LI (K : PySem.W.Frag) (wi : TI) (t : EI) : Prop := ∀ (P : Addr → Prop) (s : Sd) (G : Gp) (Q : List D → (Gp → Prop) → Gp → Prop) (σ : St) (H : Hp) (R : It → Hp → Prop), t s G Q → Rl K P s G σ H →
  (∀ ds Kp G' J H', Step G H G' H' → Wo K P G' H' → Wk K P G' H' Kp J ds → Q ds Kp G' → R J H') → wi σ H R
def upI (K : PySem.W.Frag) (t : EI) : TI := fun σ H R => ∃ (P : Addr → Prop) (s : Sd) (G : Gp) (Q : List D → (Gp → Prop) → Gp → Prop), t s G Q ∧ Rl K P s G σ H ∧ ∀ ds Kp G' J H', Step G H G' H' → Wo K P G' H' → Wk K P G' H' Kp J ds → Q ds Kp G' → R J H'
inductive JI (X : Cx) (tg iter : Expr) (t : EI) : Prop where
  | mk {wi : TI} (a : PI X tg iter wi) (b : LI X.K wi t) : JI X tg iter t
theorem JI.pi {X : Cx} {tg iter : Expr} {t : EI} (h : JI X tg iter t) : PI X tg iter (upI X.K t) := by
  obtain ⟨a, b⟩ := h
  exact ⟨fun pins s σ H R I ⟨P, s', G, Q', h1, h2, h3⟩ => a.run pins s σ H R I (b P s' G Q' σ H R h1 h2 h3)⟩
theorem JI.li {X : Cx} {tg iter : Expr} {t : EI} (h : JI X tg iter t) : LI X.K (upI X.K t) t := fun P s G Q σ H R h1 h2 h3 => ⟨P, s, G, Q, h1, h2, h3⟩
/-- what must stay of what is walked -/
@[simp] def stays (x : D) (ds : List D) : Gp → Prop := match x with
  | .ref a => fun G => G a = some (.lst ds)
  | _ => fun _ => True
@[simp] def iL (t : EE) : EI := fun s G Q => t s G fun x G1 => match lkL G1 x with
  | some ds => Q ds (stays x ds) G1
  | none => False
/-- a list read now is read later -/
theorem lk_later {K : PySem.W.Frag} {P P' : Addr → Prop} {G0 G : Gp} {H0 H : Hp} {x : D} {a : Addr} {ds : List D} (r0 : Rep K H0 G0 P x (.ref a)) (e : lkL G0 x = some ds) (hP : ∀ a, (∃ ho, H0 a = some ho) → P' a → P a) (st : Step G0 H0 G H) (w : Wo K P' G H) (kp : stays x ds G) :
    ∃ xs, SqL K H a xs ∧ Reps K H G P' ds xs := by
  have r1 := r0.mono st hP
  have e1 : lkL G x = some ds := by
    cases x with
    | ref b => simp only [stays] at kp; simp only [lkL, kp]
    | _ => exact e
  obtain ⟨b, xs, eb, s, q, z⟩ := lk_sq w r1 e1
  cases eb
  exact ⟨xs, s, q⟩
section
variable {X : Cx} {K : PySem.W.Frag} {tg : Expr}
theorem wk_list {P : Addr → Prop} {G0 : Gp} {H0 : Hp} {x : D} {a : Addr} {ds : List D} (w0 : Wo K P G0 H0) (r0 : Rep K H0 G0 P x (.ref a)) (e : lkL G0 x = some ds) : Wk K P G0 H0 (stays x ds) (Itl K a) ds := by
  obtain ⟨b, xs0, eb, s0, q0, z0⟩ := lk_sq w0 r0 e
  refine ⟨z0, fun P' G H i hP st w kp => ?_⟩
  obtain ⟨xs, s, q⟩ := lk_later r0 e hP st w kp
  refine ⟨fun d hd => ?_, fun hi => ⟨xs, s, by rw [← q.length]; exact hi⟩⟩
  obtain ⟨v, e1, r1⟩ := q.get hd
  refine ⟨⟨xs, v, s, e1⟩, fun y H' hy => ?_⟩
  obtain ⟨rfl, f⟩ := hy
  have := f xs s
  rw [e1] at this
  cases this
  exact ⟨Step.refl _ _, w, r1⟩
theorem ji_list {l : Expr} {el : EE} (hl : JE X l el) : JI X tg l (iL el) := ⟨pi_list hl.pe, fun P s G Q σ H R h r k => by
  refine hl.le P s G _ σ H _ h r fun x G1 u H1 s1 w1 r1 h1 => ?_
  cases e : lkL G1 x with
  | none => rw [e] at h1; exact h1.elim
  | some ds =>
    rw [e] at h1
    obtain ⟨a, xs, rfl, s, q, z⟩ := lk_sq w1 r1 e
    exact ⟨a, rfl, ⟨xs, s⟩, k ds _ G1 _ H1 s1 w1 (wk_list w1 r1 e) h1⟩⟩
/-- range -/
def rngD (lo : Int) (n : Nat) : List D := (List.range n).map fun i => .int (lo + (i : Nat))
@[simp] def iR1 (ta : EA) : EI := fun s G Q => ta s G fun xs G1 => match xs with
  | [.int j] => j ≤ 16000000 ∧ -(2 ^ 62) ≤ j ∧ Q (rngD 0 j.toNat) (fun _ => True) G1
  | _ => False
@[simp] def iR2 (ta : EA) : EI := fun s G Q => ta s G fun xs G1 => match xs with
  | [.int i, .int j] => (-16000000 ≤ i ∧ i ≤ 16000000 ∧ -16000000 ≤ j ∧ j ≤ 16000000 ∧ j - i ≤ 16000000) ∧ Q (rngD i (j - i).toNat) (fun _ => True) G1
  | _ => False
theorem rngD_get {lo : Int} {n i : Nat} {d : D} (h : (rngD lo n)[i]? = some d) : i < n ∧ d = .int (lo + (i : Nat)) := by
  unfold rngD at h
  rw [List.getElem?_map] at h
  obtain ⟨j, e1, e2⟩ := opt_map h
  have hi : i < n := by
    rcases Nat.lt_or_ge i n with q | q
    · exact q
    · rw [List.getElem?_eq_none (by simpa using q)] at e1; cases e1
  rw [List.getElem?_range hi] at e1
  cases e1
  exact ⟨hi, e2.symm⟩
theorem rngD_length (lo : Int) (n : Nat) : (rngD lo n).length = n := by unfold rngD; simp
theorem line_ge : 16000000 ≤ sizeLine := by decide
theorem wk_range {P : Addr → Prop} {G0 : Gp} {H0 : Hp} {lo : Int} {n : Nat} (hn : n ≤ 16000000) : Wk K P G0 H0 (fun _ => True) (Itr lo n) (rngD lo n) := by
  refine ⟨by rw [rngD_length]; exact Nat.le_trans hn line_ge, fun P' G H i hP st w _ => ⟨fun d hd => ?_, fun hi => by rw [rngD_length] at hi; exact hi⟩⟩
  obtain ⟨hi, rfl⟩ := rngD_get hd
  refine ⟨hi, fun x H' hy => ?_⟩
  obtain ⟨rfl, rfl⟩ := hy
  exact ⟨Step.refl _ _, w, rep_int⟩
theorem ji_range1 {a : Expr} {ea : EA} {p pos : Pos} (hg : Gl X "range") (hm : X.mg "range" = none) (ha : JA X [a] ea) (hs : starEach [a] X.env = [(false, eval a X.env)] := by rfl) : JI X tg (.Call (.Name "range" p) [a] [] pos) (iR1 ea) :=
  ⟨pi_range1 hg hm ha.pa hs, fun P s G Q σ H R h r k => by
    refine ha.la P s G _ σ H _ h r fun xs G1 us H1 s1 w1 r1 ll h1 => ?_
    clear ll
    split at h1
    · rename_i j
      obtain ⟨u, rfl, r2⟩ := reps1 r1
      rw [rep_i r2]
      obtain ⟨h2, h3, h4⟩ := h1
      refine ⟨j, rfl, h3, by omega, k _ _ G1 _ H1 s1 w1 (wk_range (by omega)) h4⟩
    · exact h1.elim⟩
/-- enumerate(list) -/
def enumD (ds : List D) : List D := (List.range ds.length).zipWith (fun i d => .tup [.int ((i : Nat) : Int), d]) ds
@[simp] def iE (ta : EA) : EI := fun s G Q => ta s G fun xs G1 => match xs with
  | [x] => (match lkL G1 x with
    | some ds => Q (enumD ds) (stays x ds) G1
    | none => False)
  | _ => False
/-- zip(list, list) -/
@[simp] def iZ (ta : EA) : EI := fun s G Q => ta s G fun xs G1 => match xs with
  | [x, y] => (match lkL G1 x, lkL G1 y with
    | some ds, some es => Q (ds.zipWith (fun d e => .tup [d, e]) es) (fun G => stays x ds G ∧ stays y es G) G1
    | _, _ => False)
  | _ => False
/-- a text's signs -/
def sgnD (z : Str) : List D := z.cps.toList.map fun c => .str ⟨#[c]⟩
@[simp] def iS (t : EE) : EI := fun s G Q => t s G fun x G1 => match x with
  | .str z => z.length ≤ sizeLine ∧ Q (sgnD z) (fun _ => True) G1
  | _ => False
end
inductive Tg where
  | nm (i : Nat) | tp (is : List Nat)
def Tg.ix : Tg → List Nat
  | .nm i => [i]
  | .tp is => is
@[simp] def setAll : Sd → List Nat → List D → Option Sd
  | s, [], [] => some s
  | s, i :: is, d :: ds => setAll (s.set i (some d)) is ds
  | _, _, _ => none
@[simp] def asg (t : Tg) (d : D) (s : Sd) : Option Sd := match t with
  | .nm i => some (s.set i (some d))
  | .tp is => match d with
    | .tup ds => setAll s is ds
    | _ => none
def LG (K : PySem.W.Frag) (g : TG) (t : Tg) : Prop := ∀ (P : Addr → Prop) (s s' : Sd) (G : Gp) (σ : St) (H : Hp) (d : D) (v : V) (R : St → Hp → Prop), asg t d s = some s' → Rl K P s G σ H → Rep K H G P d v →
  (∀ σ', Rl K P s' G σ' H → (∀ vs, (∀ i ∈ t.ix, i ∈ vs) → wipe σ' vs = wipe σ vs) → R σ' H) → g v σ H R
def upG (K : PySem.W.Frag) (t : Tg) : TG := fun v σ H R => ∃ (P : Addr → Prop) (s s' : Sd) (G : Gp) (d : D), asg t d s = some s' ∧ Rl K P s G σ H ∧ Rep K H G P d v ∧ ∀ σ', Rl K P s' G σ' H → (∀ vs, (∀ i ∈ t.ix, i ∈ vs) → wipe σ' vs = wipe σ vs) → R σ' H
inductive JG (X : Cx) (tg : Expr) (t : Tg) : Prop where
  | mk {g : TG} (a : PG X tg g) (b : LG X.K g t) : JG X tg t
theorem JG.pg {X : Cx} {tg : Expr} {t : Tg} (h : JG X tg t) : PG X tg (upG X.K t) := by
  obtain ⟨a, b⟩ := h
  exact ⟨fun pins s σ H v u R I r ⟨P, s1, s2, G, d, h1, h2, h3, h4⟩ => a.run pins s σ H v u R I r (b P s1 s2 G σ H d v R h1 h2 h3 h4)⟩
theorem JG.lg {X : Cx} {tg : Expr} {t : Tg} (h : JG X tg t) : LG X.K (upG X.K t) t := fun P s s' G σ H d v R h1 h2 h3 h4 => ⟨P, s, s', G, d, h1, h2, h3, h4⟩
def LGs (K : PySem.W.Frag) (g : TGs) (is : List Nat) : Prop := ∀ (P : Addr → Prop) (s s' : Sd) (G : Gp) (σ : St) (H : Hp) (ds : List D) (vs : List V) (R : St → Hp → Prop), setAll s is ds = some s' → Rl K P s G σ H → Reps K H G P ds vs →
  (∀ σ', Rl K P s' G σ' H → (∀ vs, (∀ i ∈ is, i ∈ vs) → wipe σ' vs = wipe σ vs) → R σ' H) → g vs σ H R
def upGs (K : PySem.W.Frag) (is : List Nat) : TGs := fun vs σ H R => ∃ (P : Addr → Prop) (s s' : Sd) (G : Gp) (ds : List D), setAll s is ds = some s' ∧ Rl K P s G σ H ∧ Reps K H G P ds vs ∧ ∀ σ', Rl K P s' G σ' H → (∀ vs, (∀ i ∈ is, i ∈ vs) → wipe σ' vs = wipe σ vs) → R σ' H
inductive JGs (X : Cx) (tgs : List Expr) (is : List Nat) : Prop where
  | mk {g : TGs} (a : PGs X tgs g) (b : LGs X.K g is) : JGs X tgs is
theorem JGs.pg {X : Cx} {tgs : List Expr} {is : List Nat} (h : JGs X tgs is) : PGs X tgs (upGs X.K is) := by
  obtain ⟨a, b⟩ := h
  exact ⟨fun pins s σ H v u R I r ⟨P, s1, s2, G, d, h1, h2, h3, h4⟩ => a.run pins s σ H v u R I r (b P s1 s2 G σ H d v R h1 h2 h3 h4)⟩
theorem JGs.lg {X : Cx} {tgs : List Expr} {is : List Nat} (h : JGs X tgs is) : LGs X.K (upGs X.K is) is := fun P s s' G σ H d v R h1 h2 h3 h4 => ⟨P, s, s', G, d, h1, h2, h3, h4⟩
theorem wipe_get (σ : St) (j : Nat) : ∀ vs : List Nat, (wipe σ vs)[j]? = if j ∈ vs then (σ[j]?).map (fun _ => none) else σ[j]?
  | [] => by simp [wipe]
  | v :: vs => by
    rw [wipe]
    by_cases h : v = j
    · subst h
      rw [if_pos (List.mem_cons_self)]
      by_cases hl : v < σ.length
      · rw [List.getElem?_set_self (by rw [wipe_length]; exact hl), List.getElem?_eq_getElem hl]; rfl
      · rw [List.getElem?_eq_none (by rw [List.length_set, wipe_length]; omega), List.getElem?_eq_none (by omega)]; rfl
    · rw [List.getElem?_set_ne h, wipe_get σ j vs]
      have e : (j ∈ v :: vs) ↔ j ∈ vs := by simp [Ne.symm h]
      by_cases hj : j ∈ vs
      · rw [if_pos hj, if_pos (e.mpr hj)]
      · rw [if_neg hj, if_neg (fun q => hj (e.mp q))]
theorem wipe_set {σ : St} {vs : List Nat} {i : Nat} {x : Option V} (h : i ∈ vs) : wipe (σ.set i x) vs = wipe σ vs := by
  apply List.ext_getElem?
  intro j
  rw [wipe_get, wipe_get]
  by_cases e : i = j
  · subst e
    rw [if_pos h, if_pos h]
    by_cases hl : i < σ.length
    · rw [List.getElem?_set_self hl, List.getElem?_eq_getElem hl]; rfl
    · rw [List.getElem?_eq_none (by rw [List.length_set]; omega), List.getElem?_eq_none (by omega)]
  · rw [List.getElem?_set_ne e]
theorem wipe_wipe {σ : St} {vs : List Nat} : wipe (wipe σ vs) vs = wipe σ vs := by
  apply List.ext_getElem?
  intro j
  rw [wipe_get, wipe_get]
  by_cases h : j ∈ vs
  · rw [if_pos h, if_pos h]; cases σ[j]? <;> rfl
  · rw [if_neg h, if_neg h]
@[simp] def wipeD (s : Sd) : List Nat → Sd
  | [] => s
  | v :: vs => (wipeD s vs).set v none
theorem wipeD_length (s : Sd) : ∀ vs, (wipeD s vs).length = s.length
  | [] => rfl
  | v :: vs => by rw [wipeD, List.length_set, wipeD_length s vs]
theorem wipeD_some {s : Sd} {i : Nat} {d : D} : ∀ {vs : List Nat}, (wipeD s vs)[i]? = some (some d) → s[i]? = some (some d) ∧ i ∉ vs
  | [], h => ⟨h, by simp⟩
  | v :: vs, h => by
    rw [wipeD] at h
    by_cases e : v = i
    · subst e
      by_cases hl : v < (wipeD s vs).length
      · rw [List.getElem?_set_self hl] at h; cases h
      · rw [List.getElem?_eq_none (by rw [List.length_set]; omega)] at h; cases h
    · rw [List.getElem?_set_ne e] at h
      obtain ⟨h1, h2⟩ := wipeD_some h
      exact ⟨h1, by simp [Ne.symm e, h2]⟩
theorem Rl.wipe {K : PySem.W.Frag} {P : Addr → Prop} {s : Sd} {G : Gp} {σ : St} {H : Hp} (r : Rl K P s G σ H) (vs : List Nat) : Rl K P (wipeD s vs) G (wipe σ vs) H := by
  refine ⟨r.wo, by rw [wipeD_length, wipe_length]; exact r.len, fun i d e => ?_⟩
  obtain ⟨h1, h2⟩ := wipeD_some e
  obtain ⟨v, e1, e2⟩ := r.at_ i d h1
  exact ⟨v, by rw [wipe_get, if_neg h2]; exact e1, e2⟩
section
variable {X : Cx} {K : PySem.W.Frag} {pos : Pos}
theorem lg_nm {i : Nat} : LG K (gName i) (.nm i) := fun P s s' G σ H d v R e r rp k => by
  cases e
  exact k _ (r.set rp) fun vs hv => wipe_set (hv i (by simp [Tg.ix]))
theorem jg_name {i : Nat} {x : Str} (hN : X.N.Nodup) (hi : X.N[i]? = some x) (hx : Loc X.env.scope x) (hf : X.fn x = true ∨ X.env.scope.names.lookup x = some .local := by first | exact .inl rfl | exact .inr rfl | assumption) : JG X (.Name x pos) (.nm i) := ⟨pg_name hN hi hx hf, lg_nm⟩
theorem jgs_nil : JGs X [] [] := ⟨pgs_nil, fun P s s' G σ H ds vs R e r rp k => by
  cases ds with
  | nil =>
    unfold Reps at rp
    subst rp
    cases e
    exact ⟨rfl, k σ r fun _ _ => rfl⟩
  | cons d ds => cases e⟩
theorem jgs_cons {e : Expr} {es : List Expr} {i : Nat} {is : List Nat} (h1 : JG X e (.nm i)) (h2 : JGs X es is) (hs : (assignEach (e :: es) X.env).map (·.2) = assign e X.env :: (assignEach es X.env).map (·.2) := by rfl) : JGs X (e :: es) (i :: is) :=
  ⟨pgs_cons h1.pg h2.pg hs, fun P s s' G σ H ds vs R e r rp k => by
    cases ds with
    | nil => cases e
    | cons d ds =>
      unfold Reps at rp
      obtain ⟨x, xs, rfl, p1, p2⟩ := rp
      refine ⟨x, xs, rfl, ?_⟩
      exact h1.lg P s (s.set i (some d)) G σ H d x _ rfl r p1 fun σ1 r1 w1 => h2.lg P (s.set i (some d)) s' G σ1 H ds xs R e r1 p2 fun σ' r' w' => k σ' r' fun vs hv => (w' vs fun j hj => hv j (List.mem_cons_of_mem _ hj)).trans (w1 vs fun j hj => by
        have : j = i := by simpa [Tg.ix] using hj
        rw [this]; exact hv i List.mem_cons_self)⟩
theorem jg_tup {es : List Expr} {k : Nat} {is : List Nat} {n : Nat} (hc : X.calm = true) (h : JGs X es is) (hl : is.length = n := by rfl) (hn : (assignEach es X.env).length = n := by rfl) (hst : (assignEach es X.env).findIdx? (·.1) = none := by rfl) : JG X (.Tuple es k pos) (.tp is) :=
  ⟨pg_tup hc h.pg hn hst, fun P s s' G σ H d v R e r rp k => by
    cases d with
    | tup ds =>
      obtain ⟨a, xs, rfl, g, p, rr, z, q⟩ := rep_t rp
      have e' : setAll s is ds = some s' := e
      have hlen : ∀ (is : List Nat) (ds : List D) (s s' : Sd), setAll s is ds = some s' → ds.length = is.length := by
        intro is
        induction is with
        | nil => intro ds s s' e; cases ds with
          | nil => rfl
          | cons => cases e
        | cons i is ih => intro ds s s' e; cases ds with
          | nil => cases e
          | cons d ds => rw [List.length_cons, List.length_cons, ih ds _ _ e]
      refine ⟨a, xs, rfl, SqT.of rr, by rw [← q.length, hlen _ _ _ _ e', hl], ?_⟩
      exact h.lg P s s' G σ H ds xs R e' r q k
    | _ => cases e⟩
end
def compW (s0 : Sd) (t : Tg) (tt : ET) (te : EE) (Kp : Gp → Prop) : List D → List D → Gp → (List D → Gp → Prop) → Prop
  | [], acc, G, Q => Kp G ∧ Q acc G
  | d :: ds, acc, G, Q => Kp G ∧ match asg t d s0 with
    | none => False
    | some s => tt s G fun b G1 => if b = true then te s G1 fun y G2 => compW s0 t tt te Kp ds (acc ++ [y]) G2 Q else compW s0 t tt te Kp ds acc G1 Q
@[simp] def eLc (ti : EI) (t : Tg) (tt : ET) (te : EE) (vs : List Nat) : EE := fun s G Q => ti s G fun ds Kp G1 => compW (wipeD s vs) t tt te Kp ds [] G1 fun acc G2 => Q (.lst acc) G2
@[simp] def eLcO (ti : EI) (t : Tg) (tt : ET) (te : EE) (vs : List Nat) : EE := fun s G Q => ti s G fun ds Kp G1 => compW (wipeD s vs) t tt te Kp ds [] G1 fun acc G2 => ∀ p, G2 p = none → Q (.ref p) (gput G2 p (.lst acc))
@[simp] def eYes : ET := fun _ G Q => Q true G
inductive JTs (X : Cx) (ifs : List Expr) (t : ET) : Prop where
  | mk {te : TT} (a : PTs X ifs te) (b : LT X.K te t) : JTs X ifs t
theorem JTs.pt {X : Cx} {ifs : List Expr} {t : ET} (h : JTs X ifs t) : PTs X ifs (upT X.K t) := by
  obtain ⟨a, b⟩ := h
  exact ⟨fun pins s σ H Q I ⟨P, s', G, Q', h1, h2, h3⟩ => a.run pins s σ H Q I (b P s' G Q' σ H Q h1 h2 h3)⟩
theorem JTs.lt {X : Cx} {ifs : List Expr} {t : ET} (h : JTs X ifs t) : LT X.K (upT X.K t) t := fun P s G Q σ H R h1 h2 h3 => ⟨P, s, G, Q, h1, h2, h3⟩
theorem jts_nil {X : Cx} : JTs X [] eYes := ⟨pts_nil, fun P s G Q σ H R h r k => k true G H (Step.refl _ _) r.wo h⟩
theorem jts_one {X : Cx} {c : Expr} {t : ET} (h : JT X c t) : JTs X [c] t := ⟨pts_one h.pt, h.lt⟩
theorem Rl.addP {K : PySem.W.Frag} {P : Addr → Prop} {s : Sd} {G : Gp} {σ : St} {H : Hp} {p : Addr} {o : HO} (r : Rl K P s G σ H) (h : H p = none) (nt : ∀ ys, o ≠ .tup ys := by intro _ h; cases h) : Rl K (prvAdd P p) s G σ (upd H p o) := by
  refine ⟨r.wo.add h nt, r.len, fun i d e => ?_⟩
  obtain ⟨v, e1, e2⟩ := r.at_ i d e
  refine ⟨v, e1, e2.mono (Step.new h) fun b hb q => ?_⟩
  rcases q with q | q
  · exact q
  · subst q; obtain ⟨x, e⟩ := hb; rw [h] at e; cases e
/-- the loop of a comprehension -/
theorem lc_loop {K : PySem.W.Frag} {P : Addr → Prop} {s : Sd} {σ : St} {g : TG} {tt : TT} {te : TE} {t : Tg} {et : ET} {ee : EE} {vs : List Nat} {Kp : Gp → Prop} {J : It} {ds : List D} {G1 : Gp} {H1 : Hp} {Dl : Addr} {Q : List D → Gp → Prop} {R : Hp → Prop}
    (hg : LG K g t) (ht : LT K tt et) (he : LE K te ee) (hv : ∀ i ∈ t.ix, i ∈ vs) (wk : Wk K P G1 H1 Kp J ds) (r : Rl K P s G1 σ H1) (hD : H1 Dl = none) (h : compW (wipeD s vs) t et ee Kp ds [] G1 Q)
    (k : ∀ acc xs G H, Step G1 H1 G H → Wo K (prvAdd P Dl) G H → H Dl = some (.lst xs) → Reps K H G (prvAdd P Dl) acc xs → acc.length ≤ sizeLine → Q acc G → R H) :
    ∃ W : Nat → Nat → Hp → Prop, (∃ m, W 0 m (upd H1 Dl (.lst []))) ∧ ∀ i m H, W i m H → (J.stop i H ∧ R H) ∨ (J.go i H ∧ ∃ Nx : Hp → Prop, (∀ H', Nx H' → ∃ m', m' < m ∧ W (i + 1) m' H') ∧ ∀ x H', J.yld i H x H' → g x (wipe σ vs) H' fun σ2 H2 => wipe σ2 vs = wipe σ vs ∧ tt σ2 H2 fun b H3 =>
      if b = true then te σ2 H3 fun y H4 => ∃ acc, H4 Dl = some (.lst acc) ∧ acc.length < sizeLine ∧ Nx (upd H4 Dl (.lst (acc ++ [y]))) else Nx H3) := by
  obtain ⟨hz, wk⟩ := wk
  have hPP : ∀ a, (∃ ho, H1 a = some ho) → prvAdd P Dl a → P a := fun a ha q => by
    rcases q with q | q
    · exact q
    · subst q; obtain ⟨x, e⟩ := ha; rw [hD] at e; cases e
  let Pp := prvAdd P Dl
  let W : Nat → Nat → Hp → Prop := fun i m H => ∃ G acc xs, Step G1 H1 G H ∧ Wo K Pp G H ∧ H Dl = some (.lst xs) ∧ Reps K H G Pp acc xs ∧ acc.length ≤ i ∧ i ≤ ds.length ∧ m = ds.length - i ∧ compW (wipeD s vs) t et ee Kp (ds.drop i) acc G Q
  have r1 : Rl K Pp s G1 σ (upd H1 Dl (.lst [])) := r.addP hD
  refine ⟨W, ⟨ds.length, G1, [], [], Step.new hD, r1.wo, upd_same, reps_nil, Nat.le_refl _, Nat.zero_le _, rfl, h⟩, fun i m H hW => ?_⟩
  obtain ⟨G, acc, xs, st, w, eD, q, z, hi, rfl, hc⟩ := hW
  have rr : Rl K Pp s G σ H := by
    refine ⟨w, r.len, fun i d e => ?_⟩
    obtain ⟨v, e1, e2⟩ := r.at_ i d e
    exact ⟨v, e1, e2.mono st hPP⟩
  by_cases hlt : i < ds.length
  · have hd : ds[i]? = some ds[i] := List.getElem?_eq_getElem hlt
    have edrop : ds.drop i = ds[i] :: ds.drop (i + 1) := List.drop_eq_getElem_cons hlt
    rw [edrop, compW] at hc
    obtain ⟨kp, hc⟩ := hc
    obtain ⟨go, yl⟩ := (wk Pp G H i hPP st w kp).1 _ hd
    refine .inr ⟨go, fun H' => ∃ G acc xs, Step G1 H1 G H' ∧ Wo K Pp G H' ∧ H' Dl = some (.lst xs) ∧ Reps K H' G Pp acc xs ∧ acc.length ≤ i + 1 ∧ compW (wipeD s vs) t et ee Kp (ds.drop (i + 1)) acc G Q, fun H' hN => ?_, fun x H' hy => ?_⟩
    · obtain ⟨G, acc, xs, a1, a2, a3, a4, a5, a6⟩ := hN
      exact ⟨ds.length - (i + 1), by omega, G, acc, xs, a1, a2, a3, a4, a5, hlt, rfl, a6⟩
    · obtain ⟨s1, w1, rx⟩ := yl x H' hy
      cases ea : asg t ds[i] (wipeD s vs) with
      | none => rw [ea] at hc; exact hc.elim
      | some s' =>
        rw [ea] at hc
        refine hg Pp (wipeD s vs) s' G (wipe σ vs) H' _ x _ ea ((rr.step s1 w1).wipe vs) rx fun σ2 r2 hw => ⟨(hw vs hv).trans wipe_wipe, ?_⟩
        have gD : G Dl = none := (w.prv Dl (.inr rfl)).1
        have eD1 := s1.keep Dl _ eD gD
        refine ht Pp s' G _ σ2 H' _ hc r2 fun b G2 H3 s2 w2 h2 => ?_
        have eD2 := s2.keep Dl _ eD1.1 eD1.2
        cases b with
        | false =>
          exact ⟨G2, acc, xs, (st.trans s1).trans s2, w2, eD2.1, (q.step s1).step s2, Nat.le_succ_of_le z, h2⟩
        | true =>
          refine he Pp s' G2 _ σ2 H3 _ h2 (r2.step s2 w2) fun y G3 v H4 s3 w3 r3 h3 => ?_
          have eD3 := s3.keep Dl _ eD2.1 eD2.2
          have q3 := ((q.step s1).step s2).step s3
          have hf : ∀ o' ys, H4 Dl ≠ some (.frz o' ys) := fun o' ys e => by rw [eD3.1] at e; cases e
          refine ⟨xs, eD3.1, by rw [← q3.length]; omega, G3, acc ++ [y], xs ++ [v], (((st.trans s1).trans s2).trans s3).out hD, w3.prvUpd (.inr rfl) hf, upd_same, ?_, by rw [List.length_append]; simp; omega, h3⟩
          exact (q3.append (reps_cons r3 reps_nil)).prv (.inr rfl) hf
  · have hi2 : ds.length ≤ i := by omega
    have edrop : ds.drop i = [] := List.drop_eq_nil_of_le hi2
    rw [edrop, compW] at hc
    exact .inl ⟨(wk Pp G H i hPP st w hc.1).2 hi2, k acc xs G H st w eD q (by omega) hc.2⟩
section
variable {X : Cx} {elt tg iter : Expr} {ifs : List Expr} {scope : Scope} {own : List (Str × Nat)} {pos : Pos} {wi : TI} {ei : EI} {g : TG} {t : Tg} {tt : TT} {et : ET} {te : TE} {ee : EE}
theorem le_lc {K : PySem.W.Frag} {vs : List Nat} (hi : LI K wi ei) (hg : LG K g t) (ht : LT K tt et) (he : LE K te ee) (hv : ∀ i ∈ t.ix, i ∈ vs) : LE K (tLc wi g tt te vs) (eLc ei t et ee vs) := fun P s G Q σ H R h r k => by
  refine hi P s G _ σ H _ h r fun ds Kp G1 J H1 s1 w1 wk h1 => ?_
  intro Dl hD
  refine lc_loop hg ht he hv wk (r.step s1 w1) hD h1 fun acc xs G2 H2 st w2 eD q z hQ => ?_
  exact k _ G2 _ H2 (s1.trans st) w2.sub (rep_lst (w2.prv Dl (.inr rfl)).1 (fun p => (w1.fresh hD).2 p) eD z q.sub) hQ
theorem j_lc (hc : X.calm = true) (hN : X.N.Nodup) (hi : JI X tg iter ei) (ok : BlkOk X.N X.env.scope scope own) (hg : ∀ (s : Shared) (H : Hp) (C : Addr) (cl : List (Str × Addr)) (fp : List Addr), JG (X.blk s H scope (compEnvC scope cl C X.env) fp) tg t)
    (ht : ∀ (s : Shared) (H : Hp) (C : Addr) (cl : List (Str × Addr)) (fp : List Addr), JTs (X.blk s H scope (compEnvC scope cl C X.env) fp) ifs et) (he : ∀ (s : Shared) (H : Hp) (C : Addr) (cl : List (Str × Addr)) (fp : List Addr), JE (X.blk s H scope (compEnvC scope cl C X.env) fp) elt ee)
    (hv : ∀ i ∈ t.ix, i ∈ own.map (·.2) := by decide) (hs : ∀ x, foldedSetIterable iter X.env x = pure x := by intro _; rfl) : JE X (.ListComp elt [⟨tg, iter, ifs, 0⟩] scope pos) (eLc ei t et ee (own.map (·.2))) :=
  ⟨pe_lc hc hN hi.pi ok (fun s H C cl fp => (hg s H C cl fp).pg) (fun s H C cl fp => (ht s H C cl fp).pt) (fun s H C cl fp => (he s H C cl fp).pe) hs, le_lc hi.li (hg X.s_0 X.H_0 0 [] []).lg (ht X.s_0 X.H_0 0 [] []).lt (he X.s_0 X.H_0 0 [] []).le hv⟩
end
end DL
set_option Elab.async false
set_option linter.all false
set_option maxRecDepth 100000
set_option maxHeartbeats 4000000
namespace DL
open PySem L2
@[simp] def sNext : ES := fun N s G => N.nx s G
def sSeq (t u : ES) : ES := fun N s G => t { N with nx := u N } s G
@[simp] def sBreak : ES := fun N s G => N.bk s G
@[simp] def sCont : ES := fun N s G => N.ct s G
@[simp] def sDrop (te : EE) : ES := fun N s G => te s G fun _ G1 => N.nx s G1
@[simp] def sRet (te : EE) : ES := fun N s G => te s G N.rt
@[simp] def sRetN : ES := fun N _ G => N.rt .non G
@[simp] def sIf (c : ET) (t u : ES) : ES := fun N s G => c s G fun b G1 => if b = true then t N s G1 else u N s G1
@[simp] def sNever : ES := fun _ _ _ => False
@[simp] def sAsg (te : EE) (t : Tg) : ES := fun N s G => te s G fun d G1 => match asg t d s with
  | some s' => N.nx s' G1
  | none => False
/-- one statement, then the rest: what follows is a letter -/
theorem seq_gen {t u : ES} {N : En} {s : Sd} {G : Gp} (h : ∀ W : Sd → Gp → Prop, (∀ s' G', u N s' G' → W s' G') → t { N with nx := W } s G) : sSeq t u N s G := h (u N) fun _ _ x => x
section
variable {X : Cx} {Y : Wx} {K : PySem.W.Frag} {st : Stmt} {rest : List Stmt} {t u : TS} {et eu : ES} {e : Expr} {te : TE} {ee : EE} {pos : Pos}
theorem ls_next : LS K Y tNext sNext := fun P s G N σ H M h r k => k.nx s G σ H (Step.refl _ _) r h
theorem ls_seq (h1 : LS K Y t et) (h2 : LS K Y u eu) : LS K Y (tSeq t u) (sSeq et eu) := fun P s G N σ H M h r k =>
  h1 P s G _ σ H _ h r ⟨fun s' G' σ' H' st r' h' => h2 P s' G' N σ' H' M h' r' (k.step st), k.rt, k.bk, k.ct, k.xr⟩
theorem jss_nil : JSs X Y [] sNext := ⟨pss_nil, ls_next⟩
theorem jss_cons (h1 : JS X Y st et) (h2 : JSs X Y rest eu) : JSs X Y (st :: rest) (sSeq et eu) := ⟨pss_cons h1.ps h2.ps, ls_seq h1.ls h2.ls⟩
theorem jss_one (h1 : JS X Y st et) : JSs X Y [st] et := ⟨pss_one h1.ps, h1.ls⟩
theorem js_expr (he : JE X e ee) (hs : swapsWith e none pos.line X.env = pure false := by rfl) : JS X Y (.Expr e pos) (sDrop ee) := ⟨ps_expr he.pe hs, fun P s G N σ H M h r k => he.le P s G _ σ H _ h r fun d G' v H' st w rp q => k.nx s G' σ H' st (r.step st w) q⟩
theorem js_ret (he : JE X e ee) : JS X Y (.Return (some e) pos) (sRet ee) := ⟨ps_ret he.pe, fun P s G N σ H M h r k => he.le P s G _ σ H _ h r fun d G' v H' st w rp q => k.rt d G' v H' st w rp q⟩
theorem js_if {c : Expr} {a b : List Stmt} {ec : ET} (hc : JT X c ec) (ha : JSs X Y a et) (hb : JSs X Y b eu) : JS X Y (.If c a b pos) (sIf ec et eu) := ⟨ps_if hc.pt ha.ps hb.ps, fun P s G N σ H M h r k => by
  refine hc.lt P s G _ σ H _ h r fun b G' H' st w q => ?_
  cases b with
  | true => exact ha.ls P s G' N σ H' M q (r.step st w) (k.step st)
  | false => exact hb.ls P s G' N σ H' M q (r.step st w) (k.step st)⟩
theorem ls_asg {g : TG} {tg : Tg} (he : LE K te ee) (hg : LG K g tg) : LS K Y (tAsg te g) (sAsg ee tg) := fun P s G N σ H M h r k => by
  refine he P s G _ σ H _ h r fun d G' v H' st w rp q => ?_
  cases ea : asg tg d s with
  | none => rw [ea] at q; exact q.elim
  | some s' =>
    rw [ea] at q
    exact hg P s s' G' σ H' d v _ ea (r.step st w) rp fun σ' r' _ => k.nx s' G' σ' H' st r' q
theorem js_set {i : Nat} {x : Str} {pos' : Pos} (hN : X.N.Nodup) (hi : X.N[i]? = some x) (hx : Loc X.env.scope x) (he : JE X e ee) (hs : swapsWith e (some (.Name x pos')) pos.line X.env = pure false := by rfl)
    (hf : X.fn x = true ∨ X.env.scope.names.lookup x = some .local := by first | exact .inl rfl | exact .inr rfl | assumption) : JS X Y (.Assign [.Name x pos'] e pos) (sAsg ee (.nm i)) := ⟨ps_set hN hi hx he.pe hs hf, ls_asg he.le lg_nm⟩
/-- name = [..] on one line -/
theorem js_setLc {i : Nat} {y : Str} {py : Pos} {elt tg iter : Expr} {ifs : List Expr} {scope : Scope} {own : List (Str × Nat)} {pos spos : Pos} {ei : EI} {t : Tg} {et : ET} {ee : EE} (hc : X.calm = true) (hN : X.N.Nodup) (hy : X.N[i]? = some y) (hyl : X.env.scope.names.lookup y = some .local)
    (hsw : swapsWith (.ListComp elt [⟨tg, iter, ifs, 0⟩] scope pos) (some (.Name y py)) spos.line X.env = pure true) (hi : JI X tg iter ei) (ok : BlkOk X.N X.env.scope scope own)
    (hg : ∀ (s : Shared) (H : Hp) (C : Addr) (cl : List (Str × Addr)) (fp : List Addr), JG (X.blk s H scope (compEnvC scope cl C X.env) fp) tg t) (ht : ∀ (s : Shared) (H : Hp) (C : Addr) (cl : List (Str × Addr)) (fp : List Addr), JTs (X.blk s H scope (compEnvC scope cl C X.env) fp) ifs et)
    (he : ∀ (s : Shared) (H : Hp) (C : Addr) (cl : List (Str × Addr)) (fp : List Addr), JE (X.blk s H scope (compEnvC scope cl C X.env) fp) elt ee) (hv : ∀ i ∈ t.ix, i ∈ own.map (·.2) := by decide) (hs : ∀ x, foldedSetIterable iter X.env x = pure x := by intro _; rfl) :
    JS X Y (.Assign [.Name y py] (.ListComp elt [⟨tg, iter, ifs, 0⟩] scope pos) spos) (sAsg (eLc ei t et ee (own.map (·.2))) (.nm i)) :=
  ⟨ps_setLc hc hN hy hyl hsw hi.pi ok (fun s H C cl fp => (hg s H C cl fp).pg) (fun s H C cl fp => (ht s H C cl fp).pt) (fun s H C cl fp => (he s H C cl fp).pe) hs, ls_asg (le_lc hi.li (hg X.s_0 X.H_0 0 [] []).lg (ht X.s_0 X.H_0 0 [] []).lt (he X.s_0 X.H_0 0 [] []).le hv) lg_nm⟩
/-- name += e, name -= e -/
@[simp] def sAug (i : Nat) (te : EE) (f : Int → Int → Int) : ES := fun N s G => match s[i]? with
  | some (some (.int a)) => te s G fun y G1 => (match y with
    | .int b => N.nx (s.set i (some (.int (f a b)))) G1
    | _ => False)
  | _ => False
def forW (t : Tg) (tb : ES) (Kp : Gp → Prop) (N : En) : List D → Sd → Gp → Prop
  | [], s, G => Kp G ∧ N.nx s G
  | d :: ds, s, G => Kp G ∧ match asg t d s with
    | some s' => tb { N with nx := forW t tb Kp N ds, ct := forW t tb Kp N ds, bk := N.nx } s' G
    | none => False
@[simp] def sFor (ti : EI) (t : Tg) (tb : ES) : ES := fun N s G => ti s G fun ds Kp G1 => forW t tb Kp N ds s G1
theorem ls_for {wi : TI} {ei : EI} {g : TG} {tg : Tg} {tb : TS} {eb : ES} (hi : LI K wi ei) (hg : LG K g tg) (hb : LS K Y tb eb) : LS K Y (tFor wi g tb) (sFor ei tg eb) := fun P s G N σ H M h r k => by
  refine hi P s G _ σ H _ h r fun ds Kp G1 J H1 s1 w1 wk h1 => ?_
  obtain ⟨hz, wk⟩ := wk
  refine ⟨fun i m σ H => ∃ s G, Step G1 H1 G H ∧ Rl K P s G σ H ∧ i ≤ ds.length ∧ m = ds.length - i ∧ forW tg eb Kp N (ds.drop i) s G, ⟨_, s, G1, Step.refl _ _, r.step s1 w1, Nat.zero_le _, rfl, h1⟩, fun i m σ H hW => ?_⟩
  obtain ⟨s, G, st, rl, hi, rfl, hc⟩ := hW
  by_cases hlt : i < ds.length
  · have hd : ds[i]? = some ds[i] := List.getElem?_eq_getElem hlt
    rw [List.drop_eq_getElem_cons hlt, forW] at hc
    obtain ⟨kp, hc⟩ := hc
    obtain ⟨go, yl⟩ := (wk P G H i (fun _ _ q => q) st rl.wo kp).1 _ hd
    refine .inr ⟨go, fun σ' H' => ∃ s G, Step G1 H1 G H' ∧ Rl K P s G σ' H' ∧ forW tg eb Kp N (ds.drop (i + 1)) s G, fun σ' H' hN => ?_, fun x H' hy => ?_⟩
    · obtain ⟨s, G, a1, a2, a3⟩ := hN
      exact ⟨ds.length - (i + 1), by omega, s, G, a1, a2, hlt, rfl, a3⟩
    · obtain ⟨s2, w2, rx⟩ := yl x H' hy
      cases ea : asg tg ds[i] s with
      | none => rw [ea] at hc; exact hc.elim
      | some s' =>
        rw [ea] at hc
        refine hg P s s' G σ H' _ x _ ea (rl.step s2 w2) rx fun σ2 r2 _ => ?_
        have sA := st.trans s2
        exact hb P s' G _ σ2 H' _ hc r2 ⟨fun a b c d x y z => ⟨a, b, sA.trans x, y, z⟩, fun a b c d x y z w => k.rt a b c d ((s1.trans sA).trans x) y z w, fun a b c d x y z => k.nx a b c d ((s1.trans sA).trans x) y z, fun a b c d x y z => ⟨a, b, sA.trans x, y, z⟩, (k.step (s1.trans sA)).xr⟩
  · have hi2 : ds.length ≤ i := by omega
    rw [List.drop_eq_nil_of_le hi2, forW] at hc
    exact .inl ⟨(wk P G H i (fun _ _ q => q) st rl.wo hc.1).2 hi2, k.nx s G σ H (s1.trans st) rl hc.2⟩
theorem js_for {tg iter : Expr} {body : List Stmt} {ei : EI} {t : Tg} {eb : ES} (hp : PassesOwn (model X.prog X.w) X.A X.env X.xe) (hc : X.calm = true) (hi : JI X tg iter ei) (hg : JG X tg t) (hb : JSs X Y body eb) (hs : ∀ x, foldedSetIterable iter X.env x = pure x := by intro _; rfl) :
    JS X Y (.For tg iter body [] pos) (sFor ei t eb) := ⟨ps_for hp hc hi.pi hg.pg hb.ps hs, ls_for hi.li hg.lg hb.ls⟩
/-- o[i] = e, o an owned list -/
@[simp] def sSetIx (te to ti : EE) : ES := fun N s G => te s G fun v G1 => to s G1 fun o G2 => ti s G2 fun i G3 => match o, i with
  | .ref p, .int k => (match G3 p with
    | some (.lst ds) => (match ixN ds.length k with
      | some j => N.nx s (gput G3 p (.lst (ds.set j v)))
      | none => False)
    | _ => False)
  | _, _ => False
theorem js_setIx {o i : Expr} {eo ei : EE} {p' : Pos} (he : JE X e ee) (ho : JE X o eo) (hi : JE X i ei) (hp : PS X (.Assign [.Subscript o i p'] e pos) (tAsg (upE X.K ee) (gSub (upE X.K eo) (upE X.K ei) rSetL))) : JS X Y (.Assign [.Subscript o i p'] e pos) (sSetIx ee eo ei) :=
  ⟨hp, fun P s G N σ H M h r k => by
    refine he.le P s G _ σ H _ h r fun v G1 u H1 s1 w1 r1 h1 => ?_
    refine ho.le P s G1 _ σ H1 _ h1 (r.step s1 w1) fun od G2 ov H2 s2 w2 r2 h2 => ?_
    refine hi.le P s G2 _ σ H2 _ h2 (r.step (s1.trans s2) w2) fun id G3 iv H3 s3 w3 r3 h3 => ?_
    split at h3
    · rename_i p kk
      split at h3
      · rename_i ds e1
        split at h3
        · rename_i j e2
          have r2' := r2.step s3
          unfold Rep at r2'
          obtain ⟨rfl, _⟩ := r2'
          rw [rep_i r3]
          obtain ⟨ho', e3, xs, rfl, z, q⟩ := w3.own p _ e1
          refine ⟨p, xs, kk, j, rfl, rfl, e3, by rw [← q.length]; exact e2, ?_⟩
          have st : Step G3 H3 (gput G3 p (.lst (ds.set j v))) (upd H3 p (.lst (xs.set j u))) := Step.chg e1
          have sA := (((s1.trans s2).trans s3).trans st)
          have rv := (r1.step s2).step s3
          exact k.nx s _ σ _ sA (r.step sA (w3.chg e1 ⟨_, rfl, by rw [List.length_set]; exact z, (q.set rv j).step st⟩)) h3
        · exact h3.elim
      · exact h3.elim
    · exact h3.elim⟩
/-- methods of built-in types on owned lists, by values -/
abbrev MD := D → List D → Gp → DK → Prop
def LM (K : PySem.W.Frag) (r : V → List V → Hp → VK → Prop) (c : MD) : Prop := ∀ (P : Addr → Prop) (G : Gp) (H : Hp) (x : D) (u : V) (xs : List D) (us : List V) (Q : DK) (R : VK), c x xs G Q → Wo K P G H → Rep K H G P x u → Reps K H G P xs us →
  (∀ d G' w H', Step G H G' H' → Wo K P G' H' → Rep K H' G' P d w → Q d G' → R w H') → r u us H R
@[simp] def isLst (G : Gp) : D → Prop
  | .lst _ => True
  | .ref a => ∃ ds, G a = some (.lst ds)
  | _ => False
/-- o.m(..), o a list -/
@[simp] def eBm (c : MD) (to : EE) (t : EA) : EE := fun s G Q => to s G fun x G1 => isLst G1 x ∧ t s G1 fun xs G2 => c x xs G2 Q
theorem ty_lst {P : Addr → Prop} {G : Gp} {H : Hp} (w : Wo K P G H) {x : D} {u : V} (r : Rep K H G P x u) (h : isLst G x) : tyV K "list" u H := by
  cases x with
  | lst ds => obtain ⟨a, xs, rfl, g, p, rr, z, q⟩ := rep_l r; exact .inl ⟨rfl, xs, SqL.of rr⟩
  | ref a =>
    obtain ⟨ds, e⟩ := h
    unfold Rep at r
    obtain ⟨rfl, _⟩ := r
    obtain ⟨ho, e1, xs, rfl, z, q⟩ := w.own a _ e
    exact .inl ⟨rfl, xs, SqL.of e1⟩
  | _ => exact h.elim
theorem le_bm {n : Nat} {r : V → List V → Hp → VK → Prop} {c : MD} {to : TE} {eo : EE} {t : TA} {ea : EA} (hm : LM K r c) (ho : LE K to eo) (ha : LA K n t ea) : LE K (tBM K "list" r to t) (eBm c eo ea) := fun P s G Q σ H R h rl k => by
  refine ho P s G _ σ H _ h rl fun x G1 u H1 s1 w1 r1 h1 => ?_
  refine ⟨ty_lst w1 r1 h1.1, ?_⟩
  refine ha P s G1 _ σ H1 _ h1.2 (rl.step s1 w1) fun xs G2 us H2 s2 w2 r2 _ h2 => ?_
  exact hm P G2 H2 x u xs us Q R h2 w2 (r1.step s2) r2 fun d G' w H' st w' r' q' => k d G' w H' ((s1.trans s2).trans st) w' r' q'
@[simp] def mApp : MD := fun x xs G Q => match x, xs with
  | .ref p, [y] => (match G p with
    | some (.lst ds) => ds.length < sizeLine ∧ Q .non (gput G p (.lst (ds ++ [y])))
    | _ => False)
  | _, _ => False
theorem lm_app : LM K rAppend mApp := fun P G H x u xs us Q R h w rx rs k => by
  unfold mApp at h
  split at h
  · rename_i p y
    split at h
    · rename_i ds e
      unfold Rep at rx
      obtain ⟨rfl, _⟩ := rx
      obtain ⟨v, rfl, ry⟩ := reps1 rs
      obtain ⟨ho, e1, ys, rfl, z, q⟩ := w.own p _ e
      refine ⟨p, ys, v, rfl, rfl, e1, by rw [← q.length]; exact h.1, ?_⟩
      have st : Step G H (gput G p (.lst (ds ++ [y]))) (upd H p (.lst (ys ++ [v]))) := Step.chg e
      exact k _ _ _ _ st (w.chg e ⟨_, rfl, by rw [List.length_append]; exact h.1, (q.append (reps_cons ry reps_nil)).step st⟩) rep_non h.2
    · exact h.elim
  · exact h.elim
/-- xs.extend(ys) -/
@[simp] def mExt : MD := fun x xs G Q => match x, xs with
  | .ref p, [y] => (match G p, lkL G y with
    | some (.lst ds), some es => (∀ ns, y ≠ .scr ns) ∧ ds.length + es.length ≤ sizeLine ∧ Q .non (gput G p (.lst (ds ++ es)))
    | _, _ => False)
  | _, _ => False
section
variable {o : Expr} {es : List Expr} {to : TE} {eo : EE} {t : TA} {ea : EA} {name : Str} {apos cpos : Pos} {id : String} {r : V → List V → Hp → VK → Prop} {c : MD}
theorem j_bm (pa : PlainAttrs "list") (slot : Slot "list" name id) (hty : typeOf (.builtin id) = pure (.type "method_descriptor")) (hm : MtR X id r) (lm : LM X.K r c) (ho : JE X o eo) (ha : JA X (e :: es) ea) (hbase : attributeBase o name X.env (eval o X.env) = eval o X.env := by rfl)
    (hfew : ((backTo cpos (starEach (e :: es) X.env)).all (fun x => !x.1) && (backToKw cpos (keywordEach [] X.env)).all (fun x => x.1.isSome) && decide ((e :: es).length + ([] : List Keyword).length + (if ([] : List Keyword).isEmpty then 0 else 1) < 30)) = true := by rfl) (hline : (apos.endLine == cpos.line) = true := by rfl)
    (hs : starEach (e :: es) X.env = (false, eval e X.env) :: starEach es X.env := by rfl) (hplain : (backTo cpos (starEach es X.env)).any (·.1) = false := by rfl) : JE X (.Call (.Attribute o name apos) (e :: es) [] cpos) (eBm c eo ea) :=
  ⟨pe_bm pa slot hty hm ho.pe ha.pa hbase hfew hline hs hplain, le_bm lm ho.le ha.la⟩
end
end
end DL
set_option Elab.async false
set_option linter.all false
set_option maxRecDepth 100000
set_option maxHeartbeats 4000000
namespace DL
open PySem PySem.Spec PyProof.Rows L2
abbrev Sf := List D → Gp → DK → Prop
/-- a promise over data, over the heap -/
def Lf (K : PySem.W.Frag) (n : Nat) (f : Sf) : Sp := fun vs H R _ => vs.length = n ∧ ∃ (P : Addr → Prop) (ds : List D) (G : Gp) (Q : DK), Wo K P G H ∧ Reps K H G P ds vs ∧ f ds G Q ∧ ∀ d G' v H', Step G H G' H' → Wo K P G' H' → Rep K H' G' P d v → Q d G' → R v H'
@[simp] def eCall (f : Sf) (t : EA) : EE := fun s G Q => t s G fun ds G1 => f ds G1 Q
section
variable {X : Cx} {K : PySem.W.Frag}
theorem le_call {n : Nat} {f : Sf} {E : XK} {t : TA} {ea : EA} (ha : LA K n t ea) : LE K (tCall (Lf K n f) [] E t) (eCall f ea) := fun P s G Q σ H R h r k => by
  refine ha P s G _ σ H _ h r fun ds G1 vs H1 s1 w1 r1 l1 h1 => ?_
  rw [List.append_nil]
  exact ⟨by rw [← r1.length, l1], P, ds, G1, Q, w1, r1, h1, fun d G' v H' st w rp q => k d G' v H' (s1.trans st) w rp q⟩
abbrev FK (P : Program) (w : World) (K : PySem.W.Frag) (mg : Str → Option Value) (base : Heap) (k : Nat) (f : Addr) (fd : FuncData) (ps : List Str) (F : Sf) : Prop := FnOk P w K mg base CX0 k f fd ps (Lf K ps.length F)
theorem j_call {k : Nat} {f : Addr} {fd : FuncData} {ps : List Str} {F : Sf} {x : Str} {p pos : Pos} {e : Expr} {es : List Expr} {ea : EA} (FF : FK X.prog X.w X.K X.mg X.base k f fd ps F) (hr : Room k X.A) (hg : Gl X x) (hm : X.mg x = some (.ref f)) (hk : PySem.W.keepIn X.K (.ref f) = true) (hb : Binds X.K fd ps [])
    (ha : JA X (e :: es) ea) (hlen : (e :: es).length = ps.length := by rfl) (hdb : (x == ("__debug__" : Str)) = false := by decide) (he : starEach (e :: es) X.env = (false, eval e X.env) :: starEach es X.env := by rfl) (hpl : (backTo pos (starEach es X.env)).any (·.1) = false := by rfl) : JE X (.Call (.Name x p) (e :: es) [] pos) (eCall F ea) :=
  ⟨pe_call FF hr hg hm hk hb .nil pass0 ha.pa hdb he hpl, le_call (t := upA X.K (e :: es).length ea) (hlen ▸ ha.la)⟩
mutual
def RefIn (G : Gp) : D → Prop
  | .ref a => ∃ o, G a = some o
  | .lst ds => RefIns G ds
  | .tup ds => RefIns G ds
  | .dct _ ds => RefIns G ds
  | .exc _ _ _ e => RefIn G e
  | _ => True
def RefIns (G : Gp) : List D → Prop
  | [] => True
  | d :: ds => RefIn G d ∧ RefIns G ds
end
mutual
theorem ref_of {P : Addr → Prop} {G : Gp} {H : Hp} : ∀ {d : D} {v : V}, Rep K H G P d v → RefIn G d
  | .non, _, _ => by simp only [RefIn]
  | .bl _, _, _ => by simp only [RefIn]
  | .int _, _, _ => by simp only [RefIn]
  | .str _, _, _ => by simp only [RefIn]
  | .ty _, _, _ => by simp only [RefIn]
  | .cl _, _, _ => by simp only [RefIn]
  | .exc a dd f e, _, h => by unfold Rep at h; obtain ⟨_, _, _, u, _, q⟩ := h; simp only [RefIn]; exact ref_of q
  | .scr _, _, _ => by simp only [RefIn]
  | .ref a, _, h => by unfold Rep at h; simp only [RefIn]; exact h.2
  | .lst ds, _, h => by obtain ⟨a, xs, rfl, g, p, r, z, q⟩ := rep_l h; simp only [RefIn]; exact refs_of q
  | .tup ds, _, h => by obtain ⟨a, xs, rfl, g, p, r, z, q⟩ := rep_t h; simp only [RefIn]; exact refs_of q
  | .dct ks ds, _, h => by unfold Rep at h; obtain ⟨a, xs, rfl, g, p, r, z, q⟩ := h; simp only [RefIn]; exact refs_of q
theorem refs_of {P : Addr → Prop} {G : Gp} {H : Hp} : ∀ {ds : List D} {vs : List V}, Reps K H G P ds vs → RefIns G ds
  | [], _, _ => by simp only [RefIns]
  | d :: ds, _, h => by
    unfold Reps at h
    obtain ⟨x, r, rfl, h1, h2⟩ := h
    simp only [RefIns]
    exact ⟨ref_of h1, refs_of h2⟩
end
mutual
theorem Rep.less {P : Addr → Prop} {G G2 : Gp} {H : Hp} (h2 : ∀ a, G a = none → G2 a = none) : ∀ {d : D} {v : V}, RefIn G2 d → Rep K H G P d v → Rep K H G2 P d v
  | .non, _, _, h => by unfold Rep at h ⊢; exact h
  | .bl _, _, _, h => by unfold Rep at h ⊢; exact h
  | .int _, _, _, h => by unfold Rep at h ⊢; exact h
  | .str _, _, _, h => by unfold Rep at h ⊢; exact h
  | .ty _, _, _, h => by unfold Rep at h ⊢; exact h
  | .cl _, _, _, h => by unfold Rep at h ⊢; exact h
  | .exc a dd f e, _, q, h => by
    unfold Rep at h ⊢
    simp only [RefIn] at q
    obtain ⟨rfl, g, pp, u, r, t⟩ := h
    exact ⟨rfl, h2 _ g, pp, u, r, Rep.less h2 q t⟩
  | .scr ns, _, _, h => by
    unfold Rep at h ⊢
    obtain ⟨a, rfl, z, ⟨⟨u, h⟩, g⟩ | ⟨h, g, pp⟩ | h⟩ := h
    · exact ⟨a, rfl, z, .inl ⟨⟨u, h⟩, h2 _ g⟩⟩
    · exact ⟨a, rfl, z, .inr (.inl ⟨h, h2 _ g, pp⟩)⟩
    · exact ⟨a, rfl, z, .inr (.inr h)⟩
  | .ref a, _, q, h => by unfold Rep at h ⊢; simp only [RefIn] at q; exact ⟨h.1, q⟩
  | .lst ds, _, q, h => by
    unfold Rep at h ⊢
    simp only [RefIn] at q
    obtain ⟨a, xs, rfl, g, p, r, z, t⟩ := h
    exact ⟨a, xs, rfl, h2 _ g, p, r, z, Reps.less h2 q t⟩
  | .tup ds, _, q, h => by
    unfold Rep at h ⊢
    simp only [RefIn] at q
    obtain ⟨a, xs, rfl, g, p, r, z, t⟩ := h
    exact ⟨a, xs, rfl, h2 _ g, p, r, z, Reps.less h2 q t⟩
  | .dct ks ds, _, q, h => by
    unfold Rep at h ⊢
    simp only [RefIn] at q
    obtain ⟨a, xs, rfl, g, p, r, z, t⟩ := h
    exact ⟨a, xs, rfl, h2 _ g, p, r, z, Reps.less h2 q t⟩
theorem Reps.less {P : Addr → Prop} {G G2 : Gp} {H : Hp} (h2 : ∀ a, G a = none → G2 a = none) : ∀ {ds : List D} {vs : List V}, RefIns G2 ds → Reps K H G P ds vs → Reps K H G2 P ds vs
  | [], _, _, h => by unfold Reps at h ⊢; exact h
  | d :: ds, _, q, h => by
    unfold Reps at h ⊢
    simp only [RefIns] at q
    obtain ⟨x, r, rfl, h1, h3⟩ := h
    exact ⟨x, r, rfl, Rep.less h2 q.1 h1, Reps.less h2 q.2 h3⟩
end
def RefO (G : Gp) : GO → Prop
  | .lst ds => RefIns G ds
  | .dct _ ds => RefIns G ds
  | .ins _ _ _ ds => RefIns G ds
  | .gen _ ds => RefIns G ds
  | _ => True
theorem RelO.less {P : Addr → Prop} {G G2 : Gp} {H : Hp} {o : GO} {ho : HO} (h2 : ∀ a, G a = none → G2 a = none) (q : RefO G2 o) (h : RelO K H G P o ho) : RelO K H G2 P o ho := by
  cases o with
  | lst ds => obtain ⟨xs, e, z, t⟩ := h; exact ⟨xs, e, z, t.less h2 q⟩
  | dct ks ds => obtain ⟨xs, e, z, t⟩ := h; exact ⟨xs, e, z, t.less h2 q⟩
  | ins C dx ks ds => obtain ⟨xs, e, z, t⟩ := h; exact ⟨xs, e, z, t.less h2 q⟩
  | own x => exact h
  | set S n => exact h
  | gen r ds => obtain ⟨xs, e, z, t⟩ := h; exact ⟨xs, e, z, t.less h2 q⟩
  | tbl f q a =>
    obtain ⟨ea, ps, e, z, q⟩ := h
    refine ⟨ea, ps, e, z, fun pos cv hc => ?_⟩
    obtain ⟨c, e1, e2, e3, e4⟩ := q pos cv hc
    exact ⟨c, e1, e2, h2 _ e3, e4⟩
theorem refO_of {P : Addr → Prop} {G : Gp} {H : Hp} {o : GO} {ho : HO} (h : RelO K H G P o ho) : RefO G o := by
  cases o with
  | lst ds => obtain ⟨xs, e, z, t⟩ := h; exact refs_of t
  | dct ks ds => obtain ⟨xs, e, z, t⟩ := h; exact refs_of t
  | ins C dx ks ds => obtain ⟨xs, e, z, t⟩ := h; exact refs_of t
  | own x => trivial
  | set S n => trivial
  | gen r ds => obtain ⟨xs, e, z, t⟩ := h; exact refs_of t
  | tbl f q a => trivial
mutual
theorem refIn_mono {G G2 : Gp} (h : ∀ a o, G a = some o → ∃ o', G2 a = some o') : ∀ {d : D}, RefIn G d → RefIn G2 d
  | .non, _ => by simp only [RefIn]
  | .bl _, _ => by simp only [RefIn]
  | .int _, _ => by simp only [RefIn]
  | .str _, _ => by simp only [RefIn]
  | .ty _, _ => by simp only [RefIn]
  | .cl _, _ => by simp only [RefIn]
  | .exc a dd f e, q => by simp only [RefIn] at q ⊢; exact refIn_mono h q
  | .scr _, _ => by simp only [RefIn]
  | .ref a, q => by simp only [RefIn] at q ⊢; obtain ⟨o, e⟩ := q; exact h a o e
  | .lst ds, q => by simp only [RefIn] at q ⊢; exact refIns_mono h q
  | .tup ds, q => by simp only [RefIn] at q ⊢; exact refIns_mono h q
  | .dct ks ds, q => by simp only [RefIn] at q ⊢; exact refIns_mono h q
theorem refIns_mono {G G2 : Gp} (h : ∀ a o, G a = some o → ∃ o', G2 a = some o') : ∀ {ds : List D}, RefIns G ds → RefIns G2 ds
  | [], _ => by simp only [RefIns]
  | d :: ds, q => by simp only [RefIns] at q ⊢; exact ⟨refIn_mono h q.1, refIns_mono h q.2⟩
end
/-- at a def's end: what is handed back, and what stays owned -/
def Fz (G0 : Gp) (d : D) (G' : Gp) (d2 : D) (G2 : Gp) : Prop := ∀ (K : PySem.W.Frag) (P : Addr → Prop) (H0 H : Hp) (v : V), Wo K P G0 H0 → Step G0 H0 G' H → Wo K P G' H → Rep K H G' P d v → Step G0 H0 G2 H ∧ Wo K P G2 H ∧ Rep K H G2 P d2 v
theorem fz_id {G0 G' : Gp} {d : D} : Fz G0 d G' d G' := fun _ _ _ _ _ _ s w r => ⟨s, w, r⟩
/-- some new objects are let go -/
theorem fz_sub {G0 G' G2 : Gp} {d : D} (h1 : ∀ a o, G2 a = some o → G' a = some o) (h0 : ∀ a o, G0 a = some o → ∃ o', G2 a = some o') (hc : ∀ a o, G2 a = some o → RefO G2 o ∨ G0 a = some o) (hd : RefIn G2 d) : Fz G0 d G' d G2 := fun K P H0 H v w0 st w r => by
  have h2 : ∀ a, G' a = none → G2 a = none := fun a e => by
    cases q : G2 a with
    | none => rfl
    | some o => rw [h1 a o q] at e; cases e
  refine ⟨⟨fun a o e g => ⟨(st.keep a o e g).1, h2 a (st.keep a o e g).2⟩, h0⟩, ⟨fun a o e => ?_, fun a q => ?_⟩, r.less h2 hd⟩
  · obtain ⟨ho, e1, r1⟩ := w.own a o (h1 a o e)
    refine ⟨ho, e1, r1.less h2 ?_⟩
    rcases hc a o e with q | q
    · exact q
    · obtain ⟨ho0, e0, r0⟩ := w0.own a o q
      have := refO_of r0
      cases o with
      | lst ds => exact refIns_mono h0 this
      | dct ks ds => exact refIns_mono h0 this
      | ins C dx ks ds => exact refIns_mono h0 this
      | own x => trivial
      | set S n => trivial
      | gen r ds => exact refIns_mono h0 this
      | tbl f q a => trivial
  · obtain ⟨g, ho, e⟩ := w.prv a q
    exact ⟨h2 a g, ho, e⟩
/-- the end of a def's body -/
def fin (G0 : Gp) (Q : DK) : En := { nx := fun _ G' => ∃ d2 G2, Fz G0 .non G' d2 G2 ∧ Q d2 G2, rt := fun d G' => ∃ d2 G2, Fz G0 d G' d2 G2 ∧ Q d2 G2 }
/-- the slots at the entry -/
def startD (n : Nat) (ds : List D) : Sd := ds.map some ++ List.replicate (n - ds.length) none
theorem rl_start {P : Addr → Prop} {G : Gp} {H : Hp} {N : List Str} {ds : List D} {vs : List V} (w : Wo K P G H) (r : Reps K H G P ds vs) : Rl K P (startD N.length ds) G (L2.start N vs) H := by
  have l := r.length
  refine ⟨w, by unfold startD L2.start; simp [l], fun i d e => ?_⟩
  unfold startD at e
  unfold L2.start
  by_cases hi : i < ds.length
  · rw [List.getElem?_append_left (by simpa using hi), List.getElem?_map] at e
    obtain ⟨d', e1, e2⟩ := opt_map e
    cases e2
    obtain ⟨v, e3, r3⟩ := r.get e1
    exact ⟨v, by rw [List.getElem?_append_left (by simp; omega), List.getElem?_map, e3]; rfl, r3⟩
  · rw [List.getElem?_append_right (by simp; omega)] at e
    rw [List.getElem?_replicate] at e
    split at e <;> cases e
/-- no wish about what is raised -/
def y0 : Wx := ⟨fun _ _ _ _ => False⟩
/-- THE RULE for a def -/
theorem fk_ok {P : Program} {w : World} {K : PySem.W.Frag} {mg : Str → Option Value} {base : Heap} {x qual : Str} {params : Arguments} {body : List Stmt} {scope : Scope} {kws : List (Str × V)} {dvs : List V} {f : Addr} {fd : FuncData} {N ps : List Str} {k : Nat} {F : Sf} {es : ES}
    (FF : FunD K x qual params body scope dvs kws f fd) (S : FnScope N ps scope)
    (hJ : ∀ (cdv : Value) (A : Around) (outer : List Env) (s : Shared) (H : Hp) (E : XK), Room k (A.deeper (envOfC qual scope s.heap.objs.size f cdv)) → JSs (cxOf CX0 P w K mg base N qual scope f cdv A outer s H E).nox y0 body es)
    (hR : ∀ ds G Q, F ds G Q → es (fin G Q) (startD N.length ds) G) : FK P w K mg base (k + 1) f fd ps F := by
  refine FF.ok S (fun vs H Q E h => ?_) (fun cdv A outer s H vs Q E hr h => ?_)
  · exact h.1
  · obtain ⟨_, P', ds, G, Q', wo, r, hf, kk⟩ := h
    have j := hJ cdv A outer s H E hr
    refine ⟨_, PSs.nox j.ps, ?_⟩
    have hR' := hR ds G Q' hf
    refine j.ls P' (startD N.length ds) G (fin G Q') (L2.start N vs) H _ hR' (rl_start wo r) ⟨?_, ?_, ?_, ?_, ?_⟩
    · intro s' G' σ' H' st rl hq
      obtain ⟨d2, G2, fz, q2⟩ := hq
      obtain ⟨b1, b2, b3⟩ := fz K P' H H' .non wo st rl.wo rep_non
      exact kk d2 G2 .non H' b1 b2 b3 q2
    · intro d G' v H' st w' rp hq
      obtain ⟨d2, G2, fz, q2⟩ := hq
      obtain ⟨b1, b2, b3⟩ := fz K P' H H' v wo st w' rp
      exact kk d2 G2 v H' b1 b2 b3 q2
    · intro s' G' σ' H' st rl hq
      exact hq.elim
    · intro s' G' σ' H' st rl hq
      exact hq.elim
    · intro x s' G' cls d σ' H' st rl _ hq
      exact hq.elim
/-- the law's promise: of every script True -/
def lawF (n : Nat) : Sf := fun ds G Q => ∃ ns : List Int, ds = [.scr ns] ∧ ns.length ≤ n ∧ G = (fun _ => none) ∧ ∀ G', Q (.bl true) G'
theorem law_sp {K : PySem.W.Frag} {n : Nat} (hn : n ≤ sizeLine) {H : Hp} {a : Addr} {ns : List Int} (hl : ns.length ≤ n) (ho : Only H) (hS : SqL K H a (ns.map V.int)) {E : XK} : Lf K 1 (lawF n) [.ref a] H (fun v _ => v = .bl true) E := by
  refine ⟨rfl, fun _ => False, [.scr ns], fun _ => none, fun d _ => d = .bl true, ⟨fun _ _ e => (nomatch e), fun _ q => q.elim⟩, reps_cons ?_ reps_nil, ⟨ns, rfl, hl, rfl, fun _ => rfl⟩, fun d G' v H' _ _ r q => by subst q; exact rep_b r⟩
  unfold Rep
  refine ⟨a, rfl, Nat.le_trans hl hn, ?_⟩
  rcases hS with (h | ⟨o, h⟩) | h
  · exact .inr (.inl ⟨h, rfl, fun x => x⟩)
  · exact .inl ⟨⟨o, h⟩, rfl⟩
  · exact .inr (.inr h)
end
end DL
namespace DL
open PySem PySem.Spec PyProof.Rows L2
/-- a def of the text, called by its name: it keeps the promise F -/
structure Cal (P : Program) (w : World) (K : PySem.W.Frag) (mg : Str → Option Value) (base : Heap) (k : Nat) (x : Str) (ps : List Str) (F : Sf) : Prop where
  ex : ∃ f fd, FK P w K mg base k f fd ps F ∧ mg x = some (.ref f) ∧ PySem.W.keepIn K (.ref f) = true ∧ Binds K fd ps []
/-- a def as it stands behind the top -/
structure Df (K : PySem.W.Frag) (mg : Str → Option Value) (x : Str) (st : Stmt) : Prop where
  ex : ∃ f fd, FunD K x x (defArgs st) (defBody st) (defScope st) [] [] f fd ∧ mg x = some (.ref f)
section
variable {X : Cx}
theorem j_cal {K : PySem.W.Frag} {k : Nat} {ps : List Str} {F : Sf} {x : Str} {p pos : Pos} {e : Expr} {es : List Expr} {ea : EA} (c : Cal X.prog X.w K X.mg X.base k x ps F) (hr : Room k X.A) (hg : Gl X x)
    (ha : JA X (e :: es) ea) (hK : X.K = K := by rfl) (hlen : (e :: es).length = ps.length := by rfl) (hdb : (x == ("__debug__" : Str)) = false := by decide) (he : starEach (e :: es) X.env = (false, eval e X.env) :: starEach es X.env := by rfl) (hpl : (backTo pos (starEach es X.env)).any (·.1) = false := by rfl) : JE X (.Call (.Name x p) (e :: es) [] pos) (eCall F ea) := by
  subst hK
  obtain ⟨f, fd, h1, h2, h3, h4⟩ := c.ex
  exact j_call h1 hr hg h2 h3 h4 ha hlen hdb he hpl
/-- THE RULE for a def, by its name -/
theorem cal_ok {P : Program} {w : World} {K : PySem.W.Frag} {mg : Str → Option Value} {base : Heap} {x : Str} {st : Stmt} {N ps : List Str} {k : Nat} {F : Sf} {es : ES} (D : Df K mg x st) (S : FnScope N ps (defScope st))
    (hb : ∀ (kV doc pm : Value) (an : Option Addr) (cdv ct : Value) (us : List Value), us.length = ps.length → bindArgs (PySem.W.fnOf x x (defArgs st) (defBody st) (defScope st) .none kV doc pm an cdv ct) ⟨us, []⟩ = pure (ps.zip us))
    (hJ : ∀ (f : Addr) (cdv : Value) (A : Around) (outer : List Env) (s : Shared) (H : Hp) (E : XK), Room k (A.deeper (envOfC x (defScope st) s.heap.objs.size f cdv)) → JSs (cxOf CX0 P w K mg base N x (defScope st) f cdv A outer s H E).nox y0 (defBody st) es)
    (hR : ∀ ds G Q, F ds G Q → es (fin G Q) (startD N.length ds) G) : Cal P w K mg base (k + 1) x ps F := by
  obtain ⟨f, fd, h1, h2⟩ := D.ex
  exact ⟨f, fd, fk_ok h1 S (hJ f) hR, h2, h1.kp, h1.bindsN hb⟩
end
end DL
set_option Elab.async false
set_option linter.all false
set_option maxRecDepth 100000
set_option maxHeartbeats 4000000
namespace DL
open PySem PySem.Spec PyProof.Rows L2
section
variable {X : Cx} {K : PySem.W.Frag} {e : Expr} {te : TE} {ee : EE} {pos : Pos}
theorem js_setI {Y : Wx} {o i : Expr} {eo ei : EE} {p' : Pos} (he : JE X e ee) (ho : JE X o eo) (hi : JE X i ei)
    (ha : ∀ v, assign (.Subscript o i p') X.env v = (do let ov ← holding [v] (eval o X.env); let iv ← holding [v, ov] (eval i X.env); standAt p'; holding [v, ov, iv] (setItem ov iv v); release [v, ov, iv] []) := by intro _; rfl)
    (hs : swapsWithSole [.Subscript o i p'] e pos.line X.env = pure false := by rfl) (hw : swappedStores [.Subscript o i p'] e X.env = pure none := by rfl) (h1 : (assignEach [.Subscript o i p'] X.env).map (·.2) = [assign (.Subscript o i p') X.env] := by rfl) :
    JS X Y (.Assign [.Subscript o i p'] e pos) (sSetIx ee eo ei) := js_setIx he ho hi (ps_asg he.pe (pg_sub ho.pe hi.pe set_list ha) hs hw h1)
/-- list(range(n)), list(range(a, b)) -/
@[simp] def eListRange (ea : EA) : EE := fun s G Q => ea s G fun xs G1 => match xs with
  | [.int n] => -(2 ^ 62) ≤ n ∧ n ≤ 16000000 ∧ Q (.lst (rngD 0 n.toNat)) G1
  | _ => False
end
theorem rngD_succ (lo : Int) (n : Nat) : rngD lo (n + 1) = .int lo :: rngD (lo + 1) n := by
  unfold rngD
  rw [List.range_succ_eq_map, List.map_cons, List.map_map]
  congr 1
  · simp
  · apply List.map_congr_left
    intro a _
    simp only [Function.comp_apply]
    congr 1
    omega
theorem rngD_zero (lo : Int) : rngD lo 0 = [] := rfl
/-- a comprehension that leaves the owned objects: over a list of things -/
theorem compW_map {α : Type} {g : α → D} {p : α → Bool} {f : α → D} {s0 : Sd} {t : Tg} {tt : ET} {te : EE} {Kp : Gp → Prop} {G : Gp} {Q : List D → Gp → Prop} (hK : Kp G) : ∀ (xs : List α) (acc : List D),
    (∀ x ∈ xs, ∃ s', asg t (g x) s0 = some s' ∧ (∀ R : Bool → Gp → Prop, R (p x) G → tt s' G R) ∧ (p x = true → ∀ R : DK, R (f x) G → te s' G R)) → Q (acc ++ (xs.filter p).map f) G → compW s0 t tt te Kp (xs.map g) acc G Q
  | [], acc, _, hq => by
    simp only [List.map_nil, compW]
    exact ⟨hK, by simpa using hq⟩
  | x :: xs, acc, h, hq => by
    simp only [List.map_cons, compW]
    refine ⟨hK, ?_⟩
    obtain ⟨s', e1, h1, h2⟩ := h x List.mem_cons_self
    simp only [e1]
    refine h1 _ ?_
    cases e : p x with
    | true =>
      refine h2 e _ ?_
      refine compW_map hK xs _ (fun y hy => h y (List.mem_cons_of_mem _ hy)) ?_
      rw [List.filter_cons_of_pos e] at hq
      simpa using hq
    | false =>
      refine compW_map hK xs _ (fun y hy => h y (List.mem_cons_of_mem _ hy)) ?_
      rw [List.filter_cons_of_neg (by simp [e])] at hq
      exact hq
/-- .. without a test -/
theorem compW_all {α : Type} {g : α → D} {f : α → D} {s0 : Sd} {t : Tg} {te : EE} {Kp : Gp → Prop} {G : Gp} {Q : List D → Gp → Prop} (hK : Kp G) (xs : List α) (acc : List D)
    (h : ∀ x ∈ xs, ∃ s', asg t (g x) s0 = some s' ∧ (∀ R : DK, R (f x) G → te s' G R)) (hq : Q (acc ++ xs.map f) G) : compW s0 t eYes te Kp (xs.map g) acc G Q :=
  compW_map (p := fun _ => true) hK xs acc (fun x hx => let ⟨s', e, k⟩ := h x hx; ⟨s', e, fun R r => r, fun _ => k⟩) (by rw [List.filter_eq_self.mpr (fun _ _ => rfl)]; exact hq)
theorem fin_id {G0 G' : Gp} {Q : DK} {d : D} (h : Q d G') : (fin G0 Q).rt d G' := ⟨d, G', fz_id, h⟩
/-- a new list is handed back frozen, other changed objects stay -/
theorem fz_lstS {G0 G' G2 : Gp} {p : Addr} {ds : List D} (h1 : ∀ a o, G2 a = some o → G' a = some o) (h0 : ∀ a o, G0 a = some o → ∃ o', G2 a = some o') (hc : ∀ a o, G2 a = some o → RefO G2 o ∨ G0 a = some o) (e : G' p = some (.lst ds)) (n : G2 p = none) (hd : RefIns G2 ds) : Fz G0 (.ref p) G' (.lst ds) G2 := fun K P H0 H v w0 st w r => by
  have h2 : ∀ a, G' a = none → G2 a = none := fun a e => by
    cases q : G2 a with
    | none => rfl
    | some o => rw [h1 a o q] at e; cases e
  obtain ⟨a1, a2, a3⟩ := fz_sub (d := .non) h1 h0 hc (by simp only [RefIn]) K P H0 H .non w0 st w rep_non
  refine ⟨a1, a2, ?_⟩
  unfold Rep at r
  obtain ⟨rfl, _⟩ := r
  obtain ⟨ho, e1, xs, rfl, z, q⟩ := w.own p _ e
  exact rep_lst n (fun pp => by rw [(w.prv p pp).1] at e; cases e) e1 z (q.less h2 hd)
theorem fin_lstS {G0 G' G2 : Gp} {Q : DK} {p : Addr} {ds : List D} (h1 : ∀ a o, G2 a = some o → G' a = some o) (h0 : ∀ a o, G0 a = some o → ∃ o', G2 a = some o') (hc : ∀ a o, G2 a = some o → RefO G2 o ∨ G0 a = some o) (e : G' p = some (.lst ds)) (n : G2 p = none) (hd : RefIns G2 ds) (q : Q (.lst ds) G2) : (fin G0 Q).rt (.ref p) G' := ⟨_, G2, fz_lstS h1 h0 hc e n hd, q⟩
mutual
def plainD : D → Bool
  | .ref _ => false
  | .exc _ _ _ _ => false
  | .lst ds => plainDs ds
  | .tup ds => plainDs ds
  | .dct _ ds => plainDs ds
  | _ => true
def plainDs : List D → Bool
  | [] => true
  | d :: ds => plainD d && plainDs ds
end
mutual
theorem refIn_plain {G : Gp} : ∀ {d : D}, plainD d = true → RefIn G d
  | .non, _ => by simp only [RefIn]
  | .bl _, _ => by simp only [RefIn]
  | .int _, _ => by simp only [RefIn]
  | .str _, _ => by simp only [RefIn]
  | .ty _, _ => by simp only [RefIn]
  | .cl _, _ => by simp only [RefIn]
  | .exc _ _ _ _, q => by simp [plainD] at q
  | .scr _, _ => by simp only [RefIn]
  | .ref a, q => by simp [plainD] at q
  | .lst ds, q => by simp only [plainD] at q; simp only [RefIn]; exact refIns_plain q
  | .tup ds, q => by simp only [plainD] at q; simp only [RefIn]; exact refIns_plain q
  | .dct ks ds, q => by simp only [plainD] at q; simp only [RefIn]; exact refIns_plain q
theorem refIns_plain {G : Gp} : ∀ {ds : List D}, plainDs ds = true → RefIns G ds
  | [], _ => by simp only [RefIns]
  | d :: ds, q => by
    simp only [plainDs, Bool.and_eq_true] at q
    simp only [RefIns]
    exact ⟨refIn_plain q.1, refIns_plain q.2⟩
end
theorem plainDs_map {α : Type} {f : α → D} (h : ∀ x, plainD (f x) = true) : ∀ xs : List α, plainDs (xs.map f) = true
  | [] => rfl
  | x :: xs => by simp only [List.map_cons, plainDs, h x, plainDs_map h xs, Bool.and_self]
end DL
set_option Elab.async false
set_option linter.all false
set_option maxRecDepth 100000
set_option maxHeartbeats 4000000
namespace DL
open PySem PySem.Spec PyProof.Rows L2
def stO (x y z : Int) : GO := .lst [.int x, .int y, .int z]
structure Ok3 (x y z : Int) : Prop where
  x0 : 0 ≤ x
  y0 : 0 ≤ y
  y1 : y < 2147483647
  z0 : 0 ≤ z
/-- a divisor that may be drawn by -/
def Wd (m : Int) : Prop := 0 < m ∧ m.natAbs.log2 < 9000
theorem wd_small {m : Int} (h : 0 < m) (h2 : m < 2 ^ 8999) : Wd m := ⟨h, by
  have e : m.natAbs ≠ 0 := by omega
  rw [Nat.log2_lt e]
  have : ((m.natAbs : Nat) : Int) < ((2 ^ 9000 : Nat) : Int) := by
    rw [Int.natAbs_of_nonneg (by omega)]
    refine Int.lt_of_lt_of_le h2 ?_
    decide +kernel
  exact Int.ofNat_lt.mp this⟩
theorem gput_eq {G : Gp} {a : Addr} {o : GO} (h : G a = some o) : gput G a o = G := by
  funext b
  by_cases e : b = a
  · subst e; rw [gput_same, h]
  · rw [gput_ne e]
def F__law_take : Sf := fun ds G Q => ∃ a many x y z, ds = [.ref a, .int many] ∧ G a = some (stO x y z) ∧ Ok3 x y z ∧ Wd many ∧
  ∀ r x' y' z', Ok3 x' y' z' → 0 ≤ r → r < many → Q (.int r) (gput G a (stO x' y' z'))
theorem cmul_r {i j : Int} (h : -(2 ^ 64) < j) (h2 : j < 2 ^ 64) : CMul i j := .inr ⟨h, h2⟩
theorem cmul_l {i j : Int} (h : -(2 ^ 64) < i) (h2 : i < 2 ^ 64) : CMul i j := .inl ⟨h, h2⟩
def r__law_take_L1 : ES :=
  (sSeq (sSetIx (eOp oAdd (eOp oIx (eVar 0) (eC (.int 2))) (eC (.int 1))) (eVar 0) (eC (.int 2)))
  (sSeq (sSetIx (eOp oMod (eOp oAdd (eOp oMul (eOp oIx (eVar 0) (eC (.int 1))) (eC (.int 48271))) (eOp oMul (eC (.int 11)) (eOp oIx (eVar 0) (eC (.int 2))))) (eC (.int 2147483647))) (eVar 0) (eC (.int 1)))
  (sAsg (eOp oAdd (eOp oMul (eVar 3) (eC (.int 2147483629))) (eOp oMod (eOp oMul (eOp oIx (eVar 0) (eC (.int 1))) (eOp oIx (eVar 0) (eC (.int 1)))) (eC (.int 2147483629)))) (.nm 3))))
def r__law_take : ES :=
  (sSeq (sIf (eT (eOp oGt (eOp oIx (eVar 0) (eC (.int 0))) (eC (.int 0)))) (sSeq (sAsg (eOp oMod (eOp oIx (eVar 0) (eC (.int 0))) (eVar 1)) (.nm 2))
  (sSeq (sSetIx (eOp oDivW (eOp oIx (eVar 0) (eC (.int 0))) (eVar 1)) (eVar 0) (eC (.int 0)))
  (sRet (eVar 2)))) sNext)
  (sSeq (sAsg (eC (.int 0)) (.nm 3))
  (sSeq (sFor (iR1 (eCons (eOp oAdd (eC (.int 1)) (eCB cInt1 (eCons (eOp oGt (eVar 1) (eOp oPow (eC (.int 10)) (eC (.int 6)))) eNil))) eNil)) (.nm 4) r__law_take_L1)
  (sRet (eOp oMod (eOp oDivW (eVar 3) (eC (.int 16))) (eVar 1))))))
theorem take_loop {G : Gp} {a : Addr} {N : En} {many : Int} : ∀ (n : Nat) (lo : Int) (o3 : Int) (o4 : Option D) (x y z : Int), Ok3 x y z → 0 ≤ o3 → (∀ o3 o4 x y z, Ok3 x y z → 0 ≤ o3 → N.nx [some (.ref a), some (.int many), none, some (.int o3), o4] (gput G a (stO x y z))) →
    forW (.nm 4) r__law_take_L1 (fun _ => True) N (rngD lo n) [some (.ref a), some (.int many), none, some (.int o3), o4] (gput G a (stO x y z)) := by
  intro n
  induction n with
  | zero => intro lo o3 o4 x y z ok h0 k; simp only [rngD_zero, forW, true_and]; exact k _ _ _ _ _ ok h0
  | succ n ih =>
    intro lo o3 o4 x y z ok h0 k
    rw [rngD_succ]
    obtain ⟨hx, hy, hy1, hz⟩ := ok
    simp [forW, sSeq, r__law_take_L1, gput_same, gput_gput, stO, atI, ixN]
    refine ⟨cmul_r (by decide) (by decide), cmul_l (by decide) (by decide), cmul_r (by decide) (by decide), cmul_r (by omega) (by omega), ?_⟩
    refine ih _ _ _ _ _ _ ⟨hx, by omega, by omega, by omega⟩ ?_ k
    have := Int.emod_nonneg ((y * 48271 + 11 * (z + 1)) % 2147483647 * ((y * 48271 + 11 * (z + 1)) % 2147483647)) (show (2147483629 : Int) ≠ 0 by decide)
    omega
theorem d__law_take (ds : List D) (G : Gp) (Q : DK) (h : F__law_take ds G Q) : r__law_take (fin G Q) (startD 5 ds) G := by
  obtain ⟨a, many, x, y, z, rfl, hG, ok, wd, k⟩ := h
  obtain ⟨hx, hy, hy1, hz⟩ := ok
  have hG' : gput G a (stO x y z) = G := gput_eq hG
  simp [sSeq, r__law_take, startD, hG, stO, atI, ixN]
  split
  · rename_i h0
    refine ⟨wd.1, wd, fin_id (k _ _ _ _ ⟨Int.ediv_nonneg hx (Int.le_of_lt wd.1), hy, hy1, hz⟩ (Int.emod_nonneg _ (by have := wd.1; omega)) (Int.emod_lt_of_pos _ wd.1))⟩
  · refine ⟨⟨by decide, by decide, by decide⟩, by split <;> decide, by split <;> decide, ?_⟩
    have := take_loop (G := G) (a := a) (many := many) (N := { nx := sRet (eOp oMod (eOp oDivW (eVar 3) (eC (D.int 16))) (eVar 1)) (fin G Q), rt := (fin G Q).rt, bk := (fin G Q).bk, ct := (fin G Q).ct, xr := (fin G Q).xr }) (1 + if 1000000 < many then 1 else 0 : Int).toNat 0 0 none x y z ⟨hx, hy, hy1, hz⟩ (by decide) ?_
    · rw [hG'] at this
      simpa [sSeq] using this
    · intro o3 o4 x y z ok h0
      simp
      exact ⟨⟨by decide, by decide⟩, wd.1, fin_id (k _ _ _ _ ok (Int.emod_nonneg _ (by have := wd.1; omega)) (Int.emod_lt_of_pos _ wd.1))⟩
def r__law_begun : ES :=
  (sSeq (sAsg (eC (.int 0)) (.nm 2))
  (sSeq (sIf (eT (eOp oLt (eVar 1) (eCB cLen (eCons (eVar 0) eNil)))) (sAsg (eOp oIx (eVar 0) (eVar 1)) (.nm 2)) sNext)
  (sSeq (sAsg (eCB cMax2 (eCons (eVar 2) (eCons (eOp oSub (eUn oNeg (eC (.int 1))) (eVar 2)) eNil))) (.nm 3))
  (sSeq (sAsg (eOp oMod (eOp oAdd (eOp oAdd (eVar 3) (eOp oMul (eOp oMul (eC (.int 104729)) (eVar 1)) (eVar 1))) (eC (.int 7))) (eC (.int 2147483647))) (.nm 4))
  (sSeq (sIf (eT (eOp oLt (eVar 3) (eOp oPow (eC (.int 10)) (eC (.int 18))))) (sAsg (eC (.int 0)) (.nm 3)) sNext)
  (sRet (eLstO (eCons (eVar 3) (eCons (eVar 4) (eCons (eC (.int 0)) eNil))))))))))
def F__law_begun : Sf := fun ds G Q => ∃ (ns : List Int) (k : Int), ds = [.scr ns, .int k] ∧ 0 ≤ k ∧ k ≤ 1000 ∧ ∀ p x y z, G p = none → Ok3 x y z → Q (.ref p) (gput G p (stO x y z))
theorem d__law_begun (ds : List D) (G : Gp) (Q : DK) (h : F__law_begun ds G Q) : r__law_begun (fin G Q) (startD 5 ds) G := by
  obtain ⟨ns, k, rfl, h0, h1, kk⟩ := h
  have key : ∀ c : Int, 0 ≤ (if -1 - c > c then -1 - c else c) := fun c => by split <;> omega
  have fin3 : ∀ c : Int, 0 ≤ c → ∀ m : Int, 0 ≤ (if c < 1000000000000000000 then 0 else c) ∧ 0 ≤ m % 2147483647 ∧ m % 2147483647 < 2147483647 := fun c hc m => ⟨by split <;> omega, by omega, by omega⟩
  have body : ∀ c : Int, sSeq (sAsg (eCB cMax2 (eCons (eVar 2) (eCons (eOp oSub (eUn oNeg (eC (.int 1))) (eVar 2)) eNil))) (.nm 3)) (sSeq (sAsg (eOp oMod (eOp oAdd (eOp oAdd (eVar 3) (eOp oMul (eOp oMul (eC (.int 104729)) (eVar 1)) (eVar 1))) (eC (.int 7))) (eC (.int 2147483647))) (.nm 4)) (sSeq (sIf (eT (eOp oLt (eVar 3) (eOp oPow (eC (.int 10)) (eC (.int 18))))) (sAsg (eC (.int 0)) (.nm 3)) sNext) (sRet (eLstO (eCons (eVar 3) (eCons (eVar 4) (eCons (eC (.int 0)) eNil))))))) (fin G Q) [some (.scr ns), some (.int k), some (.int c), none, none] G := by
    intro c
    have hc := key c
    simp [sSeq]
    refine ⟨cmul_l (by decide) (by decide), cmul_r (by omega) (by omega), ⟨by decide, by decide, by decide⟩, ?_⟩
    generalize (if -1 - c > c then -1 - c else c) = m at *
    split
    · exact ⟨by decide, fun p hp => fin_id (kk p _ _ _ hp ⟨by omega, by omega, by omega, by omega⟩)⟩
    · exact ⟨by decide, fun p hp => fin_id (kk p _ _ _ hp ⟨by omega, by omega, by omega, by omega⟩)⟩
  simp [sSeq, r__law_begun, startD]
  split
  · rename_i hlt
    have hk : k.toNat < ns.length := by omega
    have e : atI (ns.map D.int) k = some (.int ns[k.toNat]) := by
      have := atI_nat (xs := ns.map D.int) (j := k.toNat) (v := .int ns[k.toNat]) (by rw [List.getElem?_map, List.getElem?_eq_getElem hk]; rfl)
      rwa [Int.toNat_of_nonneg h0] at this
    rw [e]
    have := body ns[k.toNat]
    simpa [sSeq] using this
  · have := body 0
    simpa [sSeq] using this
end DL
set_option Elab.async false
set_option linter.all false
set_option maxRecDepth 100000
set_option maxHeartbeats 4000000
namespace DL
open PySem PySem.Spec PyProof.Rows L2
theorem take_ok {a : Addr} {m x y z : Int} {G : Gp} {Q : DK} (hG : G a = some (stO x y z)) (ok : Ok3 x y z) (w : Wd m) (k : ∀ r x y z, Ok3 x y z → 0 ≤ r → r < m → Q (.int r) (gput G a (stO x y z))) : F__law_take [.ref a, .int m] G Q := ⟨a, m, x, y, z, rfl, hG, ok, w, k⟩
theorem wd_of {m : Int} (h : 0 < m) (h2 : m ≤ 10000000000000000000000000000000000000000000000000000000000000) : Wd m := wd_small h (Int.lt_of_le_of_lt h2 (by decide +kernel))
/-- an item of a written list -/
theorem at_mem {ds : List D} {i : Int} (h0 : 0 ≤ i) (h1 : i < ds.length) : ∃ d, atI ds i = some d ∧ d ∈ ds := by
  have hi : i.toNat < ds.length := by omega
  have := atI_nat (xs := ds) (j := i.toNat) (List.getElem?_eq_getElem hi)
  rw [Int.toNat_of_nonneg h0] at this
  exact ⟨_, this, List.getElem_mem hi⟩
theorem gput_swap {G : Gp} {a p : Addr} {s s' l : GO} (h : p ≠ a) : gput (gput (gput G a s) p l) a s' = gput (gput G a s') p l := by
  funext b
  unfold gput
  by_cases e : b = a
  · subst e; simp [Ne.symm h]
  · by_cases e2 : b = p <;> simp [e, e2, h]
structure Stretch where
  name : Str
  b : Int
  e : Int
  w : Int
def Stretch.d (s : Stretch) : D := .tup [.str s.name, .int s.b, .int s.e, .int s.w]
structure NameOk (x : Str) : Prop where
  l1 : 1 ≤ x.length
  l8 : x.length ≤ 8
  az : ∀ c ∈ x.cps.toList, 97 ≤ c ∧ c ≤ 122
structure SOk (s : Stretch) : Prop where
  nm : NameOk s.name
  lo : -1000000000000 ≤ s.b
  lt : s.b < s.e
  hi : s.e ≤ 1000000000000
  w0 : 0 ≤ s.w
  w1 : s.w ≤ 1000000000000
structure BOk (bk : List Stretch) : Prop where
  len : bk.length ≤ 24
  all : ∀ s ∈ bk, SOk s
  nd : (bk.map Stretch.name).Nodup
theorem Stretch.plain (s : Stretch) : plainD s.d = true := by simp [Stretch.d, plainD, plainDs]
theorem plain_book (bk : List Stretch) : plainDs (bk.map Stretch.d) = true := plainDs_map Stretch.plain bk
def r__law_name_L1 : ES :=
  (sAsg (eOp oAdd (eVar 3) (eOp oIx (eVar 2) (eCall F__law_take (eCons (eVar 0) (eCons (eC (.int 26)) eNil))))) (.nm 3))
def r__law_name : ES :=
  (sSeq (sAsg (eC (.str "abcdefghijklmnopqrstuvwxyz")) (.nm 2))
  (sSeq (sAsg (eC (.str "")) (.nm 3))
  (sSeq (sFor (iR1 (eCons (eCall F__law_take (eCons (eVar 0) (eCons (eC (.int 8)) eNil))) eNil)) (.nm 4) r__law_name_L1)
  (sRet (eOp oAdd (eVar 3) (eOp oIx (eVar 2) (eVar 1)))))))
def Lt : Str := "abcdefghijklmnopqrstuvwxyz"
theorem lt_cps : Lt.cps.toList = (List.range 26).map (97 + ·) := by decide +kernel
theorem lt_len : Lt.length = 26 := by decide +kernel
theorem lt_at {i : Int} (h0 : 0 ≤ i) (h1 : i < 26) : atI Lt.cps.toList i = some (97 + i.toNat) := by
  rw [lt_cps]
  have := atI_nat (xs := (List.range 26).map (97 + ·)) (j := i.toNat) (v := 97 + i.toNat) (by rw [List.getElem?_map, List.getElem?_range (by omega)]; rfl)
  rwa [Int.toNat_of_nonneg h0] at this
theorem str_app_len (x y : Str) : (x ++ y).length = x.length + y.length := by
  show (x.cps ++ y.cps).size = x.cps.size + y.cps.size
  simp
theorem str_app_cps (x y : Str) : (x ++ y).cps.toList = x.cps.toList ++ y.cps.toList := by
  show (x.cps ++ y.cps).toList = _
  simp
theorem str_one_len (c : Nat) : (⟨#[c]⟩ : Str).length = 1 := rfl
def F__law_name : Sf := fun ds G Q => ∃ a k x y z, ds = [.ref a, .int k] ∧ G a = some (stO x y z) ∧ Ok3 x y z ∧ 0 ≤ k ∧ k < 26 ∧
  ∀ nm x' y' z', Ok3 x' y' z' → NameOk nm → nm.cps.toList.getLast? = some (97 + k.toNat) → Q (.str nm) (gput G a (stO x' y' z'))
theorem name_loop {G : Gp} {a : Addr} {N : En} {k : Int} : ∀ (n : Nat) (lo : Int) (sp : Str) (o4 : Option D) (x y z : Int), Ok3 x y z → sp.length + n ≤ 7 → (∀ c ∈ sp.cps.toList, 97 ≤ c ∧ c ≤ 122) →
    (∀ (sp : Str) o4 x y z, Ok3 x y z → sp.length ≤ 7 → (∀ c ∈ sp.cps.toList, 97 ≤ c ∧ c ≤ 122) → N.nx [some (.ref a), some (.int k), some (.str Lt), some (.str sp), o4] (gput G a (stO x y z))) →
    forW (.nm 4) r__law_name_L1 (fun _ => True) N (rngD lo n) [some (.ref a), some (.int k), some (.str Lt), some (.str sp), o4] (gput G a (stO x y z)) := by
  intro n
  induction n with
  | zero => intro lo sp o4 x y z ok h0 h1 kk; simp only [rngD_zero, forW, true_and]; exact kk _ _ _ _ _ ok (by omega) h1
  | succ n ih =>
    intro lo sp o4 x y z ok h0 h1 kk
    rw [rngD_succ]
    simp [forW, sSeq, r__law_name_L1]
    refine take_ok gput_same ok (wd_of (by decide) (by decide)) fun r x' y' z' ok' hr0 hr1 => ?_
    simp [gput_gput, lt_at hr0 hr1]
    refine ⟨by rw [lt_len]; decide, by rw [str_one_len]; exact Nat.le_trans (by omega) line_ge, ?_⟩
    refine ih _ _ _ _ _ _ ok' (by rw [str_app_len, str_one_len]; omega) ?_ kk
    intro c hc
    rw [str_app_cps] at hc
    rcases List.mem_append.mp hc with q | q
    · exact h1 c q
    · simp at q; omega
theorem d__law_name (ds : List D) (G : Gp) (Q : DK) (h : F__law_name ds G Q) : r__law_name (fin G Q) (startD 5 ds) G := by
  obtain ⟨a, k, x, y, z, rfl, hG, ok, h0, h1, kk⟩ := h
  simp [sSeq, r__law_name, startD]
  refine take_ok hG ok (wd_of (by decide) (by decide)) fun r x' y' z' ok' hr0 hr1 => ?_
  simp
  refine ⟨by omega, by omega, ?_⟩
  refine name_loop (G := G) (k := k) r.toNat 0 "" none x' y' z' ok' (by show 0 + r.toNat ≤ 7; omega) (fun c hc => by rw [show (Str.ofString "").cps.toList = [] by decide +kernel] at hc; cases hc) ?_
  intro sp o4 x y z ok hl hc
  simp [lt_at h0 h1]
  refine ⟨by rw [lt_len]; decide, by rw [str_one_len]; exact Nat.le_trans (by omega) line_ge, fin_id (kk _ _ _ _ ok ⟨?_, ?_, ?_⟩ ?_)⟩
  · rw [str_app_len, str_one_len]; omega
  · rw [str_app_len, str_one_len]; omega
  · intro c q
    rw [str_app_cps] at q
    rcases List.mem_append.mp q with q | q
    · exact hc c q
    · simp at q; omega
  · rw [str_app_cps]; simp
end DL
set_option Elab.async false
set_option linter.all false
set_option maxRecDepth 100000
set_option maxHeartbeats 4000000
namespace DL
open PySem PySem.Spec PyProof.Rows L2
def r__law_book_L1 : ES :=
  (sSeq (sAsg (eCall F__law_take (eCons (eVar 0) (eCons (eVar 2) eNil))) (.nm 7))
  (sSeq (sAsg (eOp oAdd (eOp oAdd (eVar 7) (eC (.int 1))) (eCall F__law_take (eCons (eVar 0) (eCons (eVar 2) eNil)))) (.nm 8))
  (sSeq (sAsg (eCall F__law_take (eCons (eVar 0) (eCons (eOp oIx (eLst (eCons (eC (.int 4)) (eCons (eC (.int 12)) (eCons (eC (.int 100)) (eCons (eOp oAdd (eOp oPow (eC (.int 10)) (eC (.int 12))) (eC (.int 1))) eNil))))) (eCall F__law_take (eCons (eVar 0) (eCons (eC (.int 4)) eNil)))) eNil))) (.nm 9))
  (sSeq (sAsg (eTup (eCons (eOp oAdd (eVar 4) (eOp oMul (eVar 3) (eVar 7))) (eCons (eOp oAdd (eVar 4) (eOp oMul (eVar 3) (eVar 8))) eNil))) (.nm 10))
  (sSeq (sIf (eAnd (eT (eOp oGt (eVar 6) (eC (.int 0)))) (eT (eOp oEq (eCall F__law_take (eCons (eVar 0) (eCons (eC (.int 6)) eNil))) (eC (.int 0))))) (sAsg (eSlT (eOp oIx (eVar 5) (eUn oNeg (eC (.int 1)))) (ePart (eC (.int 1))) (ePart (eC (.int 3)))) (.nm 10)) sNext)
  (sDrop (eBm mApp (eVar 5) (eCons (eTup (eCons (eCall F__law_name (eCons (eVar 0) (eCons (eVar 6) eNil))) (eCons (eOp oIx (eVar 10) (eC (.int 0))) (eCons (eOp oIx (eVar 10) (eC (.int 1))) (eCons (eVar 9) eNil))))) eNil))))))))
def r__law_book : ES :=
  (sSeq (sAsg (eOp oIx (eLst (eCons (eC (.int 3)) (eCons (eC (.int 6)) (eCons (eC (.int 9)) (eCons (eC (.int 14)) eNil))))) (eCall F__law_take (eCons (eVar 0) (eCons (eC (.int 4)) eNil)))) (.nm 2))
  (sSeq (sAsg (eOp oAdd (eC (.int 1)) (eCall F__law_take (eCons (eVar 0) (eCons (eOp oIx (eLst (eCons (eC (.int 1)) (eCons (eC (.int 1)) (eCons (eC (.int 7)) (eCons (eOp oPow (eC (.int 10)) (eC (.int 10))) eNil))))) (eCall F__law_take (eCons (eVar 0) (eCons (eC (.int 4)) eNil)))) eNil)))) (.nm 3))
  (sSeq (sAsg (eOp oIx (eLst (eCons (eC (.int 0)) (eCons (eUn oNeg (eC (.int 3))) (eCons (eUn oNeg (eOp oPow (eC (.int 10)) (eC (.int 12)))) (eCons (eOp oSub (eOp oPow (eC (.int 10)) (eC (.int 12))) (eOp oMul (eC (.int 28)) (eVar 3))) eNil))))) (eCall F__law_take (eCons (eVar 0) (eCons (eC (.int 4)) eNil)))) (.nm 4))
  (sSeq (sAsg (eLstO eNil) (.nm 5))
  (sSeq (sFor (iR1 (eCons (eCall F__law_take (eCons (eVar 0) (eCons (eOp oAdd (eVar 1) (eC (.int 1))) eNil))) eNil)) (.nm 6) r__law_book_L1)
  (sRet (eVar 5)))))))
/-- the drawn names end in unlike letters -/
def LastAt (bk : List Stretch) : Prop := ∀ (j : Nat) (s : Stretch), bk[j]? = some s → s.name.cps.toList.getLast? = some (97 + j)
theorem last_nodup {bk : List Stretch} (h : LastAt bk) : (bk.map Stretch.name).Nodup := by
  rw [List.nodup_iff_pairwise_ne, List.pairwise_map, List.pairwise_iff_getElem]
  intro i j hi hj hij e
  have h1 := h i _ (List.getElem?_eq_getElem hi)
  have h2 := h j _ (List.getElem?_eq_getElem hj)
  rw [e, h2] at h1
  have := Option.some.inj h1
  omega
def F__law_book : Sf := fun ds G Q => ∃ a most x y z, ds = [.ref a, .int most] ∧ G a = some (stO x y z) ∧ Ok3 x y z ∧ 0 ≤ most ∧ most ≤ 24 ∧
  ∀ (bk : List Stretch) x' y' z', Ok3 x' y' z' → BOk bk → (bk.length : Int) ≤ most → Q (.lst (bk.map Stretch.d)) (gput G a (stO x' y' z'))
theorem span_ok {u b e low : Int} (hu : 1 ≤ u) (hu2 : u ≤ 10000000000) (hb : 0 ≤ b) (he : b + 1 ≤ e) (he2 : e ≤ 27) (hl : -1000000000000 ≤ low) (hl2 : low + 28 * u ≤ 1000000000000 ∨ low ≤ 0) :
    -1000000000000 ≤ low + u * b ∧ low + u * b < low + u * e ∧ low + u * e ≤ 1000000000000 := by
  have h1 : 0 ≤ u * b := Int.mul_nonneg (by omega) hb
  have h2 : u * (b + 1) ≤ u * e := Int.mul_le_mul_of_nonneg_left he (by omega)
  have h3 : u * e ≤ u * 27 := Int.mul_le_mul_of_nonneg_left he2 (by omega)
  rw [Int.mul_add, Int.mul_one] at h2
  omega
theorem book_loop {G : Gp} {a p : Addr} {N : En} {most size u low : Int} (hp : p ≠ a) (hz : 3 ≤ size) (hz2 : size ≤ 14) (hu : 1 ≤ u) (hu2 : u ≤ 10000000000) (hl : -1000000000000 ≤ low) (hl2 : low + 28 * u ≤ 1000000000000 ∨ low ≤ 0) (hm : most ≤ 24) :
    ∀ (n : Nat) (bk : List Stretch) (o6 o7 o8 o9 o10 : Option D) (x y z : Int), Ok3 x y z → (∀ s ∈ bk, SOk s) → LastAt bk → (bk.length : Int) + n ≤ most →
    (∀ (bk : List Stretch) (o6 o7 o8 o9 o10 : Option D) (x y z : Int), Ok3 x y z → (∀ s ∈ bk, SOk s) → LastAt bk → (bk.length : Int) ≤ most → N.nx [some (.ref a), some (.int most), some (.int size), some (.int u), some (.int low), some (.ref p), o6, o7, o8, o9, o10] (gput (gput G a (stO x y z)) p (.lst (bk.map Stretch.d)))) →
    forW (.nm 6) r__law_book_L1 (fun _ => True) N (rngD bk.length n) [some (.ref a), some (.int most), some (.int size), some (.int u), some (.int low), some (.ref p), o6, o7, o8, o9, o10] (gput (gput G a (stO x y z)) p (.lst (bk.map Stretch.d))) := by
  intro n
  have ha : ∀ (l : List Stretch) (x y z : Int), gput (gput G a (stO x y z)) p (.lst (l.map Stretch.d)) a = some (stO x y z) := fun l x y z => by rw [gput_ne hp.symm, gput_same]
  induction n with
  | zero => intro bk o6 o7 o8 o9 o10 x y z ok h1 h2 h3 k; simp only [rngD_zero, forW, true_and]; exact k _ _ _ _ _ _ _ _ _ ok h1 h2 (by omega)
  | succ n ih =>
    intro bk o6 o7 o8 o9 o10 x y z ok h1 h2 h3 k
    rw [rngD_succ]
    simp [forW, sSeq, r__law_book_L1]
    refine take_ok (ha _ _ _ _) ok (wd_of (by omega) (by omega)) fun b x y z ok hb0 hb1 => ?_
    simp only [gput_swap hp]
    refine take_ok (ha _ _ _ _) ok (wd_of (by omega) (by omega)) fun e x y z ok he0 he1 => ?_
    simp only [gput_swap hp]
    refine ⟨⟨by decide, by decide, by decide⟩, by decide, ?_⟩
    refine take_ok (ha _ _ _ _) ok (wd_of (by decide) (by decide)) fun i x y z ok hi0 hi1 => ?_
    obtain ⟨d, ed, md⟩ := at_mem (ds := [D.int 4, D.int 12, D.int 100, D.int (1000000000000 + 1)]) hi0 (by simpa using hi1)
    obtain ⟨mw, rfl, hmw, hmw2⟩ : ∃ mw, d = .int mw ∧ 0 < mw ∧ mw ≤ 1000000000001 := by
      simp at md
      rcases md with rfl | rfl | rfl | rfl <;> exact ⟨_, rfl, by decide, by decide⟩
    simp only [gput_swap hp]
    have ed' : atI [D.int 4, D.int 12, D.int 100, D.int 1000000000001] i = some (.int mw) := ed
    simp [ed']
    refine take_ok (ha _ _ _ _) ok (wd_of (by omega) (by omega)) fun w x y z ok hw0 hw1 => ?_
    simp only [gput_swap hp]
    have sp := span_ok (b := b) (e := b + 1 + e) hu hu2 hb0 (by omega) (by omega) hl hl2
    refine ⟨cmul_l (by omega) (by omega), cmul_l (by omega) (by omega), Nat.le_trans (by decide) line_ge, ?_⟩
    -- the end of the turn, for any span that is one
    have tail : ∀ (B E x y z : Int) (nm : Str), Ok3 x y z → -1000000000000 ≤ B → B < E → E ≤ 1000000000000 → NameOk nm → nm.cps.toList.getLast? = some (97 + bk.length) →
        forW (.nm 6) r__law_book_L1 (fun _ => True) N (rngD (bk.length + 1) n) [some (.ref a), some (.int most), some (.int size), some (.int u), some (.int low), some (.ref p), some (.int bk.length), some (.int b), some (.int (b + 1 + e)), some (.int w), some (.tup [.int B, .int E])] (gput (gput G a (stO x y z)) p (.lst (bk.map Stretch.d ++ [.tup [.str nm, .int B, .int E, .int w]]))) := by
      intro B E x y z nm ok q1 q2 q3 hn hlast
      have e1 : bk.map Stretch.d ++ [D.tup [.str nm, .int B, .int E, .int w]] = (bk ++ [(⟨nm, B, E, w⟩ : Stretch)]).map Stretch.d := by simp [Stretch.d]
      rw [e1]
      have e2 : (bk.length : Int) + 1 = ((bk ++ [(⟨nm, B, E, w⟩ : Stretch)]).length : Nat) := by simp
      rw [e2]
      refine ih _ _ _ _ _ _ _ _ _ ok ?_ ?_ (by rw [← e2]; omega) k
      · intro s hs
        rcases List.mem_append.mp hs with q | q
        · exact h1 s q
        · simp at q; subst q; exact ⟨hn, q1, q2, q3, hw0, by show w ≤ _; omega⟩
      · intro j s hj
        by_cases hlt : j < bk.length
        · rw [List.getElem?_append_left hlt] at hj; exact h2 j s hj
        · rw [List.getElem?_append_right (by omega)] at hj
          have hj0 : j - bk.length = 0 := by
            rcases Nat.eq_zero_or_pos (j - bk.length) with q | q
            · exact q
            · rw [List.getElem?_eq_none (by simp; omega)] at hj; cases hj
          rw [hj0] at hj
          cases hj
          have : j = bk.length := by omega
          subst this
          exact hlast
    have room : (bk.map Stretch.d).length < sizeLine := Nat.lt_of_le_of_lt (by rw [List.length_map]; omega : (bk.map Stretch.d).length ≤ 24) (by decide)
    have rm4 : 4 ≤ sizeLine := by decide
    by_cases hk : 0 < bk.length
    · simp [hk]
      refine take_ok (ha _ _ _ _) ok (wd_of (by decide) (by decide)) fun c x y z ok hc0 hc1 => ?_
      simp only [gput_swap hp]
      refine ⟨rfl, rfl, ?_⟩
      have hpos : 0 < bk.length := by omega
      have hl : atI (bk.map Stretch.d) (-1) = some (bk[bk.length - 1]'(by omega)).d := by
        have ec : bk = bk.dropLast ++ [bk[bk.length - 1]'(by omega)] := by
          rw [← List.getLast_eq_getElem (List.ne_nil_of_length_pos hpos), List.dropLast_concat_getLast]
        have : bk.map Stretch.d = bk.dropLast.map Stretch.d ++ [(bk[bk.length - 1]'(by omega)).d] := by
          conv => lhs; rw [ec]
          simp
        rw [this]
        exact atI_last _ _
      have sk := h1 _ (List.getElem_mem (show bk.length - 1 < bk.length by omega))
      generalize bk[bk.length - 1]'(by omega) = s at hl sk
      cases hc : (PyData.int c).eqv (PyData.int 0) with
      | true =>
        simp [hl, gput_same, Stretch.d, cutD, HT.sIx]
        refine ⟨a, _, x, y, z, rfl, ha _ _ _ _, ok, by omega, by omega, fun nm x y z ok hn hlast => ?_⟩
        simp [gput_swap hp, gput_same, gput_gput, atI, ixN]
        exact ⟨rm4, by simpa using room, tail s.b s.e x y z nm ok sk.lo sk.lt sk.hi hn (by simpa using hlast)⟩
      | false =>
        simp [gput_same]
        refine ⟨a, _, x, y, z, rfl, ha _ _ _ _, ok, by omega, by omega, fun nm x y z ok hn hlast => ?_⟩
        simp [gput_swap hp, gput_same, gput_gput, atI, ixN]
        exact ⟨rm4, by simpa using room, tail _ _ x y z nm ok sp.1 sp.2.1 sp.2.2 hn (by simpa using hlast)⟩
    · simp [hk, gput_same]
      refine ⟨a, _, x, y, z, rfl, ha _ _ _ _, ok, by omega, by omega, fun nm x y z ok hn hlast => ?_⟩
      simp [gput_swap hp, gput_same, gput_gput, atI, ixN]
      exact ⟨rm4, by simpa using room, tail _ _ x y z nm ok sp.1 sp.2.1 sp.2.2 hn (by simpa using hlast)⟩
theorem d__law_book (ds : List D) (G : Gp) (Q : DK) (h : F__law_book ds G Q) : r__law_book (fin G Q) (startD 11 ds) G := by
  obtain ⟨a, most, x, y, z, rfl, hG, ok, h0, h1, kk⟩ := h
  simp [sSeq, r__law_book, startD]
  refine ⟨Nat.le_trans (by decide) line_ge, take_ok hG ok (wd_of (by decide) (by decide)) fun i x y z ok hi0 hi1 => ?_⟩
  obtain ⟨d, ed, md⟩ := at_mem (ds := [D.int 3, D.int 6, D.int 9, D.int 14]) hi0 (by simpa using hi1)
  obtain ⟨size, rfl, hz, hz2⟩ : ∃ m, d = .int m ∧ 3 ≤ m ∧ m ≤ 14 := by
    simp at md
    rcases md with rfl | rfl | rfl | rfl <;> exact ⟨_, rfl, by decide, by decide⟩
  simp [ed]
  refine ⟨⟨by decide, by decide, by decide⟩, Nat.le_trans (by decide) line_ge, take_ok gput_same ok (wd_of (by decide) (by decide)) fun i x y z ok hi0 hi1 => ?_⟩
  obtain ⟨d, ed, md⟩ := at_mem (ds := [D.int 1, D.int 1, D.int 7, D.int 10000000000]) hi0 (by simpa using hi1)
  obtain ⟨mu, rfl, hmu, hmu2⟩ : ∃ m, d = .int m ∧ 1 ≤ m ∧ m ≤ 10000000000 := by
    simp at md
    rcases md with rfl | rfl | rfl <;> exact ⟨_, rfl, by decide, by decide⟩
  simp [ed, gput_gput]
  refine take_ok gput_same ok (wd_of (by omega) (by omega)) fun u0 x y z ok hu0 hu1 => ?_
  simp only [gput_gput]
  refine ⟨⟨by decide, by decide, by decide⟩, cmul_l (by decide) (by decide), Nat.le_trans (by decide) line_ge, take_ok gput_same ok (wd_of (by decide) (by decide)) fun i x y z ok hi0 hi1 => ?_⟩
  obtain ⟨d, ed, md⟩ := at_mem (ds := [D.int 0, D.int (-3), D.int (-1000000000000), D.int (1000000000000 - 28 * (1 + u0))]) hi0 (by simpa using hi1)
  obtain ⟨low, rfl, hl, hl2⟩ : ∃ m, d = .int m ∧ -1000000000000 ≤ m ∧ (m + 28 * (1 + u0) ≤ 1000000000000 ∨ m ≤ 0) := by
    simp at md
    rcases md with rfl | rfl | rfl | rfl
    · exact ⟨_, rfl, by decide, .inr (by decide)⟩
    · exact ⟨_, rfl, by decide, .inr (by decide)⟩
    · exact ⟨_, rfl, by decide, .inr (by decide)⟩
    · exact ⟨_, rfl, by omega, .inl (by omega)⟩
  simp [ed, gput_gput]
  intro p hp
  have hpa : p ≠ a := fun e => by subst e; rw [gput_same] at hp; cases hp
  have hGp : G p = none := by rw [gput_ne hpa] at hp; exact hp
  refine take_ok (by rw [gput_ne hpa.symm, gput_same]) ok (wd_of (by omega) (by omega)) fun n x y z ok hn0 hn1 => ?_
  simp only [gput_swap hpa]
  refine ⟨by omega, by omega, ?_⟩
  refine book_loop (G := G) (most := most) hpa hz hz2 (show 1 ≤ 1 + u0 by omega) (by omega) hl hl2 h1 n.toNat [] none none none none none x y z ok (by simp) (fun j s e => by simp at e) (by simp; omega) ?_
  intro bk o6 o7 o8 o9 o10 x y z ok hs hla hlen
  simp
  refine fin_lstS (G2 := gput G a (stO x y z)) (ds := bk.map Stretch.d) ?_ ?_ ?_ gput_same (by rw [gput_ne hpa]; exact hGp) (refIns_plain (plain_book bk)) (kk bk x y z ok ⟨by omega, hs, last_nodup hla⟩ hlen)
  · intro b o e
    by_cases hb : b = p
    · subst hb; rw [gput_ne hpa, hGp] at e; cases e
    · rw [gput_ne hb]; exact e
  · intro b o e
    by_cases hb : b = a
    · subst hb; exact ⟨_, gput_same⟩
    · exact ⟨o, by rw [gput_ne hb]; exact e⟩
  · intro b o e
    by_cases hb : b = a
    · subst hb; rw [gput_same] at e; cases e; exact .inl (by simp [RefO, stO, RefIns, RefIn])
    · rw [gput_ne hb] at e; exact .inr e
def nD (l : List Nat) : List D := l.map fun (i : Nat) => D.int (i : Int)
end DL
set_option Elab.async false
set_option linter.all false
set_option maxRecDepth 100000
set_option maxHeartbeats 4000000
namespace DL
open PySem PySem.Spec PyProof.Rows L2
end DL
set_option Elab.async false
set_option linter.all false
set_option maxRecDepth 100000
set_option maxHeartbeats 4000000
namespace DL
open PySem PySem.Spec PyProof.Rows L2
end DL
set_option Elab.async false
set_option linter.all false
set_option maxRecDepth 100000
set_option maxHeartbeats 4000000
namespace DL
open PySem PySem.Spec PyProof.Rows L2
instance : Inhabited Stretch := ⟨⟨⟨#[]⟩, 0, 0, 0⟩⟩
def st (bk : List Stretch) (i : Nat) : Stretch := bk.getD i default
theorem toPys_map {α : Type} {f : α → D} {g : α → PyData} {G : Gp} (h : ∀ x, toPy G (f x) = some (g x)) : ∀ xs : List α, toPys G (xs.map f) = some (xs.map g)
  | [] => by simp only [List.map_nil, toPys]
  | x :: xs => by simp only [List.map_cons, toPys, h x, toPys_map h xs]
theorem depthAll_le {n : Nat} : ∀ {xs : List PyData}, (∀ x ∈ xs, x.depth ≤ n) → PyData.depthAll xs ≤ n
  | [], _ => by simp [PyData.depthAll]
  | x :: xs, h => by
    simp only [PyData.depthAll]
    exact Nat.max_le.mpr ⟨h x List.mem_cons_self, depthAll_le fun y hy => h y (List.mem_cons_of_mem _ hy)⟩
theorem canLayAll_of : ∀ {xs : List PyData}, (∀ x ∈ xs, x.canLay0 = true) → PyData.canLayAll0 xs = true
  | [], _ => by simp [PyData.canLayAll0]
  | x :: xs, h => by
    simp only [PyData.canLayAll0, Bool.and_eq_true]
    exact ⟨h x List.mem_cons_self, canLayAll_of fun y hy => h y (List.mem_cons_of_mem _ hy)⟩
/-- shaped, and no deeper than n -/
structure Shp (n : Nat) (d : PyData) : Prop where
  c : d.canLay0 = true
  d : d.depth ≤ n
theorem Shp.shaped {n : Nat} {d : PyData} (h : Shp n d) (hn : n ≤ 64) : SeqAt.shaped d = true := by
  unfold SeqAt.shaped
  rw [h.c, decide_eq_true (Nat.le_trans h.d hn)]
  rfl
theorem shp_list {n : Nat} {xs : List PyData} (h : ∀ x ∈ xs, Shp n x) : Shp (n + 1) (.list xs) :=
  ⟨by simp only [PyData.canLay0]; exact canLayAll_of fun x hx => (h x hx).c, by simp only [PyData.depth]; exact Nat.succ_le_succ (depthAll_le fun x hx => (h x hx).d)⟩
theorem shp_tuple {n : Nat} {xs : List PyData} (h : ∀ x ∈ xs, Shp n x) : Shp (n + 1) (.tuple xs) :=
  ⟨by simp only [PyData.canLay0]; exact canLayAll_of fun x hx => (h x hx).c, by simp only [PyData.depth]; exact Nat.succ_le_succ (depthAll_le fun x hx => (h x hx).d)⟩
theorem shp_int (i : Int) {n : Nat} : Shp n (.int i) := ⟨by simp only [PyData.canLay0], by simp [PyData.depth]⟩
theorem shp_str {x : Str} {n : Nat} (h : ∀ c ∈ x.cps.toList, c < 1114112) : Shp n (.str x) := ⟨by
  simp only [PyData.canLay0, PyData.strOk]
  rw [Array.all_eq_true']
  intro c hc
  exact decide_eq_true (h c (Array.mem_toList_iff.mpr hc)), by simp [PyData.depth]⟩
theorem eqv_self {n : Nat} {d : PyData} (h : Shp n d) : PyData.eqv d d = true := SeqAt.eqv_refl d h.c
end DL
set_option Elab.async false
set_option linter.all false
set_option maxRecDepth 100000
set_option maxHeartbeats 4000000
namespace DL
open PySem PySem.Spec PyProof.Rows L2
/-- a loop whose turns keep I -/
theorem forW_all {t : Tg} {tb : ES} {Kp : Gp → Prop} {N : En} (I : Sd → Gp → Prop) (hK : ∀ s G, I s G → Kp G) : ∀ (ds : List D) (s : Sd) (G : Gp),
    (∀ d ∈ ds, ∀ s G (W : Sd → Gp → Prop), I s G → (∀ s' G', I s' G' → W s' G') → match asg t d s with
      | some s' => tb { N with nx := W, ct := W, bk := N.nx } s' G
      | none => False) → I s G → (∀ s G, I s G → N.nx s G) → forW t tb Kp N ds s G
  | [], s, G, _, hI, k => by simp only [forW]; exact ⟨hK s G hI, k s G hI⟩
  | d :: ds, s, G, h, hI, k => by
    simp only [forW]
    exact ⟨hK s G hI, h d List.mem_cons_self s G _ hI fun s' G' hI' => forW_all I hK ds s' G' (fun d hd => h d (List.mem_cons_of_mem _ hd)) hI' k⟩
theorem rngD_mem {lo : Int} {n : Nat} {d : D} (h : d ∈ rngD lo n) : ∃ i : Int, d = .int i ∧ lo ≤ i ∧ i < lo + n := by
  unfold rngD at h
  obtain ⟨j, hj, rfl⟩ := List.mem_map.mp h
  rw [List.mem_range] at hj
  exact ⟨_, rfl, by omega, by omega⟩
/-- the law's outer loop -/
theorem law_loop {t : Tg} {tb : ES} {N : En} {n m : Nat} (I : Sd → Gp → Prop) {s : Sd} {G : Gp} (h : ∀ k : Int, 0 ≤ k → k < 63 → ∀ s G (W : Sd → Gp → Prop), I s G → (∀ s' G', I s' G' → W s' G') → match asg t (.int k) s with
      | some s' => tb { N with nx := W, ct := W, bk := N.nx } s' G
      | none => False) (hn : n ≤ 63) (hI : I s G) (k : ∀ s G, I s G → N.nx s G) : forW t tb (fun _ => True) N (rngD 0 n) s G := by
  refine forW_all I (fun _ _ _ => trivial) _ s G (fun d hd => ?_) hI k
  obtain ⟨i, rfl, h0, h1⟩ := rngD_mem hd
  exact h i h0 (by omega)
end DL
set_option Elab.async false
set_option linter.all false
set_option maxRecDepth 100000
set_option maxHeartbeats 4000000
namespace L2
open PySem PySem.Spec PyProof.Rows
end L2
set_option Elab.async false
set_option linter.all false
set_option maxRecDepth 100000
set_option maxHeartbeats 4000000
namespace L2
open PySem PySem.Spec PyProof.Rows
end L2
namespace DL
open PySem PySem.Spec PyProof.Rows L2
/-- sorted(set(xs)): the ints of xs, rising, each once -/
@[simp] def eSortedSet (ea : EA) : EE := fun s G Q => ea s G fun xs G1 => match xs with
  | [x] => (match (lkL G1 x).bind intsD with
    | some ns => ns.length < 64 ∧ ∀ ms : List Int, ms.Pairwise (· < ·) → (∀ k : Int, k ∈ ms ↔ k ∈ ns) → Q (.lst (ms.map D.int)) G1
    | none => False)
  | _ => False
section
variable {X : Cx}
/-- sorted(xs) of ints -/
@[simp] def cSortedI : CD := fun xs G Q => match xs with
  | [x] => (match (lkL G x).bind intsD with
    | some ns => ∀ ms : List Int, ms.Perm ns → ms.Pairwise (· ≤ ·) → Q (.lst (ms.map D.int)) G
    | none => False)
  | _ => False
end
end DL
set_option Elab.async false
set_option linter.all false
set_option maxRecDepth 100000
set_option maxHeartbeats 4000000
namespace DL
open PySem PySem.Spec PyProof.Rows L2
def ins (k : Int) : List Int → List Int
  | [] => [k]
  | x :: xs => if k < x then k :: x :: xs else if k = x then x :: xs else x :: ins k xs
end DL
set_option Elab.async false
set_option linter.all false
set_option maxRecDepth 100000
set_option maxHeartbeats 4000000
namespace DL
open PySem PySem.Spec PyProof.Rows L2
/-- x is True, x is False -/
@[simp] def oIsB : OD := fun x y G Q => match x, y with
  | .bl a, .bl b => Q (.bl (decide (a = b))) G
  | _, _ => False
@[simp] def oNotB : OD := fun x y G Q => match x, y with
  | .bl a, .bl b => Q (.bl (!decide (a = b))) G
  | _, _ => False
end DL
set_option Elab.async false
set_option linter.all false
set_option maxRecDepth 100000
set_option maxHeartbeats 4000000
namespace DL
open PySem PySem.Spec PyProof.Rows L2
@[simp ↓ high] theorem ix_0 {s : Stretch} {G : Gp} {Q : DK} : oIx s.d (.int 0) G Q = Q (.str s.name) G := by simp [Stretch.d, atI, ixN]
@[simp ↓ high] theorem ix_1 {s : Stretch} {G : Gp} {Q : DK} : oIx s.d (.int 1) G Q = Q (.int s.b) G := by simp [Stretch.d, atI, ixN]
@[simp ↓ high] theorem ix_2 {s : Stretch} {G : Gp} {Q : DK} : oIx s.d (.int 2) G Q = Q (.int s.e) G := by simp [Stretch.d, atI, ixN]
@[simp ↓ high] theorem ix_3 {s : Stretch} {G : Gp} {Q : DK} : oIx s.d (.int 3) G Q = Q (.int s.w) G := by simp [Stretch.d, atI, ixN]
@[simp] theorem sh_int (i : Int) : SeqAt.shaped (.int i) = true := rfl
@[simp] theorem sh_bool (i : Bool) : SeqAt.shaped (.bool i) = true := rfl
@[simp] theorem sh_none : SeqAt.shaped .none = true := rfl
@[simp] theorem eqv_ii (a b : Int) : PyData.eqv (.int a) (.int b) = decide (a = b) := by simp only [PyData.eqv]; rfl
@[simp] theorem eqv_bb (a b : Bool) : PyData.eqv (.bool a) (.bool b) = (a == b) := by cases a <;> cases b <;> decide
@[simp] theorem kit_bool_bool : kitB "bool" "bool" = some true := by decide +kernel
@[simp] theorem kit_int_int1 : kitB "int" "int" = some true := by decide +kernel
@[simp] theorem kit_int_bool1 : kitB "int" "bool" = some false := by decide +kernel
@[simp] theorem kit_tuple_tuple : kitB "tuple" "tuple" = some true := by decide +kernel
@[simp] theorem kit_list_list : kitB "list" "list" = some true := by decide +kernel
end DL
set_option Elab.async false
set_option linter.all false
set_option maxRecDepth 100000
set_option maxHeartbeats 4000000
namespace DL
open PySem PySem.Spec PyProof.Rows L2
/-- a loop, the rest of what is walked known -/
theorem forW_ind {α : Type} {g : α → D} {t : Tg} {tb : ES} {Kp : Gp → Prop} {N : En} (I : List α → Sd → Gp → Prop) (hK : ∀ xs s G, I xs s G → Kp G)
    (h : ∀ x xs s G (W : Sd → Gp → Prop), I (x :: xs) s G → (∀ s' G', I xs s' G' → W s' G') → match asg t (g x) s with
      | some s' => tb { N with nx := W, ct := W, bk := N.nx } s' G
      | none => False) (k : ∀ s G, I [] s G → N.nx s G) : ∀ (xs : List α) (s : Sd) (G : Gp), I xs s G → forW t tb Kp N (xs.map g) s G
  | [], s, G, hI => ⟨hK _ s G hI, k s G hI⟩
  | x :: xs, s, G, hI => ⟨hK _ s G hI, h x xs s G _ hI fun s' G' hI' => forW_ind I hK h k xs s' G' hI'⟩
end DL
set_option Elab.async false
set_option linter.all false
set_option maxRecDepth 100000
set_option maxHeartbeats 4000000
namespace DL
open PySem PySem.Spec PyProof.Rows L2
end DL
set_option Elab.async false
set_option linter.all false
set_option maxRecDepth 100000
set_option maxHeartbeats 4000000
namespace DL
open PySem PySem.Spec PyProof.Rows L2
end DL
set_option Elab.async false
set_option linter.all false
set_option maxRecDepth 100000
set_option maxHeartbeats 4000000
namespace DL
open PySem PySem.Spec PyProof.Rows L2
end DL
set_option Elab.async false
set_option linter.all false
set_option maxRecDepth 100000
set_option maxHeartbeats 4000000
namespace DL
open PySem PySem.Spec PyProof.Rows L2
end DL
set_option Elab.async false
set_option linter.all false
set_option maxRecDepth 100000
set_option maxHeartbeats 4000000
namespace DL
open PySem PySem.Spec PyProof.Rows L2
end DL
set_option Elab.async false
set_option linter.all false
set_option maxRecDepth 100000
set_option maxHeartbeats 4000000
namespace DL
open PySem PySem.Spec PyProof.Rows L2
/-- sorted(set(xs)), owned -/
@[simp] def eSortedSetO (ea : EA) : EE := fun s G Q => ea s G fun xs G1 => match xs with
  | [x] => (match (lkL G1 x).bind intsD with
    | some ns => ns.length < 64 ∧ ∀ ms : List Int, ms.Pairwise (· < ·) → (∀ k : Int, k ∈ ms ↔ k ∈ ns) → ∀ p, G1 p = none → Q (.ref p) (gput G1 p (.lst (ms.map D.int)))
    | none => False)
  | _ => False
end DL
set_option Elab.async false
set_option linter.all false
set_option maxRecDepth 100000
set_option maxHeartbeats 4000000
namespace DL
open PySem PySem.Spec PyProof.Rows L2
/-- xs[::-1]: a new list, frozen -/
@[simp] def eRevL (te : EE) : EE := fun s G Q => te s G fun x G1 => match lkL G1 x with
  | some ds => Q (.lst ds.reverse) G1
  | none => False
section
variable {X : Cx} {K : PySem.W.Frag} {P : Addr → Prop} {G : Gp} {H : Hp}
theorem Reps.reverse : ∀ {ds : List D} {vs : List V}, Reps K H G P ds vs → Reps K H G P ds.reverse vs.reverse
  | [], _, h => by unfold Reps at h; subst h; exact reps_nil
  | d :: ds, _, h => by
    unfold Reps at h
    obtain ⟨x, r, rfl, h1, h2⟩ := h
    rw [List.reverse_cons, List.reverse_cons]
    exact (Reps.reverse h2).append (reps_cons h1 reps_nil)
end
end DL
set_option Elab.async false
set_option linter.all false
set_option maxRecDepth 100000
set_option maxHeartbeats 4000000
namespace DL
open PySem PySem.Spec PyProof.Rows L2
theorem rngD_map (n : Nat) : rngD 0 n = (List.range' 0 n).map fun (i : Nat) => D.int (i : Int) := by
  unfold rngD
  rw [List.range_eq_range']
  exact List.map_congr_left fun a _ => by simp
theorem forW_rng {n : Nat} {t : Tg} {tb : ES} {N : En} {s : Sd} {G : Gp} (I : Nat → Sd → Gp → Prop)
    (h : ∀ (j : Nat) s G (W : Sd → Gp → Prop), j < n → I j s G → (∀ s' G', I (j + 1) s' G' → W s' G') → match asg t (.int (j : Int)) s with
      | some s' => tb { N with nx := W, ct := W, bk := N.nx } s' G
      | none => False) (k : ∀ s G, I n s G → N.nx s G) (h0 : I 0 s G) : forW t tb (fun _ => True) N (rngD 0 n) s G := by
  rw [rngD_map]
  refine forW_ind (fun r s G => ∃ j, r = List.range' j (n - j) ∧ j ≤ n ∧ I j s G) (fun _ _ _ _ => trivial) ?_ ?_ _ _ _ ⟨0, by simp, Nat.zero_le _, h0⟩
  · rintro x r s G W ⟨j, e, hj, hI⟩ hW
    have hlt : j < n := by
      rcases Nat.lt_or_ge j n with q | q
      · exact q
      · rw [Nat.sub_eq_zero_of_le q] at e; simp at e
    rw [show n - j = (n - (j + 1)) + 1 by omega, List.range'_succ] at e
    cases e
    exact h x s G W hlt hI fun s' G' hI' => hW s' G' ⟨x + 1, rfl, hlt, hI'⟩
  · rintro s G ⟨j, e, hj, hI⟩
    have : j = n := by
      have := congrArg List.length e
      simp at this
      omega
    subst this
    exact k s G hI
end DL
set_option Elab.async false
set_option linter.all false
set_option maxRecDepth 100000
set_option maxHeartbeats 4000000
namespace DL
open PySem PySem.Spec PyProof.Rows L2
@[simp] def keyD : D → Option Key
  | .int i => some (.inl i)
  | .str x => some (.inr x)
  | _ => none
def lkD (G : Gp) : D → Option (List Key × List D)
  | .dct ks ds => some (ks, ds)
  | .ref a => match G a with
    | some (.dct ks ds) => some (ks, ds)
    | _ => none
  | _ => none
@[simp] theorem lkD_dct {G : Gp} {ks : List Key} {ds : List D} : lkD G (.dct ks ds) = some (ks, ds) := rfl
@[simp] theorem lkD_ref {G : Gp} {a : Addr} : lkD G (.ref a) = match G a with
    | some (.dct ks ds) => some (ks, ds)
    | _ => none := rfl
def valD : List Key → List D → Key → Option D
  | k' :: ks, d :: ds, k => if k' = k then some d else valD ks ds k
  | _, _, _ => none
def putDs : List Key → List D → Key → D → List D
  | k' :: ks, d' :: ds, k, d => (if k' = k then d else d') :: putDs ks ds k d
  | _, _, _, _ => []
def hasK (ks : List Key) (k : Key) : Bool := ks.any fun k' => decide (k' = k)
/-- the keys, the values behind d[k] = v -/
def putKs (ks : List Key) (k : Key) : List Key := if hasK ks k = true then ks else ks ++ [k]
def putVs (ks : List Key) (ds : List D) (k : Key) (d : D) : List D := if hasK ks k = true then putDs ks ds k d else ds ++ [d]
@[simp] def oDGet : OD := fun x y G Q => match lkD G x, keyD y with
  | some (ks, ds), some k => (match valD ks ds k with
    | some d => Q d G
    | none => False)
  | _, _ => False
@[simp] def oDIn : OD := fun y x G Q => match lkD G x, keyD y with
  | some (ks, ds), some k => Q (.bl (valD ks ds k).isSome) G
  | _, _ => False
@[simp] def oDNotIn : OD := fun y x G Q => match lkD G x, keyD y with
  | some (ks, ds), some k => Q (.bl (!(valD ks ds k).isSome)) G
  | _, _ => False
section
variable {X : Cx} {K : PySem.W.Frag} {P : Addr → Prop} {G : Gp} {H : Hp}
/-- {}: owned; frozen -/
@[simp] def eDnewO : EE := fun _ G Q => ∀ p, G p = none → Q (.ref p) (gput G p (.dct [] []))
@[simp] def eDnew0 : EE := fun _ G Q => Q (.dct [] []) G
theorem j_dnew0 {pos : Pos} : JE X (.Dict [] [] pos) eDnew0 := ⟨pe_dnewK, fun P s G Q σ H R h r k => fun p hp => by
  have st : Step G H G (upd H p (.dK [])) := Step.new hp
  obtain ⟨f1, f2⟩ := r.wo.fresh hp
  exact k _ _ _ _ st (r.wo.new hp) (by unfold Rep; exact ⟨p, [], rfl, f1, f2, upd_same, rfl, reps_nil⟩) h⟩
/-- d[k] = v, d owned -/
@[simp] def sPutD (te to ti : EE) : ES := fun N s G => te s G fun v G1 => to s G1 fun o G2 => ti s G2 fun i G3 => match o, keyD i with
  | .ref p, some k => (match G3 p with
    | some (.dct ks ds) => ks.length < sizeLine ∧ N.nx s (gput G3 p (.dct (putKs ks k) (putVs ks ds k v)))
    | _ => False)
  | _, _ => False
/-- sorted(d), the keys ints -/
def intKs : List Key → Option (List Int)
  | [] => some []
  | .inl i :: ks => (intKs ks).map (i :: ·)
  | .inr _ :: _ => none
@[simp] def cSortedDI : CD := fun xs G Q => match xs with
  | [x] => (match (lkD G x).bind fun p => intKs p.1 with
    | some ns => ns.length < 64 ∧ ∀ ms : List Int, ms.Perm ns → ms.Pairwise (· ≤ ·) → Q (.lst (ms.map D.int)) G
    | none => False)
  | _ => False
@[simp] def mPop : MD := fun x xs G Q => match x, xs with
  | .ref p, [] => (match G p with
    | some (.lst ds) => (match ds[ds.length - 1]? with
      | some d => Q d (gput G p (.lst ds.dropLast))
      | none => False)
    | _ => False)
  | _, _ => False
@[simp] def mClear : MD := fun x xs G Q => match x, xs with
  | .ref p, [] => (match G p with
    | some (.lst ds) => Q .non (gput G p (.lst []))
    | _ => False)
  | _, _ => False
@[simp] def mIns : MD := fun x xs G Q => match x, xs with
  | .ref p, [.int i, y] => (match G p with
    | some (.lst ds) => ds.length < sizeLine ∧ 0 ≤ i ∧ i < 2 ^ 63 ∧ Q .non (gput G p (.lst (ds.take i.toNat ++ [y] ++ ds.drop i.toNat)))
    | _ => False)
  | _, _ => False
end
theorem hu_of {k : Nat} {A : Around} (r : Room k A) : A.units + 1 < cLine := by have := r.un; omega
end DL
set_option Elab.async false
set_option linter.all false
set_option maxRecDepth 100000
set_option maxHeartbeats 4000000
namespace DL
open PySem PySem.Spec PyProof.Rows L2
/-- d.get(k, x) -/
@[simp] def eDGet2 (to ti tx : EE) : EE := fun s G Q => to s G fun o G1 => (lkD G1 o).isSome = true ∧ ti s G1 fun y G2 => tx s G2 fun z G3 => match lkD G3 o, keyD y with
  | some (ks, ds), some k => Q ((valD ks ds k).getD z) G3
  | _, _ => False
/-- d.get(k) -/
@[simp] def eDGet1 (to ti : EE) : EE := fun s G Q => to s G fun o G1 => (lkD G1 o).isSome = true ∧ ti s G1 fun y G3 => match lkD G3 o, keyD y with
  | some (ks, ds), some k => Q ((valD ks ds k).getD .non) G3
  | _, _ => False
def dropKs : List Key → Key → List Key
  | k' :: ks, k => if k' = k then dropKs ks k else k' :: dropKs ks k
  | [], _ => []
def dropDs : List Key → List D → Key → List D
  | k' :: ks, d :: ds, k => if k' = k then dropDs ks ds k else d :: dropDs ks ds k
  | _, _, _ => []
/-- d.pop(k), k there, d owned -/
@[simp] def eDPop1 (to ti : EE) : EE := fun s G Q => to s G fun o G1 => (lkD G1 o).isSome = true ∧ ti s G1 fun y G2 => match o, keyD y with
  | .ref p, some k => (match G2 p with
    | some (.dct ks ds) => (match valD ks ds k with
      | some d => Q d (gput G2 p (.dct (dropKs ks k) (dropDs ks ds k)))
      | none => False)
    | _ => False)
  | _, _ => False
section
variable {X : Cx} {K : PySem.W.Frag} {P : Addr → Prop} {G : Gp} {H : Hp}
def pairsD : List D → Option (List (Key × D))
  | [] => some []
  | .tup [k, d] :: r => (match keyD k, pairsD r with
    | some kk, some ps => some ((kk, d) :: ps)
    | _, _ => none)
  | _ :: _ => none
def mergeDs : List Key → List D → List (Key × D) → List Key × List D
  | ks, ds, [] => (ks, ds)
  | ks, ds, (k, d) :: r => mergeDs (putKs ks k) (putVs ks ds k d) r
@[simp] def cDictPO : CD := fun xs G Q => match xs with
  | [x] => (match (lkL G x).bind pairsD with
    | some ps => ∀ p, G p = none → Q (.ref p) (gput G p (.dct (mergeDs [] [] ps).1 (mergeDs [] [] ps).2))
    | none => False)
  | _ => False
@[simp] def cDictDO : CD := fun xs G Q => match xs with
  | [x] => (match lkD G x with
    | some (ks, ds) => ∀ p, G p = none → Q (.ref p) (gput G p (.dct ks ds))
    | none => False)
  | _ => False
@[simp] def eDispC (k : Key) (d : D) : EE := fun _ G Q => Q (.dct [k] [d]) G
@[simp] def iRv (te : EE) : EI := fun s G Q => te s G fun x G1 => match lkL G1 x with
  | some ds => Q ds.reverse (stays x ds) G1
  | none => False
end
@[simp] def cAbs : CD := fun xs G Q => match xs with
  | [.int i] => Q (.int (if i < 0 then -i else i)) G
  | _ => False
end DL
set_option Elab.async false
set_option linter.all false
set_option maxRecDepth 100000
set_option maxHeartbeats 4000000
namespace DL
open PySem PySem.Spec PyProof.Rows L2
mutual
def frz (p : Addr) (ds : List D) : D → D
  | .ref a => if a = p then .lst ds else .ref a
  | .lst es => .lst (frzs p ds es)
  | .tup es => .tup (frzs p ds es)
  | .dct ks es => .dct ks (frzs p ds es)
  | .non => .non
  | .bl b => .bl b
  | .int b => .int b
  | .str b => .str b
  | .ty b => .ty b
  | .cl b => .cl b
  | .exc a dd f e => .exc a dd f (frz p ds e)
  | .scr b => .scr b
def frzs (p : Addr) (ds : List D) : List D → List D
  | [] => []
  | e :: es => frz p ds e :: frzs p ds es
end
theorem frzs_len {p : Addr} {ds : List D} : ∀ es : List D, (frzs p ds es).length = es.length
  | [] => rfl
  | e :: es => by simp only [frzs, List.length_cons, frzs_len es]
section
variable {K : PySem.W.Frag}
mutual
theorem Rep.frz {P : Addr → Prop} {G G2 : Gp} {H : Hp} {p : Addr} {ds : List D} (h2 : ∀ a, G a = none → G2 a = none) (hp : Rep K H G2 P (.lst ds) (.ref p)) : ∀ {d : D} {v : V}, RefIn G2 (DL.frz p ds d) → Rep K H G P d v → Rep K H G2 P (DL.frz p ds d) v
  | .non, _, _, h => by unfold DL.frz; unfold Rep at h ⊢; exact h
  | .bl _, _, _, h => by unfold DL.frz; unfold Rep at h ⊢; exact h
  | .int _, _, _, h => by unfold DL.frz; unfold Rep at h ⊢; exact h
  | .str _, _, _, h => by unfold DL.frz; unfold Rep at h ⊢; exact h
  | .ty _, _, _, h => by unfold DL.frz; unfold Rep at h ⊢; exact h
  | .cl _, _, _, h => by unfold DL.frz; unfold Rep at h ⊢; exact h
  | .exc a dd f e, _, q, h => by
    unfold DL.frz at q ⊢
    unfold Rep at h ⊢
    simp only [RefIn] at q
    obtain ⟨rfl, g, pp, u, r, t⟩ := h
    exact ⟨rfl, h2 _ g, pp, u, r, Rep.frz h2 hp q t⟩
  | .scr ns, _, _, h => by
    unfold DL.frz
    unfold Rep at h ⊢
    obtain ⟨a, rfl, z, ⟨⟨u, h⟩, g⟩ | ⟨h, g, pp⟩ | h⟩ := h
    · exact ⟨a, rfl, z, .inl ⟨⟨u, h⟩, h2 _ g⟩⟩
    · exact ⟨a, rfl, z, .inr (.inl ⟨h, h2 _ g, pp⟩)⟩
    · exact ⟨a, rfl, z, .inr (.inr h)⟩
  | .ref a, v, q, h => by
    unfold DL.frz at q ⊢
    by_cases e : a = p
    · rw [if_pos e]
      unfold Rep at h
      obtain ⟨rfl, _⟩ := h
      rw [e]; exact hp
    · rw [if_neg e] at q ⊢
      unfold Rep at h ⊢
      simp only [RefIn] at q
      exact ⟨h.1, q⟩
  | .lst es, _, q, h => by
    unfold DL.frz at q ⊢
    simp only [RefIn] at q
    unfold Rep at h ⊢
    obtain ⟨a, xs, rfl, g, p', r, z, t⟩ := h
    exact ⟨a, xs, rfl, h2 _ g, p', r, by rw [frzs_len]; exact z, Reps.frz h2 hp q t⟩
  | .tup es, _, q, h => by
    unfold DL.frz at q ⊢
    simp only [RefIn] at q
    unfold Rep at h ⊢
    obtain ⟨a, xs, rfl, g, p', r, z, t⟩ := h
    exact ⟨a, xs, rfl, h2 _ g, p', r, by rw [frzs_len]; exact z, Reps.frz h2 hp q t⟩
  | .dct ks es, _, q, h => by
    unfold DL.frz at q ⊢
    simp only [RefIn] at q
    unfold Rep at h ⊢
    obtain ⟨a, xs, rfl, g, p', r, z, t⟩ := h
    exact ⟨a, xs, rfl, h2 _ g, p', r, by rw [frzs_len]; exact z, Reps.frz h2 hp q t⟩
theorem Reps.frz {P : Addr → Prop} {G G2 : Gp} {H : Hp} {p : Addr} {ds : List D} (h2 : ∀ a, G a = none → G2 a = none) (hp : Rep K H G2 P (.lst ds) (.ref p)) : ∀ {es : List D} {vs : List V}, RefIns G2 (frzs p ds es) → Reps K H G P es vs → Reps K H G2 P (frzs p ds es) vs
  | [], _, _, h => by unfold frzs; unfold Reps at h ⊢; exact h
  | d :: es, _, q, h => by
    unfold frzs at q ⊢
    simp only [RefIns] at q
    unfold Reps at h ⊢
    obtain ⟨x, r, rfl, h1, h3⟩ := h
    exact ⟨x, r, rfl, Rep.frz h2 hp q.1 h1, Reps.frz h2 hp q.2 h3⟩
end
end
end DL
set_option Elab.async false
set_option linter.all false
set_option maxRecDepth 100000
set_option maxHeartbeats 4000000
namespace DL
open PySem PySem.Spec PyProof.Rows L2
theorem stays_of {G : Gp} {x : D} {ds : List D} (h : lkL G x = some ds) : stays x ds G := by
  cases x with
  | ref a =>
    simp only [lkL] at h
    simp only [stays]
    split at h
    · rename_i e; rw [e]; cases h; rfl
    · cases h
  | _ => exact True.intro
end DL
set_option Elab.async false
set_option linter.all false
set_option maxRecDepth 100000
set_option maxHeartbeats 4000000
namespace DL
open PySem PySem.Spec PyProof.Rows L2
end DL
set_option Elab.async false
set_option linter.all false
set_option maxRecDepth 100000
set_option maxHeartbeats 4000000
namespace DL
open PySem PySem.Spec PyProof.Rows L2
/-- the greatest of some ints that is no more than m -/
theorem max_le (L : List Int) (m : Int) : (∀ x ∈ L, m < x) ∨ ∃ a ∈ L, a ≤ m ∧ ∀ x ∈ L, ¬ (a < x ∧ x ≤ m) := by
  induction L with
  | nil => exact .inl (by simp)
  | cons y L ih =>
    rcases ih with h | ⟨a, ha, h1, h2⟩
    · by_cases hy : y ≤ m
      · refine .inr ⟨y, List.mem_cons_self, hy, fun x hx q => ?_⟩
        rcases List.mem_cons.mp hx with z | z
        · omega
        · have := h x z; omega
      · refine .inl fun x hx => ?_
        rcases List.mem_cons.mp hx with z | z
        · omega
        · exact h x z
    · by_cases hy : a < y ∧ y ≤ m
      · refine .inr ⟨y, List.mem_cons_self, hy.2, fun x hx q => ?_⟩
        rcases List.mem_cons.mp hx with z | z
        · omega
        · exact h2 x z ⟨by omega, q.2⟩
      · refine .inr ⟨a, List.mem_cons_of_mem _ ha, h1, fun x hx q => ?_⟩
        rcases List.mem_cons.mp hx with z | z
        · subst z; exact hy q
        · exact h2 x z q
end DL
set_option Elab.async false
set_option linter.all false
set_option maxRecDepth 100000
set_option maxHeartbeats 4000000
namespace DL
open PySem PySem.Spec PyProof.Rows L2
end DL
set_option Elab.async false
set_option linter.all false
set_option maxRecDepth 100000
set_option maxHeartbeats 4000000
namespace DL
open PySem PySem.Spec PyProof.Rows L2
theorem map_range_st (bk : List Stretch) : (List.range bk.length).map (st bk) = bk := by
  apply List.ext_getElem (by simp)
  intro i h1 h2
  simp [st, List.getD_eq_getElem?_getD, List.getElem?_eq_getElem h2]
end DL
set_option Elab.async false
set_option linter.all false
set_option maxRecDepth 100000
set_option maxHeartbeats 4000000
namespace DL
open PySem PySem.Spec PyProof.Rows L2
def F_is_whole : Sf := fun ds G Q => ∃ (d : D) (n : String) (a b : Bool), ds = [d] ∧ tyD G d = some n ∧ kitB n "int" = some a ∧ kitB n "bool" = some b ∧ Q (.bl (a && !b)) G
def r_is_whole : ES :=
  (sRet (eAndT (eCB cIsi (eCons (eVar 0) (eCons (eC (.ty "int")) eNil))) (eNotT (eCB cIsi (eCons (eVar 0) (eCons (eC (.ty "bool")) eNil))))))
theorem d_is_whole (ds : List D) (G : Gp) (Q : DK) (h : F_is_whole ds G Q) : r_is_whole (fin G Q) (startD 1 ds) G := by
  obtain ⟨d, n, a, b, rfl, e1, e2, e3, k⟩ := h
  simp [r_is_whole, startD, e1, e2, e3]
  cases a with
  | true => simp at k ⊢; exact fin_id k
  | false => simp at k ⊢; exact fin_id k
end DL
set_option Elab.async false
set_option linter.all false
set_option maxRecDepth 100000
set_option maxHeartbeats 4000000
namespace DL
open PySem PySem.Spec PyProof.Rows L2
def ringD (n : Int) (rs : List Stretch) : D := .tup [.int n, .lst (rs.map Stretch.d)]
@[simp ↓ high] theorem ixr_0 {n : Int} {rs : List Stretch} {G : Gp} {Q : DK} : oIx (ringD n rs) (.int 0) G Q = Q (.int n) G := by simp [ringD, atI, ixN]
@[simp ↓ high] theorem ixr_1 {n : Int} {rs : List Stretch} {G : Gp} {Q : DK} : oIx (ringD n rs) (.int 1) G Q = Q (.lst (rs.map Stretch.d)) G := by simp [ringD, atI, ixN]
end DL
set_option Elab.async false
set_option linter.all false
set_option maxRecDepth 100000
set_option maxHeartbeats 4000000
namespace DL
open PySem PySem.Spec PyProof.Rows L2
end DL
set_option Elab.async false
set_option linter.all false
set_option maxRecDepth 100000
set_option maxHeartbeats 4000000
namespace L2
open PySem PySem.Spec PyProof.Rows
end L2
namespace DL
open PySem PySem.Spec PyProof.Rows L2
@[simp] def eChain3 (r r' r'' : OD) (ta tb tc td : EE) : EE := fun s G Q => ta s G fun x G1 => tb s G1 fun y G2 => r x y G2 fun z G3 => match z with
  | .bl k => if k = true then tc s G3 fun w G4 => r' y w G4 fun z' G5 => (match z' with
    | .bl k' => if k' = true then td s G5 fun v G6 => r'' w v G6 Q else Q (.bl false) G5
    | _ => False) else Q (.bl false) G3
  | _ => False
section
variable {X : Cx} {K : PySem.W.Frag} {a b c d : Expr} {ea eb ec ed : EE} {pos : Pos}
/-- lists joined: a new one, owned -/
@[simp] def oAddO : OD := fun x y G Q => match lkL G x, lkL G y with
  | some ds, some es => (∀ ns, x ≠ .scr ns) ∧ (∀ ns, y ≠ .scr ns) ∧ ds.length + es.length ≤ sizeLine ∧ ∀ p, G p = none → Q (.ref p) (gput G p (.lst (ds ++ es)))
  | _, _ => False
/-- tuples joined -/
@[simp] def oCatT : OD := fun x y G Q => match x, y with
  | .tup ds, .tup es => ds.length + es.length ≤ sizeLine ∧ Q (.tup (ds ++ es)) G
  | _, _ => False
theorem lo_catT : LO K (rCatA K) oCatT := fun P G H x y u v Q R h w rx ry k => by
  unfold oCatT at h
  split at h
  · rename_i ds es
    have rx0 := rx
    have ry0 := ry
    obtain ⟨a, xs, rfl, g1, p1, r1, z1, q1⟩ := rep_t rx
    obtain ⟨b, ys, rfl, g2, p2, r2, z2, q2⟩ := rep_t ry
    refine ⟨a, b, xs, ys, rfl, rfl, SqT.of r1, SqT.of r2, by rw [← q1.length, ← q2.length]; exact h.1, fun e => ?_, fun _ e => ?_, fun _ _ p hp => ?_⟩
    · have : ds = [] := List.eq_nil_of_length_eq_zero (by rw [q1.length, e]; rfl)
      rw [this, List.nil_append] at h
      exact k _ G _ H (Step.refl _ _) w ry0 h.2
    · have : es = [] := List.eq_nil_of_length_eq_zero (by rw [q2.length, e]; rfl)
      rw [this, List.append_nil] at h
      exact k _ G _ H (Step.refl _ _) w rx0 h.2
    · obtain ⟨f1, f2⟩ := w.fresh hp
      have st : Step G H G (upd H p (.tup (xs ++ ys))) := Step.new hp
      exact k _ G _ _ st (w.new hp) (rep_tup f1 f2 upd_same (by rw [List.length_append]; exact h.1) ((q1.append q2).step st)) h.2
  · exact h.elim
theorem j_catT (ha : JE X a ea) (hb : JE X b eb) : JE X (.BinOp a .Add b pos) (eOp oCatT ea eb) := j_bin op_catA lo_catT ha hb
/-- a list so many times -/
@[simp] def oRep : OD := fun x y G Q => match lkL G x, y with
  | some ds, .int k => (∀ ns, x ≠ .scr ns) ∧ -(2 ^ 63) ≤ k ∧ k < 2 ^ 63 ∧ ds.length * k.toNat ≤ sizeLine ∧ Q (.lst (List.replicate k.toNat ds).flatten) G
  | _, _ => False
/-- a text's slice -/
@[simp] def eSlS (te : EE) (tl th : EO) : EE := fun s G Q => te s G fun x G1 => tl s G1 fun l G2 => th s G2 fun u G3 => match x with
  | .str z => z.length ≤ sizeLine ∧ Q (.str (Txt.slice z l u)) G3
  | _ => False
/-- tuple(x) of a list or a tuple -/
@[simp] def cTuple : CD := fun xs G Q => match xs with
  | [.tup ds] => Q (.tup ds) G
  | [x] => (match lkL G x with
    | some ds => Q (.tup ds) G
    | none => False)
  | _ => False
theorem lc_tuple : LC K (fun xs H Q => ∃ p ys, xs = [.ref p] ∧ ((SqL K H p ys ∧ ∀ l, H l = none → Q (.ref l) (upd H l (.tup ys))) ∨ (SqT K H p ys ∧ Q (.ref p) H))) cTuple := fun P G H xs us Q R h w r k => by
  unfold cTuple at h
  split at h
  · obtain ⟨u, rfl, r1⟩ := reps1 r
    have r1' := r1
    obtain ⟨a, ys, rfl, g, p, rr, z, q⟩ := rep_t r1
    exact ⟨a, ys, rfl, .inr ⟨SqT.of rr, k _ G _ H (Step.refl _ _) w r1' h⟩⟩
  · obtain ⟨u, rfl, r1⟩ := reps1 r
    split at h
    · rename_i ds e
      obtain ⟨a, ys, rfl, s, q, z⟩ := lk_sq w r1 e
      refine ⟨a, ys, rfl, .inl ⟨s, fun p hp => ?_⟩⟩
      obtain ⟨f1, f2⟩ := w.fresh hp
      have st : Step G H G (upd H p (.tup ys)) := Step.new hp
      exact k _ G _ _ st (w.new hp) (rep_tup f1 f2 upd_same z (q.step st)) h
    · exact h.elim
  · exact h.elim
end
end DL
set_option Elab.async false
set_option linter.all false
set_option maxRecDepth 100000
set_option maxHeartbeats 4000000
namespace L2
open PySem PySem.Spec PyProof.Rows
section
variable {X : Cx}
def repS (z : Str) (n : Nat) : Str := ⟨(List.replicate n z.cps).foldl (· ++ ·) #[]⟩
end
end L2
namespace DL
open PySem PySem.Spec PyProof.Rows L2
@[simp] def oRepS : OD := fun x y G Q => match x, y with
  | .str z, .int k => 2 ≤ k ∧ k ≤ 1000 ∧ 0 < z.length ∧ z.length ≤ 1000 ∧ Q (.str (repS z k.toNat)) G
  | _, _ => False
end DL
set_option Elab.async false
set_option linter.all false
set_option maxRecDepth 100000
set_option maxHeartbeats 4000000
namespace DL
open PySem PySem.Spec PyProof.Rows L2
@[simp] theorem sizeLine_lit : sizeLine = 16777216 := by decide
@[simp] theorem cpow_10 {n : Int} : CPow 10 n ↔ 0 ≤ n ∧ n ≤ 1000000 := by
  unfold CPow
  exact ⟨fun h => ⟨h.1, h.2.1⟩, fun h => ⟨h.1, h.2, by decide⟩⟩
end DL
set_option Elab.async false
set_option linter.all false
set_option maxRecDepth 100000
set_option maxHeartbeats 4000000
namespace PySem
end PySem
namespace L2
open PySem PySem.Spec PyProof.Rows
end L2
namespace DL
open PySem PySem.Spec PyProof.Rows L2
/-- max(xs, default=d) -/
@[simp] def eMaxD (te td : EE) : EE := fun s G Q => te s G fun x G1 => td s G1 fun d G2 => match (lkL G2 x).bind intsD with
  | some ns => (ns = [] → Q d G2) ∧ (ns ≠ [] → ∀ m, m ∈ ns → (∀ y, y ∈ ns → y ≤ m) → Q (.int m) G2)
  | none => False
end DL
set_option Elab.async false
set_option linter.all false
set_option maxRecDepth 100000
set_option maxHeartbeats 4000000
namespace L2
open PySem PySem.Spec PyProof.Rows PySem.W
end L2
namespace DL
open PySem PySem.Spec PyProof.Rows L2 PySem.W
/-- sorted(xs), xs alike data: a new list, frozen -/
@[simp] def cSrtD : CD := fun xs G Q => match xs with
  | [x] => (match lkL G x with
    | some ds => (match toPys G ds with
      | some ps => AllAlike ps ∧ Sortable ps ∧ (∀ p ∈ ps, p.depth ≤ 40) ∧ Q (.lst (((ds.zip ps).mergeSort (dataLe false (fun z : D × PyData => z.2))).map (·.1))) G
      | none => False)
    | none => False)
  | _ => False
end DL
set_option Elab.async false
set_option linter.all false
set_option maxRecDepth 100000
set_option maxHeartbeats 4000000
namespace DL
open PySem PySem.Spec PyProof.Rows L2
theorem ofStr_injective {a b : String} (h : Str.ofString a = Str.ofString b) : a = b := by
  rw [Str.ofString_eq_toList, Str.ofString_eq_toList] at h
  simp only [Str.mk.injEq] at h
  have h2 := congrArg Array.toList h
  simp only [List.toList_toArray] at h2
  have h3 : a.toList = b.toList := (List.map_inj_right (fun x y e => Char.toNat_inj.mp e)).mp h2
  exact String.toList_inj.mp h3
@[simp] theorem ofStr_eq {a b : String} : Str.ofString a = Str.ofString b ↔ a = b := ⟨ofStr_injective, fun h => by rw [h]⟩
@[simp] def lkF (f : Str) : List Str → List D → Option D
  | k :: ks, d :: ds => if k = f then some d else lkF f ks ds
  | _, _ => none
@[simp] def putFk (f : Str) : List Str → List Str
  | [] => [f]
  | k :: ks => if k = f then k :: ks else k :: putFk f ks
@[simp] def putFv (f : Str) (y : D) : List Str → List D → List D
  | k :: ks, d :: ds => if k = f then y :: ds else d :: putFv f y ks ds
  | _, _ => [y]
section
variable {X : Cx} {Y : Wx} {K : PySem.W.Frag} {P : Addr → Prop} {G : Gp} {H : Hp} {C f : Str}
/-- o.f, an instance of the class named C -/
@[simp] def eFld (C f : Str) (te : EE) : EE := fun s G Q => te s G fun x G1 => match x with
  | .ref a => (match G1 a with
    | some (.ins C' _ ks ds) => C' = C ∧ (match lkF f ks ds with
      | some d => Q d G1
      | none => False)
    | _ => False)
  | _ => False
/-- o.f = e -/
@[simp] def sFldD (C f : Str) (te to : EE) : ES := fun N s G => te s G fun v G1 => to s G1 fun o G2 => match o with
  | .ref a => (match G2 a with
    | some (.ins C' dx ks ds) => C' = C ∧ ks.length < 1000 ∧ N.nx s (gput G2 a (.ins C dx (putFk f ks) (putFv f v ks ds)))
    | _ => False)
  | _ => False
/-- an instance of the class named C without a field m of its own -/
@[simp] def isIns (C m : Str) (G : Gp) : D → Prop
  | .ref a => (match G a with
    | some (.ins C' _ ks _) => C' = C ∧ m ∉ ks
    | _ => False)
  | _ => False
/-- o.m(..) -/
@[simp] def eMeth (C m : Str) (F : Sf) (to : EE) (t : EA) : EE := fun s G Q => to s G fun x G1 => isIns C m G1 x ∧ t s G1 fun xs G2 => F (x :: xs) G2 Q
/-- C(..) -/
@[simp] def eMake (C : Str) (F : Sf) (t : EA) : EE := fun s G Q => t s G fun xs G1 => ∀ x dx, G1 x = none → F (.ref x :: xs) (gput G1 x (.ins C dx [] [])) fun d G2 => d = .non ∧ Q (.ref x) G2
end
end DL
set_option Elab.async false
set_option linter.all false
set_option maxRecDepth 100000
set_option maxHeartbeats 4000000
namespace LN
/-- sums over 0 .. n - 1 -/
def sumN : Nat → (Nat → Int) → Int
  | 0, _ => 0
  | n + 1, f => sumN n f + f n
def fup {α : Type} (f : Nat → α) (i : Nat) (x : α) : Nat → α := fun j => if j = i then x else f j
structure Sp3 where
  b : Nat
  e : Nat
  w : Int
inductive Kd where
  | idle | fill | unidle | unfill | take | leave
  deriving DecidableEq
structure Arc where
  u : Nat
  v : Nat
  g : Int
  k : Kd
  i : Nat
/-- the line's state -/
structure LS where
  n : Nat
  m : Nat
  sp : Nat → Sp3
  must : Nat → Int
  filled : Nat → Int
  idle : Nat → Int
  taken : Nat → Bool
  great : Int
abbrev Gn := Nat → Option Int
abbrev La := Nat → Option Arc
/-- one arc looked at; whether anything changed -/
structure RS where
  g : Gn
  l : La
  ch : Bool
/-- what a change makes less -/
def nones (n : Nat) (g : Gn) : Int := sumN n fun v => if g v = none then 1 else 0
def gap (n : Nat) (p : Nat → Int) (g : Gn) : Int := sumN n fun v => match g v with
  | none => 0
  | some x => p v - p 0 - x
def Less (n : Nat) (p : Nat → Int) (g' g : Gn) : Prop := nones n g' < nones n g ∨ (nones n g' = nones n g ∧ gap n p g' < gap n p g)
theorem Less.trans {n : Nat} {p : Nat → Int} {a b c : Gn} (h : Less n p a b) (k : Less n p b c) : Less n p a c := by
  unfold Less at *; omega
def start : RS := ⟨fup (fun _ => none) 0 (some 0), fun _ => none, true⟩
def go (S : LS) (a : Arc) : LS := match a.k with
  | .idle => { S with idle := fup S.idle a.i (S.idle a.i + 1) }
  | .unidle => { S with idle := fup S.idle a.i (S.idle a.i - 1) }
  | .fill => { S with filled := fup S.filled a.i (S.filled a.i + 1) }
  | .unfill => { S with filled := fup S.filled a.i (S.filled a.i - 1) }
  | .take => { S with taken := fup S.taken a.i true }
  | .leave => { S with taken := fup S.taken a.i false }
/-- the gain of all that was sent -/
def val (S : LS) : Int := sumN S.m (fun i => if S.taken i = true then (S.sp i).w else 0) + sumN S.n S.filled * S.great
end LN
set_option Elab.async false
set_option linter.all false
set_option maxRecDepth 100000
set_option maxHeartbeats 4000000
namespace DL
open PySem PySem.Spec PyProof.Rows L2 LN
def fnL (n : Nat) (f : Nat → D) : List D := (List.range n).map f
@[simp] theorem fnL_len {n : Nat} {f : Nat → D} : (fnL n f).length = n := by simp [fnL]
def kdS : Kd → Str
  | .idle => "idle"
  | .fill => "fill"
  | .unidle => "unidle"
  | .unfill => "unfill"
  | .take => "take"
  | .leave => "leave"
def arcD (a : Arc) : D := .tup [.int (a.u : Nat), .int (a.v : Nat), .int a.g, .str (kdS a.k), .int (a.i : Nat)]
def sp3D (s : Sp3) : D := .tup [.int (s.b : Nat), .int (s.e : Nat), .int s.w]
@[simp ↓ high] theorem ixa_0 {a : Arc} {G : Gp} {Q : DK} : oIx (arcD a) (.int 0) G Q = Q (.int (a.u : Nat)) G := by simp [arcD, atI, ixN]
@[simp ↓ high] theorem ixa_1 {a : Arc} {G : Gp} {Q : DK} : oIx (arcD a) (.int 1) G Q = Q (.int (a.v : Nat)) G := by simp [arcD, atI, ixN]
@[simp ↓ high] theorem ixa_2 {a : Arc} {G : Gp} {Q : DK} : oIx (arcD a) (.int 2) G Q = Q (.int a.g) G := by simp [arcD, atI, ixN]
def lineKs : List Str := ["own_spans", "own_must", "filled", "idle", "taken", "great"]
def lineDs (S : LN.LS) (af ai at_ : Addr) : List D := [.lst (fnL S.m fun i => sp3D (S.sp i)), .lst (fnL S.n fun k => .int (S.must k)), .ref af, .ref ai, .ref at_, .int S.great]
def lineO (S : LN.LS) (dx af ai at_ : Addr) : GO := .ins "Line" dx lineKs (lineDs S af ai at_)
section
variable {S : LN.LS} {af ai at_ : Addr}
@[simp] theorem lf_spans : lkF "own_spans" lineKs (lineDs S af ai at_) = some (.lst (fnL S.m fun i => sp3D (S.sp i))) := by simp [lineKs, lineDs]
@[simp] theorem lf_must : lkF "own_must" lineKs (lineDs S af ai at_) = some (.lst (fnL S.n fun k => .int (S.must k))) := by simp [lineKs, lineDs]
@[simp] theorem lf_filled : lkF "filled" lineKs (lineDs S af ai at_) = some (.ref af) := by simp [lineKs, lineDs]
@[simp] theorem lf_idle : lkF "idle" lineKs (lineDs S af ai at_) = some (.ref ai) := by simp [lineKs, lineDs]
@[simp] theorem lf_taken : lkF "taken" lineKs (lineDs S af ai at_) = some (.ref at_) := by simp [lineKs, lineDs]
@[simp] theorem lf_great : lkF "great" lineKs (lineDs S af ai at_) = some (.int S.great) := by simp [lineKs, lineDs]
@[simp] theorem lm_1 : ("piece_arcs" : Str) ∉ lineKs := by simp [lineKs]
@[simp] theorem lm_2 : ("span_arc" : Str) ∉ lineKs := by simp [lineKs]
@[simp] theorem lm_3 : ("arcs_left" : Str) ∉ lineKs := by simp [lineKs]
@[simp] theorem lm_4 : ("roads_told" : Str) ∉ lineKs := by simp [lineKs]
@[simp] theorem lm_5 : ("go_along" : Str) ∉ lineKs := by simp [lineKs]
@[simp] theorem lm_6 : ("send_unit" : Str) ∉ lineKs := by simp [lineKs]
@[simp] theorem lm_7 : ("greatest_over" : Str) ∉ lineKs := by simp [lineKs]
@[simp] theorem lm_8 : ("prices_now" : Str) ∉ lineKs := by simp [lineKs]
@[simp] theorem lm_9 : ("taken_now" : Str) ∉ lineKs := by simp [lineKs]
end
/-- a line stands at x -/
structure LnA (G : Gp) (x dx af ai at_ : Addr) (S : LN.LS) : Prop where
  ob : G x = some (lineO S dx af ai at_)
  fi : G af = some (.lst (fnL S.n fun k => .int (S.filled k)))
  id : G ai = some (.lst (fnL S.n fun k => .int (S.idle k)))
  tk : G at_ = some (.lst (fnL S.m fun i => .bl (S.taken i)))
  n1 : af ≠ ai
  n2 : af ≠ at_
  n3 : ai ≠ at_
  zn : S.n ≤ 1000
  zm : S.m ≤ 1000
end DL
set_option Elab.async false
set_option linter.all false
set_option maxRecDepth 100000
set_option maxHeartbeats 4000000
namespace DL
open PySem PySem.Spec PyProof.Rows L2 LN
theorem LnA.mono {G G' : Gp} {x dx af ai at_ : Addr} {S : LN.LS} (L : LnA G x dx af ai at_ S) (h : ∀ a o, G a = some o → G' a = some o) : LnA G' x dx af ai at_ S := ⟨h _ _ L.ob, h _ _ L.fi, h _ _ L.id, h _ _ L.tk, L.n1, L.n2, L.n3, L.zn, L.zm⟩
end DL
set_option Elab.async false
set_option linter.all false
set_option maxRecDepth 100000
set_option maxHeartbeats 4000000
namespace DL
open PySem PySem.Spec PyProof.Rows L2 LN
end DL
set_option Elab.async false
set_option linter.all false
set_option maxRecDepth 100000
set_option maxHeartbeats 4000000
namespace DL
open PySem PySem.Spec PyProof.Rows L2 LN
end DL
set_option Elab.async false
set_option linter.all false
set_option maxRecDepth 100000
set_option maxHeartbeats 4000000
namespace DL
open PySem PySem.Spec PyProof.Rows L2 LN
end DL
set_option Elab.async false
set_option linter.all false
set_option maxRecDepth 100000
set_option maxHeartbeats 4000000
namespace DL
open PySem PySem.Spec PyProof.Rows L2
mutual
def frzD (G : Gp) : D → Option D
  | .ref a => match G a with
    | some (.lst es) => if plainDs es = true then some (.lst es) else none
    | _ => none
  | .lst ds => (frzDs G ds).map .lst
  | .tup ds => (frzDs G ds).map .tup
  | .dct ks ds => (frzDs G ds).map (.dct ks)
  | .non => some .non
  | .bl b => some (.bl b)
  | .int b => some (.int b)
  | .str b => some (.str b)
  | .ty b => some (.ty b)
  | .cl b => some (.cl b)
  | .exc _ _ _ _ => none
  | .scr b => some (.scr b)
def frzDs (G : Gp) : List D → Option (List D)
  | [] => some []
  | d :: ds => match frzD G d, frzDs G ds with
    | some a, some r => some (a :: r)
    | _, _ => none
end
mutual
def flatT : D → Bool
  | .non => true
  | .bl _ => true
  | .int _ => true
  | .str _ => true
  | .tup ds => flatTs ds
  | _ => false
def flatTs : List D → Bool
  | [] => true
  | d :: ds => flatT d && flatTs ds
end
mutual
def resT : D → Bool
  | .non => true
  | .bl _ => true
  | .int _ => true
  | .str _ => true
  | .ref _ => true
  | .tup ds => resTs ds
  | _ => false
def resTs : List D → Bool
  | [] => true
  | d :: ds => resT d && resTs ds
end
def flatO : GO → Bool
  | .lst ds => flatTs ds
  | _ => false
def gmerge (G G' : Gp) : Gp := fun a => match G' a with
  | some o => some o
  | none => G a
@[simp] theorem gmerge_none {G : Gp} : gmerge G (fun _ => none) = G := rfl
@[simp] theorem gmerge_put {G G' : Gp} {a : Addr} {o : GO} : gmerge G (gput G' a o) = gput (gmerge G G') a o := by
  funext b
  unfold gmerge
  by_cases h : b = a
  · subst h; rw [gput_same, gput_same]
  · rw [gput_ne h, gput_ne h]
@[simp] def eCallB (F : Sf) (ea : EA) : EE := fun s G Q => ea s G fun ds G1 => match frzDs G1 ds with
  | some ds' => F ds' (fun _ => none) fun d G' => resT d = true ∧ (∀ a o, G' a = some o → flatO o = true) ∧ ((∀ a o, G' a = some o → G1 a = none) → Q d (gmerge G1 G'))
  | none => False
section
variable {K : PySem.W.Frag} {P : Addr → Prop} {G : Gp} {H : Hp}
mutual
theorem Rep.bare (w : Wo K P G H) : ∀ {d : D} {v : V}, plainD d = true → Rep K H G P d v → Rep K H (fun _ => none) P d v
  | .non, _, _, h => by unfold Rep at h ⊢; exact h
  | .bl _, _, _, h => by unfold Rep at h ⊢; exact h
  | .int _, _, _, h => by unfold Rep at h ⊢; exact h
  | .str _, _, _, h => by unfold Rep at h ⊢; exact h
  | .ty _, _, _, h => by unfold Rep at h ⊢; exact h
  | .cl _, _, _, h => by unfold Rep at h ⊢; exact h
  | .ref a, _, q, h => by simp [plainD] at q
  | .exc a dd f e, _, q, h => by simp [plainD] at q
  | .scr ns, _, _, h => by
    unfold Rep at h ⊢
    obtain ⟨a, rfl, z, ⟨⟨o, h⟩, g⟩ | ⟨h, g, pp⟩ | h⟩ := h
    · exact ⟨a, rfl, z, .inl ⟨⟨o, h⟩, rfl⟩⟩
    · exact ⟨a, rfl, z, .inr (.inl ⟨h, rfl, pp⟩)⟩
    · exact ⟨a, rfl, z, .inr (.inr h)⟩
  | .lst ds, _, q, h => by
    unfold Rep at h ⊢
    obtain ⟨a, xs, rfl, g, p, r, z, t⟩ := h
    simp only [plainD] at q
    exact ⟨a, xs, rfl, rfl, p, r, z, Reps.bare w q t⟩
  | .tup ds, _, q, h => by
    unfold Rep at h ⊢
    obtain ⟨a, xs, rfl, g, p, r, z, t⟩ := h
    simp only [plainD] at q
    exact ⟨a, xs, rfl, rfl, p, r, z, Reps.bare w q t⟩
  | .dct ks ds, _, q, h => by
    unfold Rep at h ⊢
    obtain ⟨a, xs, rfl, g, p, r, z, t⟩ := h
    simp only [plainD] at q
    exact ⟨a, xs, rfl, rfl, p, r, z, Reps.bare w q t⟩
theorem Reps.bare (w : Wo K P G H) : ∀ {ds : List D} {vs : List V}, plainDs ds = true → Reps K H G P ds vs → Reps K H (fun _ => none) P ds vs
  | [], _, _, h => by unfold Reps at h ⊢; exact h
  | d :: ds, _, q, h => by
    unfold Reps at h ⊢
    obtain ⟨x, r, rfl, h1, h2⟩ := h
    simp only [plainDs, Bool.and_eq_true] at q
    exact ⟨x, r, rfl, Rep.bare w q.1 h1, Reps.bare w q.2 h2⟩
end
end
@[simp] theorem frzDs_nil {G : Gp} : frzDs G [] = some [] := by simp only [frzDs]
@[simp] theorem frzDs_cons {G : Gp} {d : D} {ds : List D} : frzDs G (d :: ds) = match frzD G d, frzDs G ds with
    | some a, some r => some (a :: r)
    | _, _ => none := by rw [frzDs]
@[simp] theorem frzD_int {G : Gp} {i : Int} : frzD G (.int i) = some (.int i) := by simp only [frzD]
@[simp] theorem frzD_bl {G : Gp} {i : Bool} : frzD G (.bl i) = some (.bl i) := by simp only [frzD]
@[simp] theorem frzD_str {G : Gp} {i : Str} : frzD G (.str i) = some (.str i) := by simp only [frzD]
@[simp] theorem frzD_non {G : Gp} : frzD G .non = some .non := by simp only [frzD]
@[simp] theorem frzD_tup {G : Gp} {ds : List D} : frzD G (.tup ds) = (frzDs G ds).map .tup := by rw [frzD]
end DL
set_option Elab.async false
set_option linter.all false
set_option maxRecDepth 100000
set_option maxHeartbeats 4000000
namespace DL
open PySem PySem.Spec PyProof.Rows L2
section
variable {X : Cx} {K : PySem.W.Frag} {P : Addr → Prop} {G : Gp} {H : Hp} {tg : Expr}
/-- what is walked: a tuple -/
@[simp] def iT (t : EE) : EI := fun s G Q => t s G fun x G1 => match x with
  | .tup ds => Q ds (fun _ => True) G1
  | _ => False
theorem ji_tup {l : Expr} {el : EE} (hl : JE X l el) : JI X tg l (iT el) := ⟨pi_tup hl.pe, fun P s G Q σ H R h r k => by
  refine hl.le P s G _ σ H _ h r fun x G1 u H1 s1 w1 r1 h1 => ?_
  split at h1
  · rename_i ds
    obtain ⟨a, xs, rfl, g, p, rr, z, q⟩ := rep_t r1
    refine ⟨a, rfl, ⟨xs, SqT.of rr⟩, k ds _ G1 _ H1 s1 w1 ⟨z, fun P' G2 H2 i hP st w kp => ?_⟩ h1⟩
    have q2 : Reps X.K H2 G2 P' ds xs := Reps.mono st hP q
    have rr2 := (st.keep a _ rr g).1
    refine ⟨fun d hd => ?_, fun hi => ⟨xs, SqT.of rr2, by rw [← q2.length]; exact hi⟩⟩
    obtain ⟨v, e1, r1⟩ := q2.get hd
    refine ⟨⟨xs, v, SqT.of rr2, e1⟩, fun y H' hy => ?_⟩
    obtain ⟨rfl, f⟩ := hy
    have := f xs (SqT.of rr2)
    rw [e1] at this
    cases this
    exact ⟨Step.refl _ _, w, r1⟩
  · exact h1.elim⟩
/-- xs.pop(i) -/
@[simp] def mPopAt : MD := fun x xs G Q => match x, xs with
  | .ref p, [.int i] => (match G p with
    | some (.lst ds) => 0 ≤ i ∧ i < 2 ^ 62 ∧ (match ds[i.toNat]? with
      | some d => Q d (gput G p (.lst (ds.eraseIdx i.toNat)))
      | none => False)
    | _ => False)
  | _, _ => False
end
end DL
set_option Elab.async false
set_option linter.all false
set_option maxRecDepth 100000
set_option maxHeartbeats 4000000
namespace DL
open PySem PySem.Spec PyProof.Rows L2 LN
end DL
set_option Elab.async false
set_option linter.all false
set_option maxRecDepth 100000
set_option maxHeartbeats 4000000
namespace DL
open PySem PySem.Spec PyProof.Rows L2 LN
theorem bk_split {bk : List Stretch} {i : Nat} (h : i < bk.length) : bk = bk.take i ++ st bk i :: bk.drop (i + 1) := by
  have e : bk.drop i = st bk i :: bk.drop (i + 1) := by
    rw [List.drop_eq_getElem_cons h]
    congr 1
    unfold st
    rw [List.getD_eq_getElem?_getD, List.getElem?_eq_getElem h]; rfl
  rw [← e, List.take_append_drop]
end DL
set_option Elab.async false
set_option linter.all false
set_option maxRecDepth 100000
set_option maxHeartbeats 4000000
namespace DL
open PySem PySem.Spec PyProof.Rows L2 LN
end DL
set_option Elab.async false
set_option linter.all false
set_option maxRecDepth 100000
set_option maxHeartbeats 4000000
namespace DL
open PySem PySem.Spec PyProof.Rows L2 LN
end DL
set_option Elab.async false
set_option linter.all false
set_option maxRecDepth 100000
set_option maxHeartbeats 4000000
namespace DL
open PySem PySem.Spec PyProof.Rows L2
def sqP : PyData → Option (List PyData)
  | .list xs => some xs
  | .tuple xs => some xs
  | _ => none
variable {K : PySem.W.Frag}
/-- x in xs, of any data -/
@[simp] def oInD (neg : Bool) : OD := fun x y G Q => match toPy G x, toPy G y with
  | some a, some b => match sqP b with
    | some ds => SeqAt.shaped a = true ∧ a.depth ≤ 60 ∧ SeqAt.shaped b = true ∧ Q (.bl (if neg then !(ds.any fun z => PyData.eqv z a) else ds.any fun z => PyData.eqv z a)) G
    | none => False
  | _, _ => False
@[simp] theorem sqP_list {xs : List PyData} : sqP (.list xs) = some xs := rfl
@[simp] theorem sqP_tuple {xs : List PyData} : sqP (.tuple xs) = some xs := rfl
end DL
set_option Elab.async false
set_option linter.all false
set_option maxRecDepth 100000
set_option maxHeartbeats 4000000
namespace DL
open PySem PySem.Spec PyProof.Rows L2 LN
end DL
set_option Elab.async false
set_option linter.all false
set_option maxRecDepth 100000
set_option maxHeartbeats 4000000
namespace DL
open PySem PySem.Spec PyProof.Rows L2 LN
end DL
set_option Elab.async false
set_option linter.all false
set_option maxRecDepth 100000
set_option maxHeartbeats 4000000
namespace DL
open PySem PySem.Spec PyProof.Rows L2
/-- sorted(xs, reverse=True) of ints -/
@[simp] def eSrtR (te td : EE) : EE := fun s G Q => te s G fun x G1 => td s G1 fun d G2 => match d with
  | .bl true => (match (lkL G2 x).bind intsD with
    | some ns => ∀ ms : List Int, ms.Perm ns → ms.Pairwise (· ≥ ·) → Q (.lst (ms.map D.int)) G2
    | none => False)
  | _ => False
end DL
set_option Elab.async false
set_option linter.all false
set_option maxRecDepth 100000
set_option maxHeartbeats 4000000
namespace DL
open PySem PySem.Spec PyProof.Rows L2 LN
end DL
set_option Elab.async false
set_option linter.all false
set_option maxRecDepth 100000
set_option maxHeartbeats 4000000
namespace DL
open PySem PySem.Spec PyProof.Rows L2 LN
end DL
set_option Elab.async false
set_option linter.all false
set_option maxRecDepth 100000
set_option maxHeartbeats 4000000
namespace DL
open PySem PySem.Spec PyProof.Rows L2 LN
abbrev F__law_whole : Sf := F_is_whole
def r__law_whole : ES :=
  (sRet (eAndT (eCB cIsi (eCons (eVar 0) (eCons (eC (.ty "int")) eNil))) (eNotT (eCB cIsi (eCons (eVar 0) (eCons (eC (.ty "bool")) eNil))))))
theorem d__law_whole (ds : List D) (G : Gp) (Q : DK) (h : F__law_whole ds G Q) : r__law_whole (fin G Q) (startD 1 ds) G := d_is_whole ds G Q h
end DL
set_option Elab.async false
set_option linter.all false
set_option maxRecDepth 100000
set_option maxHeartbeats 4000000
namespace DL
open PySem PySem.Spec PyProof.Rows L2 LN
end DL
set_option Elab.async false
set_option linter.all false
set_option maxRecDepth 100000
set_option maxHeartbeats 4000000
namespace DL
open PySem PySem.Spec PyProof.Rows L2 LN
end DL
set_option Elab.async false
set_option linter.all false
set_option maxRecDepth 100000
set_option maxHeartbeats 4000000
namespace DL
open PySem PySem.Spec PyProof.Rows L2
section
variable {X : Cx} {K : PySem.W.Frag} {a b : Expr} {ea eb : EE} {pos : Pos}
@[simp] def oRepO : OD := fun x y G Q => match lkL G x, y with
  | some ds, .int k => (∀ ns, x ≠ .scr ns) ∧ -(2 ^ 63) ≤ k ∧ k < 2 ^ 63 ∧ ds.length * k.toNat ≤ sizeLine ∧ ∀ p, G p = none → Q (.ref p) (gput G p (.lst (List.replicate k.toNat ds).flatten))
  | _, _ => False
/-- list(d): its keys, ints; frozen -/
@[simp] def cListDI : CD := fun xs G Q => match xs with
  | [x] => (match (lkD G x).bind fun p => intKs p.1 with
    | some ns => ns.length ≤ 1000 ∧ Q (.lst (ns.map D.int)) G
    | none => False)
  | _ => False
/-- a, b = e, e's value a list -/
@[simp] def sAsgL (te : EE) (is : List Nat) : ES := fun N s G => te s G fun d G1 => match lkL G1 d with
  | some ds => (match setAll s is ds with
    | some s' => N.nx s' G1
    | none => False)
  | none => False
end
end DL
set_option Elab.async false
set_option linter.all false
set_option maxRecDepth 100000
set_option maxHeartbeats 4000000
namespace L2
open PySem PySem.Spec PyProof.Rows
def rNeNil (K : PySem.W.Frag) : R2 := fun x y H Q => ∃ a b xs, x = .ref a ∧ y = .ref b ∧ SqL K H a xs ∧ SqL K H b [] ∧ Q (.bl (!xs.isEmpty)) H
theorem op_neNil {X : Cx} (hu : X.A.units + 64 < cLine) : OpR X (compareOp .NotEq) (rNeNil X.K) := by
  intro pins s σ H x y v u Q I rx ry h
  obtain ⟨a, b, xs, rfl, rfl, h1, h2, q⟩ := h
  obtain rfl : v = Value.ref a := rx
  obtain rfl : u = Value.ref b := ry
  obtain ⟨its, rv, pl, hz⟩ := I.list h1
  obtain ⟨its2, rv2, pl2, hz2⟩ := I.list h2
  have hl : s.heap.IsList a its.toArray := by
    obtain ⟨o, m, e, c, d, q⟩ := pl
    exact ⟨o, e, c, m, q⟩
  have hl2 : s.heap.IsList b its2.toArray := by
    obtain ⟨o, m, e, c, d, q⟩ := pl2
    exact ⟨o, e, c, m, q⟩
  have n2 : its2.length = 0 := by rw [← rv2.length]; rfl
  cases xs with
  | nil =>
    have n1 : its.length = 0 := by rw [← rv.length]; rfl
    refine SeqAt.RcNeAt.lists (e := fun _ => true) hl hl2 (by simp [n1, n2]) (by omega) (fun j h1 h2 => by simp [n1] at h1) X.prog X.w _ _ ?_
    exact ⟨.bl _, H, I, by simp [n1]; rfl, q⟩
  | cons x xs =>
    have n1 : its.length = xs.length + 1 := by rw [← rv.length]; rfl
    refine SeqAt.RcNeAt.lists_lengths hl hl2 (by simp [n1, n2]) (by omega) X.prog X.w _ _ ?_
    exact ⟨.bl _, H, I, rfl, q⟩
end L2
namespace DL
open PySem PySem.Spec PyProof.Rows L2
@[simp] def oNeNil : OD := fun x y G Q => match lkL G x, lkL G y with
  | some ds, some [] => Q (.bl (!ds.isEmpty)) G
  | _, _ => False
theorem lo_neNil {K : PySem.W.Frag} : LO K (rNeNil K) oNeNil := fun P G H x y u v Q R h w rx ry k => by
  unfold oNeNil at h
  split at h
  · rename_i ds e1 e2
    obtain ⟨a, xs, rfl, r1, q1, z1⟩ := lk_sq w rx e1
    obtain ⟨b, ys, rfl, r2, q2, z2⟩ := lk_sq w ry e2
    have : ys = [] := by cases ys with
      | nil => rfl
      | cons y ys => have := q2.length; simp at this
    subst this
    have e : xs.isEmpty = ds.isEmpty := by
      have := q1.length
      cases ds <;> cases xs <;> simp at this ⊢
    exact ⟨a, b, xs, rfl, rfl, r1, r2, by rw [e]; exact k _ G _ H (Step.refl _ _) w rep_bl h⟩
  · exact h.elim
end DL
set_option Elab.async false
set_option linter.all false
set_option maxRecDepth 100000
set_option maxHeartbeats 4000000
namespace L2
open PySem PySem.Spec PyProof.Rows
end L2
namespace DL
open PySem PySem.Spec PyProof.Rows L2
section
variable {K : PySem.W.Frag}
@[simp] def cListX : CD := fun xs G Q => match xs with
  | [.str z] => z.length ≤ sizeLine ∧ Q (.lst (sgnD z)) G
  | _ => False
@[simp] def cTupX : CD := fun xs G Q => match xs with
  | [.str z] => z.length ≤ sizeLine ∧ Q (.tup (sgnD z)) G
  | _ => False
end
end DL
set_option Elab.async false
set_option linter.all false
set_option maxRecDepth 100000
set_option maxHeartbeats 4000000
namespace DL
open PySem PySem.Spec PyProof.Rows L2
/-- as FnOk, where no repr is under way -/
structure FnG (P : Program) (w : World) (K : PySem.W.Frag) (mg : Str → Option Value) (base : Heap) (k : Nat) (f : Addr) (fd : FuncData) (ps : List Str) (sp : Sp) : Prop where
  ln : ∀ vs H Q E, sp vs H Q E → vs.length = ps.length
  go : ∀ (A : Around) (l : List Env) (s : Shared) (H : Hp) (ar : Args) (us : List Value) (vs : List V) (Q : VK) (E : XK), Room k A → A.guards = some [] → Env0 P w K mg base A l s H → BindsTo s fd ar (ps.zip us) → Vals vs us → sp vs H Q E → codeAny (model P w) A (.call (.ref f) ar) (CR CX0 l P w H s Q E) s
theorem fnG_ok {P : Program} {w : World} {K : PySem.W.Frag} {mg : Str → Option Value} {base : Heap} {x qual : Str} {params : Arguments} {body : List Stmt} {scope : Scope} {kws : List (Str × V)} {dvs : List V} {f : Addr} {fd : FuncData} {N ps : List Str} {k : Nat} {sp : Sp}
    (FF : FunD K x qual params body scope dvs kws f fd) (S : FnScope N ps scope) (ln : ∀ vs H Q E, sp vs H Q E → vs.length = ps.length)
    (hb : ∀ (cdv : Value) (A : Around) (l : List Env) (s : Shared) (H : Hp) (vs : List V) (Q : VK) (E : XK), Room k (A.deeper (envOfC qual scope s.heap.objs.size f cdv)) → A.guards = some [] → sp vs H Q E → ∃ t, PSs (cxOf CX0 P w K mg base N qual scope f cdv A l s H E) body t ∧ t { nx := fun _ H' => Q .non H', rt := Q } (L2.start N vs) H) :
    FnG P w K mg base (k + 1) f fd ps sp := by
  obtain ⟨oc, od, dV, kV, doc, pm, an, cdv, ct, osl, rfl, lk, hcd, _, _⟩ := FF.ex
  refine ⟨ln, fun A l s H ar us vs Q E room gd e0 bt rel hs => ?_⟩
  have hl := ln _ _ _ _ hs
  have kin := e0.mod.kin.keeps fun b o e => (e0.bs b o e).1
  have lim := e0.mod.nolimit.keeps fun b o e => (e0.bs b o e).1
  refine codeAny_call_function room.depth (kin _ _ lk) rfl S.co S.gen rfl (PySem.W.codeRec_of kin hcd) (bt _ _ _ _ ?_)
  refine wpAny_newFunctionEnv_cells S.kind (fun y hy => ?_) fun env he s1 ic => ?_
  · rcases S.par y.1 (List.of_mem_zip (a := y.1) (b := y.2) hy).1 with q | q
    · exact .inl q
    · exact .inr ⟨q, PySem.W.cellsFrom_some _ _ _ (.inl q)⟩
  subst he
  obtain ⟨t, pt, tq⟩ := hb cdv A l s H vs Q E (room.deeper _) gd hs
  refine ⟨lim.keeps ic.toInCall.keep, codeAny_func (wpAny_mono (pt.run [] s1 (L2.start N vs) H _ (inv_start S room.hd e0 hl rel ic) tq) (fun fl s' out => ?_) fun _ _ z => z)⟩
  cases fl with
  | ret u => exact let ⟨v, _, H', J, rv, q⟩ := out; ⟨v, H', J.os, J.bare, J.base, J.hok, rv, q⟩
  | next => exact let ⟨_, H', J, q⟩ := out; ⟨V.non, H', J.os, J.bare, J.base, J.hok, rfl, q⟩
  | brk => exact let ⟨_, _, _, q⟩ := out; q.elim
  | cont => exact let ⟨_, _, _, q⟩ := out; q.elim
abbrev FKG (P : Program) (w : World) (K : PySem.W.Frag) (mg : Str → Option Value) (base : Heap) (k : Nat) (f : Addr) (fd : FuncData) (ps : List Str) (F : Sf) : Prop := FnG P w K mg base k f fd ps (Lf K ps.length F)
/-- the rule for such a def -/
theorem fkG_ok {P : Program} {w : World} {K : PySem.W.Frag} {mg : Str → Option Value} {base : Heap} {x qual : Str} {params : Arguments} {body : List Stmt} {scope : Scope} {kws : List (Str × V)} {dvs : List V} {f : Addr} {fd : FuncData} {N ps : List Str} {k : Nat} {F : Sf} {es : ES}
    (FF : FunD K x qual params body scope dvs kws f fd) (S : FnScope N ps scope)
    (hJ : ∀ (cdv : Value) (A : Around) (outer : List Env) (s : Shared) (H : Hp) (E : XK), Room k (A.deeper (envOfC qual scope s.heap.objs.size f cdv)) → A.guards = some [] → JSs (cxOf CX0 P w K mg base N qual scope f cdv A outer s H E).nox y0 body es)
    (hR : ∀ ds G Q, F ds G Q → es (fin G Q) (startD N.length ds) G) : FKG P w K mg base (k + 1) f fd ps F := by
  refine fnG_ok FF S (fun vs H Q E h => h.1) fun cdv A outer s H vs Q E hr gd h => ?_
  obtain ⟨_, P', ds, G, Q', wo, r, hf, kk⟩ := h
  have j := hJ cdv A outer s H E hr gd
  refine ⟨_, PSs.nox j.ps, j.ls P' (startD N.length ds) G (fin G Q') (L2.start N vs) H _ (hR ds G Q' hf) (rl_start wo r) ⟨fun s' G' σ' H' st rl hq => ?_, fun d G' v H' st w' rp hq => ?_, fun _ _ _ _ _ _ hq => hq.elim, fun _ _ _ _ _ _ hq => hq.elim, fun _ _ _ _ _ _ _ _ _ _ hq => hq.elim⟩⟩
  · obtain ⟨d2, G2, fz, q2⟩ := hq
    obtain ⟨b1, b2, b3⟩ := fz K P' H H' .non wo st rl.wo rep_non
    exact kk d2 G2 .non H' b1 b2 b3 q2
  · obtain ⟨d2, G2, fz, q2⟩ := hq
    obtain ⟨b1, b2, b3⟩ := fz K P' H H' v wo st w' rp
    exact kk d2 G2 v H' b1 b2 b3 q2
structure CalG (P : Program) (w : World) (K : PySem.W.Frag) (mg : Str → Option Value) (base : Heap) (k : Nat) (x : Str) (ps : List Str) (F : Sf) : Prop where
  ex : ∃ f fd, FKG P w K mg base k f fd ps F ∧ mg x = some (.ref f) ∧ PySem.W.keepIn K (.ref f) = true ∧ Binds K fd ps []
theorem calG_ok {P : Program} {w : World} {K : PySem.W.Frag} {mg : Str → Option Value} {base : Heap} {x : Str} {st : Stmt} {N ps : List Str} {k : Nat} {F : Sf} {es : ES} (D : Df K mg x st) (S : FnScope N ps (defScope st))
    (hb : ∀ (kV doc pm : Value) (an : Option Addr) (cdv ct : Value) (us : List Value), us.length = ps.length → bindArgs (PySem.W.fnOf x x (defArgs st) (defBody st) (defScope st) .none kV doc pm an cdv ct) ⟨us, []⟩ = pure (ps.zip us))
    (hJ : ∀ (f : Addr) (cdv : Value) (A : Around) (outer : List Env) (s : Shared) (H : Hp) (E : XK), Room k (A.deeper (envOfC x (defScope st) s.heap.objs.size f cdv)) → A.guards = some [] → JSs (cxOf CX0 P w K mg base N x (defScope st) f cdv A outer s H E).nox y0 (defBody st) es)
    (hR : ∀ ds G Q, F ds G Q → es (fin G Q) (startD N.length ds) G) : CalG P w K mg base (k + 1) x ps F := by
  obtain ⟨f, fd, h1, h2⟩ := D.ex
  exact ⟨f, fd, fkG_ok h1 S (hJ f) hR, h2, h1.kp, h1.bindsN hb⟩
section
variable {X : Cx}
/-- the callee runs -/
theorem pe_callG {k : Nat} {f : Addr} {fd : FuncData} {ps : List Str} {sp : Sp} {x : Str} {p pos : Pos} {e : Expr} {es : List Expr} {t : TA} (F : FnG X.prog X.w X.K X.mg X.base k f fd ps sp) (room : Room k X.A) (gd : X.A.guards = some []) (hg : Gl X x) (hm : X.mg x = some (.ref f))
    (hk : PySem.W.keepIn X.K (.ref f) = true) (hb : Binds X.K fd ps []) (ha : PA X (e :: es) t) (hdb : (x == ("__debug__" : Str)) = false := by decide) (he : starEach (e :: es) X.env = (false, eval e X.env) :: starEach es X.env := by rfl) (hpl : (backTo pos (starEach es X.env)).any (·.1) = false := by rfl) :
    PE X (.Call (.Name x p) (e :: es) [] pos) (tCall sp [] (fun _ _ _ => False) t) := by
  refine ⟨fun pins s σ H Q I h => wpAny_Call_Name_kw (ld_glob I hg hm ?_ hdb)⟩
  refine PySem.W.callWith_K (h₀ := X.base) I.ok.mod.kin hk (thn (ha.run pos pins s σ H _ I h) fun us s1 z => ⟨z.choose_spec.choose_spec.1.kIn, ?_⟩) he hpl
  obtain ⟨vs, H1, I1, r, q⟩ := z
  rw [List.append_nil] at q
  have hl : us.length = ps.length := by rw [← r.length]; exact F.ln _ _ _ _ q
  have bt := hb s1 us I1.kIn (by rw [List.append_nil]; exact hl)
  rw [List.append_nil] at bt
  refine wpAny_call (codeAny_mono (F.go X.A X.stack s1 H1 ⟨us, []⟩ us vs Q _ room gd I1.env0 bt r q) fun fl s' out => ?_)
  cases fl with
  | error e => exact pass0 pins σ H1 s1 e s' I1 out
  | ok fl =>
    cases fl with
    | ret u => exact I1.after out
    | next => exact out.elim
    | brk => exact out.elim
    | cont => exact out.elim
theorem j_calG {K : PySem.W.Frag} {k : Nat} {ps : List Str} {F : Sf} {x : Str} {p pos : Pos} {e : Expr} {es : List Expr} {ea : EA} (c : CalG X.prog X.w K X.mg X.base k x ps F) (hr : Room k X.A) (gd : X.A.guards = some []) (hg : Gl X x)
    (ha : JA X (e :: es) ea) (hK : X.K = K := by rfl) (hlen : (e :: es).length = ps.length := by rfl) (hdb : (x == ("__debug__" : Str)) = false := by decide) (he : starEach (e :: es) X.env = (false, eval e X.env) :: starEach es X.env := by rfl) (hpl : (backTo pos (starEach es X.env)).any (·.1) = false := by rfl) : JE X (.Call (.Name x p) (e :: es) [] pos) (eCall F ea) := by
  subst hK
  obtain ⟨f, fd, h1, h2, h3, h4⟩ := c.ex
  exact ⟨pe_callG h1 hr gd hg h2 h3 h4 ha.pa hdb he hpl, le_call (t := upA X.K (e :: es).length ea) (hlen ▸ ha.la)⟩
end
/-- what the law's call leaves -/
def Good (s₁ : Shared) (r : Result) (s' : Shared) : Prop := r = .ok (.ret (.bool true)) ∧ OldK s₁.heap s'.heap ∧ s'.os = s₁.os ∧ AllBare s'.gens
section
variable {P : Program} {w : World} {K : PySem.W.Frag} {mg mb : Str → Option Value} {k : Nat} {fa a : Addr} {fd : FuncData} {x : Str} {F : Sf} {s₁ : Shared} {vs : List Value} {ns : List Int}
/-- from an abstract heap that tracks at most the script -/
theorem lawG_at {H : Hp} (KX : K.In s₁.heap) (hns : s₁.heap.Ns mainGlobals mg) (hb : s₁.heap.Ns builtinsNs mb) (hbb : ∀ x : Str, x ≠ "__name__" → mb x = bootBuiltins x) (hlim : s₁.heap.NoLimit) (hsy : ∃ m, s₁.heap.Ns sysModules m) (hg : s₁.gens = #[])
    (ha : s₁.heap.get? a = some { cls := .type "list", data := .seq vs.toArray }) (room : Room k callerA) (hF : ∀ base : Heap, K.In base → base.Ns mainGlobals mg → (∃ m, base.Ns sysModules m) → FKG P w K mg base k fa fd [x] F) (hbind : ∀ (s : Shared) (u : Value), BindsTo s fd ⟨[u], []⟩ [(x, u)])
    (hsp : Lf K 1 F [.ref a] H (fun v _ => v = .bl true) fun _ _ _ => False) (hO : Only H) (hok : HOk P w H s₁.heap) (hA : ∀ b, H b ≠ none → b = a) (hK : H a ≠ none → K.lookup a = none) : codeAny (model P w) callerA (.call (.ref fa) ⟨[.ref a], []⟩) (Good s₁) s₁ := by
  have un : ∀ {b : Addr} {u : HO}, H b = some u → b = a ∧ K.lookup a = none := fun {b u} q => by
    have e := hA b (by rw [q]; simp)
    subst e
    exact ⟨rfl, hK (by rw [q]; simp)⟩
  have free : ∀ {b : Addr}, (b ≠ a ∨ K.lookup a ≠ none) → H b = none := fun {b} h => by
    cases q : H b with
    | none => rfl
    | some u => exact h.elim (fun z => absurd (un q).1 z) fun z => absurd (un q).2 z
  have nsk : ∀ {b : Addr} {m : Str → Option Value}, s₁.heap.Ns b m → (hidT s₁.heap H).Ns b m := fun {b m} z => by
    obtain ⟨o, es, ep, e, d, r⟩ := z
    refine ⟨o, es, ep, hidT_get e (free (.inl fun q => ?_)), d, r⟩
    subst q
    rw [ha] at e
    cases e
    exact nomatch d
  have kb : K.In (hidT s₁.heap H) := fun b o e => hidT_get (KX b o e) (by
    by_cases q : b = a
    · subst q; exact free (.inr (by rw [e]; simp))
    · exact free (.inl q))
  have e0 : Env0 P w K mg (hidT s₁.heap H) callerA [] s₁ H := ⟨rfl, ⟨kb, nsk hns, ⟨mb, nsk hb, hbb⟩, let ⟨mc, h1, h2⟩ := hlim; ⟨mc, nsk h1, h2⟩⟩, fun b o e => of_hidT e, Nat.le_of_eq (hidT_size _ _), trivial, fun b z => (nomatch (show b ∈ ([] : List Addr) from z)), hok, .of_eq hg⟩
  refine codeAny_mono ((hF _ kb (nsk hns) (let ⟨m, h⟩ := hsy; ⟨m, nsk h⟩)).go callerA [] s₁ H ⟨[.ref a], []⟩ [.ref a] [.ref a] _ _ room rfl e0 (hbind s₁ (.ref a)) (.cons rfl .nil) hsp) fun r s' out => ?_
  cases r with
  | error e => exact out.elim
  | ok fl =>
    cases fl with
    | next => exact out.elim
    | brk => exact out.elim
    | cont => exact out.elim
    | ret u =>
      obtain ⟨v, H', os, bare, grown, hok', rv, ev⟩ := out
      have ev' : v = .bl true := ev
      subst ev'
      obtain rfl : u = Value.bool true := rv
      refine ⟨rfl, OldK.of_keep fun b o e => ?_, os, bare⟩
      rcases hO b with z | ⟨ob, xs, z⟩
      · exact grown.keep b o e z (fun q => nomatch (show b ∈ ([] : List Addr) from q)) (by simp)
      · have g1 := (hok b _ z).1
        rw [e] at g1
        cases g1
        exact (hok' b _ (grown.frzs b o _ z)).1
theorem lawG (KX : K.In s₁.heap) (hns : s₁.heap.Ns mainGlobals mg) (hb : s₁.heap.Ns builtinsNs mb) (hbb : ∀ x : Str, x ≠ "__name__" → mb x = bootBuiltins x) (hlim : s₁.heap.NoLimit) (hsy : ∃ m, s₁.heap.Ns sysModules m) (hg : s₁.gens = #[])
    (ha : s₁.heap.get? a = some { cls := .type "list", data := .seq vs.toArray }) (hi : IntsAre vs ns) (hl : ns.length ≤ sizeLine) (room : Room k callerA) (hF : ∀ base : Heap, K.In base → base.Ns mainGlobals mg → (∃ m, base.Ns sysModules m) → FKG P w K mg base k fa fd [x] F) (hbind : ∀ (s : Shared) (u : Value), BindsTo s fd ⟨[u], []⟩ [(x, u)])
    (hsp : ∀ H : Hp, Only H → SqL K H a (ns.map V.int) → Lf K 1 F [.ref a] H (fun v _ => v = .bl true) fun _ _ _ => False) : codeAny (model P w) callerA (.call (.ref fa) ⟨[.ref a], []⟩) (Good s₁) s₁ := by
  have rel := vals_ints hi
  cases hk : K.lookup a with
  | some o =>
    have e := KX a o hk
    rw [ha] at e
    cases e
    have hO : Only (fun _ => none) := fun _ => .inl rfl
    exact lawG_at KX hns hb hbb hlim hsy hg ha room hF hbind (hsp _ hO (.inr ⟨_, vs.toArray, _, hk, rfl, rfl, rfl, by rw [List.size_toArray, hi.length]; exact hl, by simpa using rel⟩)) hO (fun _ _ z => nomatch z) (fun _ z => absurd rfl z) fun z => absurd rfl z
  | none =>
    obtain ⟨H, hH⟩ : ∃ H : Hp, H = fun b => if b = a then some (.frz { cls := .type "list", data := .seq vs.toArray } (.lst (ns.map V.int))) else none := ⟨_, rfl⟩
    have at_ : H a = some (.frz { cls := .type "list", data := .seq vs.toArray } (.lst (ns.map V.int))) := by rw [hH]; exact if_pos rfl
    have no : ∀ b, b ≠ a → H b = none := fun b n => by rw [hH]; exact if_neg n
    have hO : Only H := fun b => by
      by_cases q : b = a
      · subst q; exact .inr ⟨_, _, at_⟩
      · exact .inl (no b q)
    refine lawG_at KX hns hb hbb hlim hsy hg ha room hF hbind (hsp H hO (.inl (.inr ⟨_, at_⟩))) hO (fun b u z => ?_) (fun b z => ?_) fun _ => hk
    · by_cases q : b = a
      · subst q
        rw [at_] at z
        cases z
        exact ⟨ha, by rw [List.length_map]; exact hl, vs, _, rel, ha⟩
      · rw [no b q] at z; cases z
    · by_cases q : b = a
      · exact q
      · exact absurd (no b q) z
end
/-- a law's end -/
theorem walkG {l : PySem.W.OpenLaw} {n k : Nat} {q : Program} {loose : List Str} {XP : (Str → Option Value) → Heap → Prop} {YP : World → Heap → Prop} {d : DefRec} {x : Str} (hn : l.most = some n) (hn2 : n ≤ sizeLine) (hdf : d.params.defaults = []) (room : Room k callerA)
    (F : ∀ (w : World) (mg : Str → Option Value) (fa : Addr) (h : Heap), YP w h → h.Ns mainGlobals mg → mg d.name = some (.ref fa) → ∃ (K : PySem.W.Frag) (fd : FuncData), K.In h ∧ (∀ (s : Shared) (u : Value), BindsTo s fd ⟨[u], []⟩ [(x, u)]) ∧
      ∀ base : Heap, K.In base → base.Ns mainGlobals mg → (∃ m, base.Ns sysModules m) → FKG l.prog w K mg base k fa fd [x] (lawF n)) (hi : importsNone q = true) : PySem.W.WalkO q loose XP YP l.row.toRowW d [] (fun f vs => PySem.call f vs) := by
  refine Att.attach_call hn hdf fun w s₀ s₁ mg mb fa o pm cd doc a vs ns G Y ho hd hcd hmg hobj hints hlen hg => ?_
  obtain ⟨K, fd, KX, hb, hF⟩ := F w mg fa _ Y G.T.g hmg
  exact lawG KX G.T.g G.T.b G.T.builtins G.T.nolimit (let ⟨m, h, _⟩ := (G.T.seer hi).mods; ⟨m, h⟩) hg hobj hints (Nat.le_trans hlen hn2) room hF hb fun H hO hS => law_sp hn2 hlen hO hS
end DL
set_option Elab.async false
set_option linter.all false
set_option maxRecDepth 100000
set_option maxHeartbeats 4000000
namespace L2
open PySem PySem.Spec PyProof.Rows PySem.W
end L2
namespace DL
open PySem PySem.Spec PyProof.Rows L2 PySem.W
@[simp] def cRepr : CD := fun xs G Q => match xs with
  | [x] => (match toPy G x with
    | some p => p.showable = true ∧ p.hasDict = false ∧ p.depth ≤ 40 ∧ p.shown.length ≤ sizeLine ∧ Q (.str p.shown) G
    | none => False)
  | _ => False
@[simp] def boxD : D → Bool
  | .lst _ => true
  | .tup _ => true
  | .ref _ => true
  | .scr _ => true
  | _ => false
@[simp] def cStrD : CD := fun xs G Q => match xs with
  | [.int i] => i.natAbs.log2 < 1920 ∧ Q (.str (toString i)) G
  | [.str z] => Q (.str z) G
  | [x] => boxD x = true ∧ (match toPy G x with
    | some p => p.showable = true ∧ p.hasDict = false ∧ p.depth ≤ 40 ∧ p.shown.length ≤ sizeLine ∧ Q (.str p.shown) G
    | none => False)
  | _ => False
@[simp] def cStrI : CD := fun xs G Q => match xs with
  | [.int i] => i.natAbs.log2 < 1920 ∧ Q (.str (toString i)) G
  | _ => False
def Asc (t : Str) : Prop := ∀ c ∈ t.cps.toList, c < 1114112
theorem asc_of (s : String) : Asc (Str.ofString s) := fun c hc => by
  rw [Str.ofString_eq_toList] at hc
  simp at hc
  obtain ⟨a, _, rfl⟩ := hc
  have := a.valid
  unfold UInt32.isValidChar Nat.isValidChar at this
  show a.val.toNat < _
  omega
theorem asc_app {a b : Str} (h : Asc a) (k : Asc b) : Asc (a ++ b) := fun c hc => by
  have e : (a ++ b).cps = a.cps ++ b.cps := rfl
  rw [e, Array.toList_append] at hc
  have this := hc
  rcases List.mem_append.mp this with q | q
  · exact h c q
  · exact k c q
theorem len_app (a b : Str) : (a ++ b).length = a.length + b.length := strLen_append a b
theorem asc_join {sep : Str} (hs : Asc sep) : ∀ {ts : List Str}, (∀ t ∈ ts, Asc t) → Asc (Str.join sep ts)
  | [], _ => fun c hc => by simp [Str.join, Str.empty] at hc
  | [x], h => h x List.mem_cons_self
  | x :: y :: r, h => asc_app (asc_app (h x List.mem_cons_self) hs) (asc_join hs fun t ht => h t (List.mem_cons_of_mem _ ht))
theorem asc_from : ∀ {ts : List Str} {k : Nat} {acc : Str}, Asc acc → (∀ t ∈ ts, Asc t) → Asc (textFrom k acc ts)
  | [], _, _, h, _ => h
  | t :: ts, k, acc, h, ht => asc_from (ts := ts) (k := k + 1) (acc := acc ++ (if k > 0 then ", " else "" : String) ++ t) (asc_app (asc_app h (asc_of _)) (ht t List.mem_cons_self)) fun u hu => ht u (List.mem_cons_of_mem _ hu)
structure Tx (n : Nat) (p : PyData) : Prop where
  sh : p.showable = true
  nd : p.hasDict = false
  asc : Asc p.shown
  len : p.shown.length ≤ n
theorem tx_none : Tx 4 .none := ⟨rfl, rfl, asc_of _, by decide⟩
theorem tx_bool (b : Bool) : Tx 5 (.bool b) := ⟨rfl, rfl, by cases b <;> exact asc_of _, by cases b <;> decide⟩
theorem log_small {n : Nat} (h : n < 10 ^ 60) : n.log2 < 1920 := by
  by_cases z : n = 0
  · subst z; decide
  · rw [Nat.log2_lt z]
    exact Nat.lt_trans h (by decide +kernel)
theorem tx_int {i : Int} (h : i.natAbs < 10 ^ 60) : Tx 61 (.int i) := by
  refine ⟨?_, rfl, asc_of _, ?_⟩
  · simp only [PyData.showable]
    exact decide_eq_true (log_small h)
  · have := int_text_length_le10 (a := i) (k := 60) (by decide) h
    simp only [PyData.shown]
    rw [PySem.ofString_length]
    exact this
theorem asc_char {q c : Nat} (hc : c < 1114112) : ∀ d ∈ Builtin.Str.reprChar q c, d < 1114112 := by
  have hx : ∀ w : Nat, ∀ d ∈ List.replicate (w - ((Nat.toDigits 16 c).map Char.toNat).length) 48 ++ (Nat.toDigits 16 c).map Char.toNat, d < 1114112 := fun w d hd => by
    rcases List.mem_append.mp hd with z | z
    · have := List.eq_of_mem_replicate z; omega
    · obtain ⟨a, _, rfl⟩ := List.mem_map.mp z
      have := a.valid
      unfold UInt32.isValidChar Nat.isValidChar at this
      show a.val.toNat < _
      omega
  intro d hd
  unfold Builtin.Str.reprChar at hd
  dsimp only at hd
  have two : ∀ a b : Nat, a < 1114112 → b < 1114112 → d ∈ [a, b] → d < 1114112 := fun a b ha hb h => by
    simp at h
    rcases h with rfl | rfl <;> assumption
  have app : ∀ (a b : Nat) (w : Nat), a < 1114112 → b < 1114112 → d ∈ [a, b] ++ (List.replicate (w - ((Nat.toDigits 16 c).map Char.toNat).length) 48 ++ (Nat.toDigits 16 c).map Char.toNat) → d < 1114112 := fun a b w ha hb h => by
    rcases List.mem_append.mp h with z | z
    · exact two a b ha hb z
    · exact hx w d z
  repeat' split at hd
  · exact two _ _ (by decide) hc hd
  · exact two _ _ (by decide) (by decide) hd
  · exact two _ _ (by decide) (by decide) hd
  · exact two _ _ (by decide) (by decide) hd
  · simp at hd; subst hd; exact hc
  · exact app _ _ _ (by decide) (by decide) hd
  · exact app _ _ _ (by decide) (by decide) hd
  · exact app _ _ _ (by decide) (by decide) hd
theorem asc_fold {q : Nat} : ∀ {l : List Nat} {acc : Array Nat}, (∀ c ∈ l, c < 1114112) → (∀ c ∈ acc.toList, c < 1114112) → ∀ c ∈ (l.foldl (fun out c => out ++ (Builtin.Str.reprChar q c).toArray) acc).toList, c < 1114112
  | [], _, _, h => h
  | x :: l, acc, hl, h => by
    rw [List.foldl_cons]
    refine asc_fold (fun c hc => hl c (List.mem_cons_of_mem _ hc)) fun c hc => ?_
    rw [Array.toList_append] at hc
    rcases List.mem_append.mp hc with z | z
    · exact h c z
    · exact asc_char (hl x List.mem_cons_self) c (by simpa using z)
theorem asc_repr {x : Str} (h : Asc x) : Asc (reprText x) := fun c hc => by
  have hq : reprQuote x < 1114112 := by unfold reprQuote; split <;> decide
  unfold reprText at hc
  rw [Array.toList_push, ← Array.foldl_toList] at hc
  rcases List.mem_append.mp hc with z | z
  · exact asc_fold h (by simpa using hq) c z
  · simp at z; subst z; exact hq
theorem tx_str {x : Str} {n : Nat} (h : Asc x) (hn : x.length ≤ n) : Tx (10 * n + 2) (.str x) := by
  refine ⟨rfl, rfl, asc_repr h, ?_⟩
  have := StrLaws.reprText_len x fun c hc => by have := h c hc; omega
  simp only [PyData.shown]
  omega
theorem shownAll_map : ∀ xs : List PyData, PyData.shownAll xs = xs.map PyData.shown
  | [] => rfl
  | x :: xs => by simp [PyData.shownAll, shownAll_map xs]
theorem showableAll_of : ∀ {xs : List PyData}, (∀ x ∈ xs, x.showable = true) → PyData.showableAll xs = true
  | [], _ => by simp [PyData.showableAll]
  | x :: xs, h => by simp [PyData.showableAll, h x List.mem_cons_self, showableAll_of fun y hy => h y (List.mem_cons_of_mem _ hy)]
theorem piled_le {n : Nat} : ∀ {ts : List Str}, (∀ t ∈ ts, t.length ≤ n) → piled ts ≤ ts.length * (n + 2)
  | [], _ => by simp [piled]
  | t :: ts, h => by
    rw [piled_cons, List.length_cons, Nat.succ_mul]
    have := h t List.mem_cons_self
    have := piled_le (ts := ts) fun y hy => h y (List.mem_cons_of_mem _ hy)
    omega
theorem listText_le : ∀ ts : List Str, (listText ts).length ≤ piled ts + 2
  | [] => by decide
  | t :: r => by
    unfold listText
    rw [len_app]
    have h := textFrom_length_pos r 1 (("[" : Str) ++ (if (0 : Nat) > 0 then ", " else "" : String) ++ t) (Nat.succ_pos 0)
    have e : ((("[" : Str) ++ (if (0 : Nat) > 0 then ", " else "" : String) ++ t)).length = 1 + t.length := by rw [len_app, len_app]; rfl
    show (textFrom 1 (("[" : Str) ++ (if (0 : Nat) > 0 then ", " else "" : String) ++ t) r).length + 1 ≤ _
    rw [h, e, piled_cons]
    omega
theorem tupleText_le (ts : List Str) : (tupleText ts).length ≤ piled ts + 4 := by
  unfold tupleText
  rw [len_app, len_app]
  have e1 : ((("(" : String) : Str)).length = 1 := rfl
  have e3 : (((if ts.length == 1 then ",)" else ")" : String) : Str)).length ≤ 2 := by split <;> decide
  have e2 : (Str.join ", " ts).length ≤ piled ts := by
    cases ts with
    | nil => decide
    | cons a b => have := join_length_add (a :: b) (by simp); omega
  omega
theorem Tx.mono {n m : Nat} {p : PyData} (h : Tx n p) (hm : n ≤ m) : Tx m p := ⟨h.sh, h.nd, h.asc, Nat.le_trans h.len hm⟩
end DL
set_option Elab.async false
set_option linter.all false
set_option maxRecDepth 100000
set_option maxHeartbeats 4000000
namespace L2
open PySem PySem.Spec PyProof.Rows PySem.W
def encK : Key → PyData
  | .inl i => .int i
  | .inr x => .str x
mutual
inductive DpX (K : PySem.W.Frag) (H : Hp) : V → PyData → Prop
  | non : DpX K H .non .none
  | bl (b : Bool) : DpX K H (.bl b) (.bool b)
  | int (i : Int) : DpX K H (.int i) (.int i)
  | str (x : Str) : DpX K H (.str x) (.str x)
  | lst {a : Addr} {xs : List V} {ds : List PyData} : SqL K H a xs → DpXs K H xs ds → DpX K H (.ref a) (.list ds)
  | tup {a : Addr} {xs : List V} {ds : List PyData} : SqT K H a xs → DpXs K H xs ds → DpX K H (.ref a) (.tuple ds)
  | dct {a : Addr} {kvs : List (Key × V)} {ds : List PyData} : H a = some (.dK kvs) → DpXs K H (kvs.map (·.2)) ds → DpX K H (.ref a) (.dict ((kvs.map fun p => encK p.1).zip ds))
inductive DpXs (K : PySem.W.Frag) (H : Hp) : List V → List PyData → Prop
  | nil : DpXs K H [] []
  | cons {v : V} {vs : List V} {d : PyData} {ds : List PyData} : DpX K H v d → DpXs K H vs ds → DpXs K H (v :: vs) (d :: ds)
end
section
variable {X : Cx} {pins : List (Addr × Obj)} {σ : L2.St} {H : Hp} {s : Shared}
theorem trk_ne (I : Inv X pins σ H s) (hsy : ∃ m, X.base.Ns sysModules m) {a : Addr} {o : HO} (h : H a = some o) : sysModules ≠ a := fun e => by
  subst e
  obtain ⟨m, o', es, ep, e1, _⟩ := hsy
  have := (I.bs _ _ e1).2
  rw [h] at this
  cases this
theorem sq_ne (I : Inv X pins σ H s) (hsy : ∃ m, X.base.Ns sysModules m) {a : Addr} {xs : List V} (h : SqL X.K H a xs) : sysModules ≠ a := by
  rcases h with (h | ⟨o, h⟩) | ⟨o, its, n, hk, hc, hd, hs, _⟩
  · exact trk_ne I hsy h
  · exact trk_ne I hsy h
  · intro e
    subst e
    obtain ⟨m, o', es, ep, e1, d1, _⟩ := hsy
    have := I.ok.mod.kin _ _ hk
    rw [e1] at this
    cases this
    rw [hs] at d1
    cases d1
theorem kv_vals : ∀ {kvs : List (Key × V)} {vs : List (Key × Value)}, KV kvs vs → Vals (kvs.map (·.2)) (vs.map (·.2))
  | _, _, .nil => .nil
  | _, _, .cons h t => .cons h.2 (kv_vals t)
theorem kv_pairs {h : Heap} : ∀ {kvs : List (Key × V)} {vs : List (Key × Value)} {ds : List PyData} {as : List Addr}, KV kvs vs → ReadsAll h (vs.map (·.2)) ds as → PyProof.V.PairsRead h encK vs ((kvs.map fun p => encK p.1).zip ds) as
  | _, _, _, _, .nil, r => by cases r; exact .nil
  | _, _, _, _, .cons (a := p) (b := q) e t, r => by
    obtain ⟨k, v⟩ := q
    cases r with
    | cons r1 r2 =>
      have := kv_pairs t r2
      obtain ⟨e1, _⟩ := e
      simp only [List.map_cons, List.zip_cons_cons, e1]
      exact .cons r1 this
mutual
theorem readsX (I : Inv X pins σ H s) (hsy : ∃ m, X.base.Ns sysModules m) : ∀ {v : V} {d : PyData} {u : Value}, DpX X.K H v d → RelV v u → ∃ as, Reads s.heap u d as ∧ sysModules ∉ as
  | _, _, _, .non, r => by cases r; exact ⟨_, Reads.none, by simp⟩
  | _, _, _, .bl b, r => by cases r; exact ⟨_, Reads.bool b, by simp⟩
  | _, _, _, .int i, r => by obtain ⟨t, rfl⟩ := r; exact ⟨_, Reads.int i t, by simp⟩
  | _, _, _, .str i, r => by obtain ⟨t, rfl⟩ := r; exact ⟨_, Reads.str i t, by simp⟩
  | _, _, _, .lst hs ha, r => by
    cases r
    obtain ⟨its, rv, ⟨o, n, ho, hc, _, hd⟩, _⟩ := I.list hs
    obtain ⟨as, hr, hn⟩ := readsXs I hsy ha rv
    exact ⟨_, Reads.list ho hc hd hr, by simp [sq_ne I hsy hs, hn]⟩
  | _, _, _, .tup hs ha, r => by
    cases r
    obtain ⟨its, rv, ⟨o, ho, hc, n, hd⟩, _⟩ := I.tuple hs
    obtain ⟨as, hr, hn⟩ := readsXs I hsy ha rv
    exact ⟨_, Reads.tuple ho hc hd hr, hn⟩
  | _, _, _, .dct (kvs := kvs) (ds := ds) hs ha, r => by
    cases r
    obtain ⟨_, _, vs, kv, hd⟩ := dk_of I.hok hs
    obtain ⟨bs, hr, hn⟩ := readsXs I hsy ha (kv_vals kv)
    have hp := kv_pairs kv hr
    exact ⟨_, PyProof.V.reads_dictOf (fun k key hk => by
      rcases keyIs_shape hk with ⟨i, t, rfl, rfl⟩ | ⟨x, t, rfl, rfl⟩
      · exact Reads.int i t
      · exact Reads.str x t) hd hp, by simp [trk_ne I hsy hs, hn]⟩
theorem readsXs (I : Inv X pins σ H s) (hsy : ∃ m, X.base.Ns sysModules m) : ∀ {vs : List V} {ds : List PyData} {us : List Value}, DpXs X.K H vs ds → Vals vs us → ∃ as, ReadsAll s.heap us ds as ∧ sysModules ∉ as
  | _, _, _, .nil, r => by cases r; exact ⟨_, ReadsAll.nil, by simp⟩
  | _, _, _, .cons h1 h2, r => by
    cases r with
    | cons r1 r2 =>
      obtain ⟨as, q1, n1⟩ := readsX I hsy h1 r1
      obtain ⟨bs, q2, n2⟩ := readsXs I hsy h2 r2
      exact ⟨_, ReadsAll.cons q1 q2, by simp [n1, n2]⟩
end
def rReprX (K : PySem.W.Frag) : List V → Hp → VK → Prop := fun vs H Q => ∃ (x : V) (p : PyData), vs = [x] ∧ DpX K H x p ∧ p.showable = true ∧ p.depth ≤ 40 ∧ p.shown.length ≤ sizeLine ∧ Q (.str p.shown) H
def rStrX (K : PySem.W.Frag) : List V → Hp → VK → Prop := fun vs H Q => (∃ (a : Addr) (p : PyData), vs = [.ref a] ∧ DpX K H (.ref a) p ∧ p.showable = true ∧ p.depth ≤ 40 ∧ p.shown.length ≤ sizeLine ∧ Q (.str p.shown) H) ∨ (∃ i, vs = [.int i] ∧ i.natAbs.log2 < 1920 ∧ Q (.str (toString i)) H) ∨ (∃ z, vs = [.str z] ∧ Q (.str z) H) ∨ (∃ b, vs = [.bl b] ∧ Q (.str (if b then "True" else "False")) H) ∨ (vs = [.non] ∧ Q (.str "None") H)
theorem cr_reprX (hg : X.A.guards = some []) (hu : X.A.units + 64 < cLine) (hsy : ∃ m, X.base.Ns sysModules m) : CallR X (.builtin "repr") (rReprX X.K) := by
  intro pins s σ H vs us Q I r h
  obtain ⟨x, p, rfl, hd, h1, h3, h4, q⟩ := h
  obtain ⟨u, rfl, ru⟩ : ∃ u, us = [u] ∧ RelV x u := by
    cases r with
    | cons a b => cases b; exact ⟨_, rfl, a⟩
  obtain ⟨as, rd, hn⟩ := readsX I hsy hd ru
  have done : ∀ (h' : Heap) (t : Tok) (tk : Nat), (∀ b o, s.heap.get? b = some o → h'.get? b = some o) → EP X pins σ Q (.str p.shown t) { s with heap := h', toks := tk } := fun h' t tk hk => ⟨.str p.shown, H, I.kept hk, ⟨t, rfl⟩, q⟩
  cases hd with
  | non => cases ru; simp only [PyData.shown] at done; exact PySem.P.repr_of_none (done s.heap _ _ fun _ _ e => e)
  | bl b => cases ru; simp only [PyData.shown] at done; exact PySem.P.repr_of_bool (done s.heap _ _ fun _ _ e => e)
  | int i => obtain ⟨t, rfl⟩ := ru; simp only [PyData.shown] at done; exact PySem.P.repr_of_int (by simpa [PyData.showable] using h1) (done s.heap _ _ fun _ _ e => e)
  | str z => obtain ⟨t, rfl⟩ := ru; simp only [PyData.shown] at done h4; exact PySem.P.repr_of_str (done s.heap _ _ fun _ _ e => e) h4
  | lst a b => cases ru; exact repr_of_reads' rd h1 (fun _ => hn) hg (by omega) (fun _ _ e => e) (fun h' t tk hk => done h' t tk hk) h4
  | tup a b => cases ru; exact repr_of_reads' rd h1 (fun _ => hn) hg (by omega) (fun _ _ e => e) (fun h' t tk hk => done h' t tk hk) h4
  | dct a b => cases ru; exact repr_of_reads' rd h1 (fun _ => hn) hg (by omega) (fun _ _ e => e) (fun h' t tk hk => done h' t tk hk) h4
end
end L2
namespace DL
open PySem PySem.Spec PyProof.Rows L2 PySem.W
mutual
@[simp] def toPx (G : Gp) : D → Option PyData
  | .non => some .none
  | .bl b => some (.bool b)
  | .int i => some (.int i)
  | .str x => some (.str x)
  | .lst ds => (toPxs G ds).map .list
  | .tup ds => (toPxs G ds).map .tuple
  | .dct ks ds => (toPxs G ds).map fun ps => .dict ((ks.map encK).zip ps)
  | .scr ns => some (.list (ns.map .int))
  | .ref a => toPy G (.ref a)
  | _ => none
@[simp] def toPxs (G : Gp) : List D → Option (List PyData)
  | [] => some []
  | d :: ds => match toPx G d, toPxs G ds with
    | some a, some r => some (a :: r)
    | _, _ => none
end
section
variable {K : PySem.W.Frag} {P : Addr → Prop} {G : Gp} {H : Hp}
mutual
theorem dpx_dp : ∀ {v : V} {p : PyData}, Dp K H v p → DpX K H v p
  | _, _, .non => .non
  | _, _, .bl b => .bl b
  | _, _, .int b => .int b
  | _, _, .str b => .str b
  | _, _, .lst a b => .lst a (dpxs_dp b)
  | _, _, .tup a b => .tup a (dpxs_dp b)
theorem dpxs_dp : ∀ {vs : List V} {ps : List PyData}, DpAll K H vs ps → DpXs K H vs ps
  | _, _, .nil => .nil
  | _, _, .cons a b => .cons (dpx_dp a) (dpxs_dp b)
end
mutual
theorem dpx_of (w : Wo K P G H) : ∀ (d : D) {v : V} {p : PyData}, Rep K H G P d v → toPx G d = some p → DpX K H v p
  | .non, v, p, h, e => by rw [toPx] at e; cases e; rw [rep_n h]; exact .non
  | .bl b, v, p, h, e => by rw [toPx] at e; cases e; rw [rep_b h]; exact .bl b
  | .int b, v, p, h, e => by rw [toPx] at e; cases e; rw [rep_i h]; exact .int b
  | .str b, v, p, h, e => by rw [toPx] at e; cases e; rw [rep_s h]; exact .str b
  | .ty n, v, p, h, e => by simp [toPx] at e
  | .cl n, v, p, h, e => by simp [toPx] at e
  | .exc a dd f x, v, p, h, e => by simp [toPx] at e
  | .scr ns, v, p, h, e => dpx_dp (dp_of w (.scr ns) h (by simpa using e))
  | .ref a, v, p, h, e => dpx_dp (dp_of w (.ref a) h (by rw [toPx] at e; exact e))
  | .lst ds, v, p, h, e => by
    rw [toPx] at e
    obtain ⟨ps, e1, rfl⟩ := opt_map e
    obtain ⟨a, xs, rfl, g, pp, r, z, q⟩ := rep_l h
    exact .lst (SqL.of r) (dpxs_of w ds q e1)
  | .tup ds, v, p, h, e => by
    rw [toPx] at e
    obtain ⟨ps, e1, rfl⟩ := opt_map e
    obtain ⟨a, xs, rfl, g, pp, r, z, q⟩ := rep_t h
    exact .tup (SqT.of r) (dpxs_of w ds q e1)
  | .dct ks ds, v, p, h, e => by
    rw [toPx] at e
    obtain ⟨ps, e1, rfl⟩ := opt_map e
    unfold Rep at h
    obtain ⟨a, xs, rfl, g, pp, r, z, q⟩ := h
    have hl : ks.length = xs.length := by rw [z, q.length]
    have e3 : (ks.zip xs).map (·.2) = xs := List.map_snd_zip (by omega)
    have e4 : (ks.zip xs).map (fun p => encK p.1) = ks.map encK := by
      have : (ks.zip xs).map (fun p => encK p.1) = ((ks.zip xs).map (·.1)).map encK := by rw [List.map_map]; rfl
      rw [this, List.map_fst_zip (by omega)]
    have := DpX.dct (K := K) r (ds := ps) (by rw [e3]; exact dpxs_of w ds q e1)
    rw [e4] at this
    exact this
theorem dpxs_of (w : Wo K P G H) : ∀ (ds : List D) {vs : List V} {ps : List PyData}, Reps K H G P ds vs → toPxs G ds = some ps → DpXs K H vs ps
  | [], _, _, h, e => by unfold Reps at h; subst h; rw [toPxs] at e; cases e; exact .nil
  | d :: ds, _, _, h, e => by
    unfold Reps at h
    obtain ⟨x, r, rfl, h1, h2⟩ := h
    rw [toPxs] at e
    split at e
    · rename_i a b ea eb
      cases e
      exact .cons (dpx_of w d h1 ea) (dpxs_of w ds h2 eb)
    · cases e
end
end
def cReprX : CD := fun xs G Q => match xs with
  | [x] => (match toPx G x with
    | some p => p.showable = true ∧ p.depth ≤ 40 ∧ p.shown.length ≤ sizeLine ∧ Q (.str p.shown) G
    | none => False)
  | _ => False
theorem lc_reprX {K : PySem.W.Frag} : LC K (rReprX K) cReprX := fun P G H xs us Q R h w r k => by
  unfold cReprX at h
  split at h
  · rename_i x
    split at h
    · rename_i p e
      obtain ⟨u, rfl, r1⟩ := reps1 r
      obtain ⟨h1, h3, h4, h5⟩ := h
      exact ⟨u, p, rfl, dpx_of w x r1 e, h1, h3, h4, k _ G _ H (Step.refl _ _) w rep_str h5⟩
    · exact h.elim
  · exact h.elim
end DL
set_option Elab.async false
set_option linter.all false
set_option maxRecDepth 100000
set_option maxHeartbeats 4000000
namespace DL
open PySem PySem.Spec PyProof.Rows L2 LN
end DL
set_option Elab.async false
set_option linter.all false
set_option maxRecDepth 100000
set_option maxHeartbeats 4000000
namespace DL
open PySem PySem.Spec PyProof.Rows L2 LN
mutual
def anyD : D → Bool
  | .non => true
  | .bl _ => true
  | .int _ => true
  | .str _ => true
  | .lst ds => anyDs ds
  | .tup ds => anyDs ds
  | .dct _ ds => anyDs ds
  | _ => false
def anyDs : List D → Bool
  | [] => true
  | d :: ds => anyD d && anyDs ds
end
theorem anyDs_mem : ∀ {ds : List D}, anyDs ds = true ↔ ∀ d ∈ ds, anyD d = true
  | [] => by simp [anyDs]
  | d :: ds => by simp [anyDs, anyDs_mem (ds := ds)]
mutual
theorem any_plain : ∀ {d : D}, anyD d = true → plainD d = true
  | .non, _ => rfl
  | .bl _, _ => rfl
  | .int _, _ => rfl
  | .str _, _ => rfl
  | .ty _, h => by simp [anyD] at h
  | .cl _, h => by simp [anyD] at h
  | .ref _, h => by simp [anyD] at h
  | .exc _ _ _ _, h => by simp [anyD] at h
  | .scr _, h => by simp [anyD] at h
  | .lst ds, h => by simp only [anyD] at h; simp only [plainD]; exact anys_plain h
  | .tup ds, h => by simp only [anyD] at h; simp only [plainD]; exact anys_plain h
  | .dct _ ds, h => by simp only [anyD] at h; simp only [plainD]; exact anys_plain h
theorem anys_plain : ∀ {ds : List D}, anyDs ds = true → plainDs ds = true
  | [], _ => rfl
  | d :: ds, h => by
    simp only [anyDs, Bool.and_eq_true] at h
    simp only [plainDs, Bool.and_eq_true]
    exact ⟨any_plain h.1, anys_plain h.2⟩
end
@[simp] def isI : D → Bool
  | .int _ => true
  | .bl _ => true
  | _ => false
@[simp] def isB : D → Bool
  | .bl _ => true
  | _ => false
@[simp] def isS : D → Bool
  | .str _ => true
  | _ => false
@[simp] def isL : D → Bool
  | .lst _ => true
  | _ => false
@[simp] def isT : D → Bool
  | .tup _ => true
  | _ => false
theorem isi_int {d : D} {G : Gp} {Q : DK} (h : anyD d = true) : cIsi [d, .ty "int"] G Q = Q (.bl (isI d)) G := by
  have k1 : kitB "NoneType" "int" = some false := by decide +kernel
  have k2 : kitB "bool" "int" = some true := by decide +kernel
  have k3 : kitB "str" "int" = some false := by decide +kernel
  have k4 : kitB "list" "int" = some false := by decide +kernel
  have k5 : kitB "tuple" "int" = some false := by decide +kernel
  have k6 : kitB "dict" "int" = some false := by decide +kernel
  cases d with
  | non => simp [tyD, k1]
  | bl b => simp [tyD, k2]
  | int b => simp [tyD]
  | str b => simp [tyD, k3]
  | lst b => simp [tyD, k4]
  | tup b => simp [tyD, k5]
  | dct b c => simp [tyD, k6]
  | _ => simp [anyD] at h
theorem isi_bool {d : D} {G : Gp} {Q : DK} (h : anyD d = true) : cIsi [d, .ty "bool"] G Q = Q (.bl (isB d)) G := by
  have k1 : kitB "NoneType" "bool" = some false := by decide +kernel
  have k3 : kitB "str" "bool" = some false := by decide +kernel
  have k4 : kitB "list" "bool" = some false := by decide +kernel
  have k5 : kitB "tuple" "bool" = some false := by decide +kernel
  have k6 : kitB "dict" "bool" = some false := by decide +kernel
  cases d with
  | non => simp [tyD, k1]
  | bl b => simp [tyD]
  | int b => simp [tyD]
  | str b => simp [tyD, k3]
  | lst b => simp [tyD, k4]
  | tup b => simp [tyD, k5]
  | dct b c => simp [tyD, k6]
  | _ => simp [anyD] at h
theorem isi_list {d : D} {G : Gp} {Q : DK} (h : anyD d = true) : cIsi [d, .ty "list"] G Q = Q (.bl (isL d)) G := by
  have k1 : kitB "NoneType" "list" = some false := by decide +kernel
  have k2 : kitB "bool" "list" = some false := by decide +kernel
  have k3 : kitB "int" "list" = some false := by decide +kernel
  have k4 : kitB "str" "list" = some false := by decide +kernel
  have k5 : kitB "tuple" "list" = some false := by decide +kernel
  have k6 : kitB "dict" "list" = some false := by decide +kernel
  cases d with
  | non => simp [tyD, k1]
  | bl b => simp [tyD, k2]
  | int b => simp [tyD, k3]
  | str b => simp [tyD, k4]
  | lst b => simp [tyD]
  | tup b => simp [tyD, k5]
  | dct b c => simp [tyD, k6]
  | _ => simp [anyD] at h
theorem isi_tuple {d : D} {G : Gp} {Q : DK} (h : anyD d = true) : cIsi [d, .ty "tuple"] G Q = Q (.bl (isT d)) G := by
  have k1 : kitB "NoneType" "tuple" = some false := by decide +kernel
  have k2 : kitB "bool" "tuple" = some false := by decide +kernel
  have k3 : kitB "int" "tuple" = some false := by decide +kernel
  have k4 : kitB "str" "tuple" = some false := by decide +kernel
  have k5 : kitB "list" "tuple" = some false := by decide +kernel
  have k6 : kitB "dict" "tuple" = some false := by decide +kernel
  cases d with
  | non => simp [tyD, k1]
  | bl b => simp [tyD, k2]
  | int b => simp [tyD, k3]
  | str b => simp [tyD, k4]
  | lst b => simp [tyD, k5]
  | tup b => simp [tyD]
  | dct b c => simp [tyD, k6]
  | _ => simp [anyD] at h
/-- is_whole of anything -/
@[simp] def whB : D → Bool
  | .int _ => true
  | _ => false
theorem whole_any {d : D} {G : Gp} {Q : DK} (h : anyD d = true) (q : Q (.bl (whB d)) G) : F_is_whole [d] G Q := by
  have e1 := isi_int (d := d) (G := G) (Q := fun x _ => x = .bl (isI d)) h
  have e2 := isi_bool (d := d) (G := G) (Q := fun x _ => x = .bl (isB d)) h
  simp only [cIsi, eq_iff_iff, iff_true] at e1 e2
  cases ty : tyD G d with
  | none => rw [ty] at e1; simp at e1
  | some m =>
    rw [ty] at e1 e2
    simp only [Option.bind_some] at e1 e2
    cases k1 : kitB m "int" with
    | none => rw [k1] at e1; simp at e1
    | some a =>
      cases k2 : kitB m "bool" with
      | none => rw [k2] at e2; simp at e2
      | some b =>
        rw [k1] at e1
        rw [k2] at e2
        have e1 : D.bl a = D.bl (isI d) := e1
        have e2 : D.bl b = D.bl (isB d) := e2
        refine ⟨d, m, a, b, rfl, ty, k1, k2, ?_⟩
        rw [D.bl.inj e1, D.bl.inj e2]
        have : (isI d && !isB d) = whB d := by cases d <;> rfl
        rw [this]; exact q
def Thg (k n : Nat) (d : D) : Prop := anyD d = true ∧ ∃ p, (∀ G, toPx G d = some p) ∧ p.showable = true ∧ p.depth ≤ k ∧ Asc p.shown ∧ p.shown.length ≤ n
theorem Thg.mono {k k' n n' : Nat} {d : D} (h : Thg k n d) (hk : k ≤ k') (hn : n ≤ n') : Thg k' n' d := by
  obtain ⟨h1, p, h2, h3, h4, h5, h6⟩ := h
  exact ⟨h1, p, h2, h3, by omega, h5, by omega⟩
theorem thg_of {k n : Nat} {d : D} {p : PyData} (ha : anyD d = true) (hp : ∀ G, toPx G d = some p) (hd : p.depth ≤ k) (t : Tx n p) : Thg k n d := ⟨ha, p, hp, t.sh, hd, t.asc, t.len⟩
theorem thg_non : Thg 0 4 .non := thg_of rfl (fun _ => by simp) (by simp [PyData.depth]) tx_none
theorem thg_bl (b : Bool) : Thg 0 5 (.bl b) := thg_of rfl (fun _ => by simp) (by simp [PyData.depth]) (tx_bool b)
theorem thg_int {i : Int} (h : i.natAbs < 10 ^ 60) : Thg 0 61 (.int i) := thg_of rfl (fun _ => by simp) (by simp [PyData.depth]) (tx_int h)
theorem thg_i {i : Int} (h1 : -1000000000000000000000000000000000000000000000000000 ≤ i) (h2 : i ≤ 1000000000000000000000000000000000000000000000000000) : Thg 0 61 (.int i) := thg_int (by
  have e : (10 : Nat) ^ 60 = 1000000000000000000000000000000000000000000000000000000000000 := by decide
  rw [e]; omega)
theorem thg_str {x : Str} {n : Nat} (h : Asc x) (hn : x.length ≤ n) : Thg 0 (10 * n + 2) (.str x) := thg_of rfl (fun _ => by simp) (by simp [PyData.depth]) (tx_str h hn)
theorem thg_list {k n : Nat} : ∀ {ds : List D}, (∀ d ∈ ds, Thg k n d) → anyDs ds = true ∧ ∃ ps : List PyData, (∀ G, toPxs G ds = some ps) ∧ ps.length = ds.length ∧ ∀ p ∈ ps, p.showable = true ∧ p.depth ≤ k ∧ Asc p.shown ∧ p.shown.length ≤ n
  | [], _ => ⟨rfl, [], fun _ => by simp, rfl, by simp⟩
  | d :: ds, h => by
    obtain ⟨a1, p, a2, a3⟩ := h d List.mem_cons_self
    obtain ⟨b1, ps, b2, b3, b4⟩ := thg_list (ds := ds) fun e he => h e (List.mem_cons_of_mem _ he)
    refine ⟨by simp [anyDs, a1, b1], p :: ps, fun G => by simp [a2 G, b2 G], by simp [b3], fun q hq => ?_⟩
    rcases List.mem_cons.mp hq with rfl | z
    · exact a3
    · exact b4 q z
theorem depthAll_le' {k : Nat} : ∀ {ps : List PyData}, (∀ p ∈ ps, p.depth ≤ k) → PyData.depthAll ps ≤ k
  | [], _ => by simp [PyData.depthAll]
  | p :: ps, h => by
    have := h p List.mem_cons_self
    have := depthAll_le' (ps := ps) fun q hq => h q (List.mem_cons_of_mem _ hq)
    simp only [PyData.depthAll]
    omega
theorem thg_lst {k n m : Nat} {ds : List D} (h : ∀ d ∈ ds, Thg k n d) (hm : ds.length ≤ m) : Thg (k + 1) (m * (n + 2) + 2) (.lst ds) := by
  obtain ⟨a, ps, e, l, q⟩ := thg_list h
  refine ⟨by simpa [anyD] using a, .list ps, fun G => by simp [e G], by simp only [PyData.showable]; exact showableAll_of fun x hx => (q x hx).1, by simp only [PyData.depth]; have := depthAll_le' (ps := ps) fun x hx => (q x hx).2.1; omega, ?_, ?_⟩
  · simp only [PyData.shown, shownAll_map]
    exact asc_app (asc_from (asc_of _) fun t ht => by obtain ⟨x, hx, rfl⟩ := List.mem_map.mp ht; exact (q x hx).2.2.1) (asc_of _)
  · simp only [PyData.shown, shownAll_map]
    have h1 := listText_le (ps.map PyData.shown)
    have h2 := piled_le (n := n) (ts := ps.map PyData.shown) fun t ht => by obtain ⟨x, hx, rfl⟩ := List.mem_map.mp ht; exact (q x hx).2.2.2
    rw [List.length_map] at h2
    have h3 : ps.length * (n + 2) ≤ m * (n + 2) := Nat.mul_le_mul_right _ (by omega)
    omega
theorem thg_tup {k n m : Nat} {ds : List D} (h : ∀ d ∈ ds, Thg k n d) (hm : ds.length ≤ m) : Thg (k + 1) (m * (n + 2) + 4) (.tup ds) := by
  obtain ⟨a, ps, e, l, q⟩ := thg_list h
  refine ⟨by simpa [anyD] using a, .tuple ps, fun G => by simp [e G], by simp only [PyData.showable]; exact showableAll_of fun x hx => (q x hx).1, by simp only [PyData.depth]; have := depthAll_le' (ps := ps) fun x hx => (q x hx).2.1; omega, ?_, ?_⟩
  · simp only [PyData.shown, shownAll_map]
    exact asc_app (asc_app (asc_of _) (asc_join (asc_of _) fun t ht => by obtain ⟨x, hx, rfl⟩ := List.mem_map.mp ht; exact (q x hx).2.2.1)) (asc_of _)
  · simp only [PyData.shown, shownAll_map]
    have h1 := tupleText_le (ps.map PyData.shown)
    have h2 := piled_le (n := n) (ts := ps.map PyData.shown) fun t ht => by obtain ⟨x, hx, rfl⟩ := List.mem_map.mp ht; exact (q x hx).2.2.2
    rw [List.length_map] at h2
    have h3 : ps.length * (n + 2) ≤ m * (n + 2) := Nat.mul_le_mul_right _ (by omega)
    omega
theorem thg_dnil : Thg 1 2 (.dct [] []) := ⟨rfl, .dict [], fun _ => by simp, rfl, by simp [PyData.depth, PyData.depthKv], by simp only [PyData.shown, PyData.shownKv]; exact asc_app (asc_app (asc_of _) (asc_join (asc_of _) (by simp))) (asc_of _), by decide⟩
theorem ix_at {L : List D} {i : Int} {d : D} {G : Gp} {Q : DK} (e : atI L i = some d) (q : Q d G) : oIx (.lst L) (.int i) G Q := by
  simp only [oIx, lkQ, lkL, e]; exact q
theorem add_ok {L M : List D} {G : Gp} {Q : DK} (h : L.length + M.length ≤ 16777216) (q : Q (.lst (L ++ M)) G) : oAdd (.lst L) (.lst M) G Q := by
  simp only [oAdd, lkL]; exact ⟨h, q⟩
theorem Thg.any {k n : Nat} {d : D} (h : Thg k n d) : anyD d = true := h.1
end DL
set_option Elab.async false
set_option linter.all false
set_option maxRecDepth 100000
set_option maxHeartbeats 4000000
namespace DL
open PySem PySem.Spec PyProof.Rows L2 LN
theorem forW_self {t : Tg} {tb : ES} {Kp : Gp → Prop} {N : En} (I : List D → Sd → Gp → Prop) (hK : ∀ xs s G, I xs s G → Kp G)
    (h : ∀ x xs s G (W : Sd → Gp → Prop), I (x :: xs) s G → (∀ s' G', I xs s' G' → W s' G') → match asg t x s with
      | some s' => tb { N with nx := W, ct := W, bk := N.nx } s' G
      | none => False) (k : ∀ s G, I [] s G → N.nx s G) (xs : List D) (s : Sd) (G : Gp) (h0 : I xs s G) : forW t tb Kp N xs s G := by
  have := forW_ind (g := fun d : D => d) I hK h k xs s G h0
  simpa using this
end DL
set_option Elab.async false
set_option linter.all false
set_option maxRecDepth 100000
set_option maxHeartbeats 4000000
namespace DL
open PySem PySem.Spec PyProof.Rows L2 LN
end DL
set_option Elab.async false
set_option linter.all false
set_option maxRecDepth 100000
set_option maxHeartbeats 4000000
namespace DL
open PySem PySem.Spec PyProof.Rows L2 LN
/-- the end of a def that drew: plain data, other new things let go -/
theorem fin_stP {G G' : Gp} {Q : DK} {a : Addr} {x y z x' y' z' : Int} {d : D} (hG : G a = some (stO x y z)) (hG' : ∀ b u, gput G a (stO x' y' z') b = some u → G' b = some u) (pd : plainD d = true) (q : Q d (gput G a (stO x' y' z'))) : (fin G Q).rt d G' := by
  refine ⟨d, gput G a (stO x' y' z'), fz_sub hG' ?_ ?_ (refIn_plain pd), q⟩
  · intro b u e
    by_cases hba : b = a
    · subst hba; exact ⟨_, gput_same⟩
    · exact ⟨u, by rw [gput_ne hba]; exact e⟩
  · intro b u e
    by_cases hba : b = a
    · subst hba; rw [gput_same] at e; cases e; exact .inl (by simp [RefO, stO, RefIns, RefIn])
    · rw [gput_ne hba] at e; exact .inr e
theorem gput_comm {G : Gp} {a p : Addr} {s l : GO} (h : p ≠ a) : gput (gput G p l) a s = gput (gput G a s) p l := by
  funext b
  unfold gput
  by_cases e : b = a
  · subst e; simp [Ne.symm h]
  · simp [e]
end DL
set_option Elab.async false
set_option linter.all false
set_option maxRecDepth 100000
set_option maxHeartbeats 4000000
namespace DL
open PySem PySem.Spec PyProof.Rows L2 LN
end DL
set_option Elab.async false
set_option linter.all false
set_option maxRecDepth 100000
set_option maxHeartbeats 4000000
namespace DL
open PySem PySem.Spec PyProof.Rows L2 LN
end DL
set_option Elab.async false
set_option linter.all false
set_option maxRecDepth 100000
set_option maxHeartbeats 4000000
namespace DL
open PySem PySem.Spec PyProof.Rows L2 LN
end DL
set_option Elab.async false
set_option linter.all false
set_option maxRecDepth 100000
set_option maxHeartbeats 4000000
namespace DL
open PySem PySem.Spec PyProof.Rows L2
abbrev Ux := Xd → Gp → Prop
abbrev Sx := List D → Gp → DK → Ux → Prop
abbrev EX := Sd → Gp → DK → Ux → Prop
abbrev EAX := Sd → Gp → (List D → Gp → Prop) → Ux → Prop
@[simp] def eXp (t : EE) : EX := fun s G Q _ => t s G Q
@[simp] def eXa (t : EA) : EAX := fun s G Q _ => t s G Q
@[simp] def eConsX (ta : EX) (tr : EAX) : EAX := fun s G Q U => ta s G (fun x G1 => tr s G1 (fun xs G2 => Q (x :: xs) G2) U) U
@[simp] def eCallX (F : Sx) (ta : EAX) : EX := fun s G Q U => ta s G (fun ds G1 => F ds G1 Q U) U
@[simp] def eCallN (F : Sf) (ta : EAX) : EX := fun s G Q U => ta s G (fun ds G1 => F ds G1 Q) U
@[simp] def eLstX (ta : EAX) : EX := fun s G Q U => ta s G (fun xs G1 => xs.length ≤ sizeLine ∧ Q (.lst xs) G1) U
@[simp] def eCBX (c : CD) (ta : EAX) : EX := fun s G Q U => ta s G (fun xs G1 => c xs G1 Q) U
@[simp] def sDropX (te : EX) : ES := fun N s G => te s G (fun _ G1 => N.nx s G1) fun x G1 => N.xr x s G1
@[simp] def sRetX (te : EX) : ES := fun N s G => te s G N.rt fun x G1 => N.xr x s G1
@[simp] def sAsgX (te : EX) (t : Tg) : ES := fun N s G => te s G (fun d G1 => match asg t d s with
  | some s' => N.nx s' G1
  | none => False) fun x G1 => N.xr x s G1
@[simp] def sRaise (c : Str) : ES := fun N s G => N.xr ⟨c, none⟩ s G
@[simp] def sRaiseF (c f : Str) (te : EE) : ES := fun N s G => te s G fun d G1 => N.xr ⟨c, some (f, d)⟩ s G1
end DL
set_option Elab.async false
set_option linter.all false
set_option maxRecDepth 100000
set_option maxHeartbeats 4000000
namespace DL
open PySem PySem.Spec PyProof.Rows L2
def dOf (dd : Addr) (x : Xd) : Option Addr := match x.f with
  | none => none
  | some _ => some dd
section
variable {K : PySem.W.Frag} {P : Addr → Prop} {s : Sd} {G : Gp} {σ : L2.St} {H : Hp}
theorem Rl.none (r : Rl K P s G σ H) (i : Nat) : Rl K P (s.set i none) G (σ.set i none) H := by
  refine ⟨r.wo, by rw [List.length_set, List.length_set]; exact r.len, fun j e q => ?_⟩
  by_cases hj : i = j
  · subst hj
    by_cases hi : i < s.length
    · rw [List.getElem?_set_self hi] at q
      cases q
    · rw [List.getElem?_eq_none (by rw [List.length_set]; omega)] at q; cases q
  · rw [List.getElem?_set_ne hj] at q
    obtain ⟨w, e1, e2⟩ := r.at_ j e q
    exact ⟨w, by rw [List.getElem?_set_ne hj]; exact e1, e2⟩
end
@[simp] def eIsE (a dd : Addr) (x : Xd) (i : Nat) (b : Bool) : EE := fun s G Q => match s[i]? with
  | some (some (.cl a')) => a' = a ∧ dOf dd x = none ∧ Q (.bl b) G
  | some (some (.exc a' d' _ _)) => a' = a ∧ dOf dd x = some d' ∧ Q (.bl b) G
  | _ => False
@[simp] def eXf (a dd : Addr) (x : Xd) (i : Nat) (f : Str) : EE := fun s G Q => match s[i]? with
  | some (some (.exc a' d' n e)) => a' = a ∧ dOf dd x = some d' ∧ n = f ∧ Q e G
  | _ => False
end DL
set_option Elab.async false
set_option linter.all false
set_option maxRecDepth 100000
set_option maxHeartbeats 4000000
namespace DL
open PySem PySem.Spec PyProof.Rows L2
section
variable {X : Cx} {K : PySem.W.Frag} {pos : Pos}
@[simp] def eDispV (tk tv : EE) : EE := fun s G Q => tk s G fun a G1 => tv s G1 fun b G2 => match keyD a with
  | some k => Q (.dct [k] [b]) G2
  | none => False
/-- x in range(a, b), x not in range(a, b) -/
@[simp] def oInR (neg : Bool) : D → D → D → Gp → DK → Prop := fun x a b G Q => match x, a, b with
  | .int i, .int lo, .int hi => Q (.bl (if neg then !decide (lo ≤ i ∧ i < hi) else decide (lo ≤ i ∧ i < hi))) G
  | _, _, _ => False
@[simp] def eInR (neg : Bool) (tx ta tb : EE) : EE := fun s G Q => tx s G fun x G1 => ta s G1 fun a G2 => tb s G2 fun b G3 => oInR neg x a b G3 Q
end
end DL
set_option Elab.async false
set_option linter.all false
set_option maxRecDepth 100000
set_option maxHeartbeats 4000000
namespace DL
open PySem PySem.Spec PyProof.Rows L2 PySem.W
theorem cr_strX {X : Cx} (hg : X.A.guards = some []) (hu : X.A.units + 64 < cLine) (hsy : ∃ m, X.base.Ns sysModules m) : CallR X (.type "str") (rStrX X.K) := by
  intro pins s σ H vs us Q I r h
  rcases h with ⟨a, p, rfl, hd, h1, h3, h4, q⟩ | h | h | ⟨b, rfl, q⟩ | ⟨rfl, q⟩
  · rw [Vals.ref1 r]
    obtain ⟨as, rd, hn⟩ := readsX I hsy hd (show RelV (V.ref a) (Value.ref a) from rfl)
    exact str_of_reads rd h1 (fun _ => hn) hg (by omega) (fun _ _ e => e) (fun h' t tk hk => ⟨.str p.shown, H, I.kept hk, ⟨t, rfl⟩, q⟩) h4
  · exact call_str_int pins s σ H vs us Q I r h
  · exact SkE.call_str_str pins s σ H vs us Q I r h
  · cases r with
    | cons a b =>
      cases b
      cases a
      exact PySem.P.str_of_bool ⟨.str _, H, I.kept (t' := s.toks + 1) fun _ _ e => e, ⟨_, rfl⟩, q⟩
  · cases r with
    | cons a b =>
      cases b
      cases a
      exact PySem.P.str_of_none ⟨.str _, H, I.kept (t' := s.toks + 1) fun _ _ e => e, ⟨_, rfl⟩, q⟩
def boxX : D → Bool
  | .lst _ => true
  | .tup _ => true
  | .dct _ _ => true
  | .ref _ => true
  | .scr _ => true
  | _ => false
theorem boxX_ref {K : PySem.W.Frag} {P : Addr → Prop} {G : Gp} {H : Hp} {x : D} {u : V} (h : boxX x = true) (r : Rep K H G P x u) : ∃ a, u = .ref a := by
  cases x with
  | lst ds => obtain ⟨a, _, rfl, _⟩ := rep_l r; exact ⟨a, rfl⟩
  | tup ds => obtain ⟨a, _, rfl, _⟩ := rep_t r; exact ⟨a, rfl⟩
  | dct ks ds => unfold Rep at r; obtain ⟨a, _, rfl, _⟩ := r; exact ⟨a, rfl⟩
  | ref a => unfold Rep at r; exact ⟨a, r.1⟩
  | scr ns => unfold Rep at r; obtain ⟨a, rfl, _⟩ := r; exact ⟨a, rfl⟩
  | _ => cases h
def cStrX : CD := fun xs G Q => match xs with
  | [.int i] => i.natAbs.log2 < 1920 ∧ Q (.str (toString i)) G
  | [.str z] => Q (.str z) G
  | [.bl b] => Q (.str (if b then "True" else "False")) G
  | [.non] => Q (.str "None") G
  | [x] => boxX x = true ∧ (match toPx G x with
    | some p => p.showable = true ∧ p.depth ≤ 40 ∧ p.shown.length ≤ sizeLine ∧ Q (.str p.shown) G
    | none => False)
  | _ => False
theorem lc_strX {K : PySem.W.Frag} : LC K (rStrX K) cStrX := fun P G H xs us Q R h w r k => by
  unfold cStrX at h
  split at h
  · obtain ⟨u, rfl, r1⟩ := reps1 r
    rw [rep_i r1]
    exact .inr (.inl ⟨_, rfl, h.1, k _ G _ H (Step.refl _ _) w rep_str h.2⟩)
  · obtain ⟨u, rfl, r1⟩ := reps1 r
    rw [rep_s r1]
    exact .inr (.inr (.inl ⟨_, rfl, k _ G _ H (Step.refl _ _) w rep_str h⟩))
  · obtain ⟨u, rfl, r1⟩ := reps1 r
    rw [rep_b r1]
    exact .inr (.inr (.inr (.inl ⟨_, rfl, k _ G _ H (Step.refl _ _) w rep_str h⟩)))
  · obtain ⟨u, rfl, r1⟩ := reps1 r
    rw [rep_n r1]
    exact .inr (.inr (.inr (.inr ⟨rfl, k _ G _ H (Step.refl _ _) w rep_str h⟩)))
  · rename_i x n1 n2 n3 n4
    obtain ⟨hb, h⟩ := h
    split at h
    · rename_i p e
      obtain ⟨u, rfl, r1⟩ := reps1 r
      obtain ⟨h1, h3, h4, h5⟩ := h
      have d := dpx_of w x r1 e
      obtain ⟨a, rfl⟩ := boxX_ref hb r1
      exact .inl ⟨a, p, rfl, d, h1, h3, h4, k _ G _ H (Step.refl _ _) w rep_str h5⟩
    · exact h.elim
  · exact h.elim
end DL
set_option Elab.async false
set_option linter.all false
set_option maxRecDepth 100000
set_option maxHeartbeats 4000000
namespace DL
open PySem PySem.Spec PyProof.Rows L2 PySem.W
end DL
set_option Elab.async false
set_option linter.all false
set_option maxRecDepth 100000
set_option maxHeartbeats 4000000
namespace DL
open PySem PySem.Spec PyProof.Rows L2 LN
def az : Str := "abcdefghijklmnopqrstuvwxyz"
theorem p12 : (10 : Int) ^ Int.toNat 12 = 1000000000000 := by decide +kernel
theorem p13 : (10 : Int) ^ Int.toNat 13 = 10000000000000 := by decide +kernel
theorem p40 : (10 : Int) ^ Int.toNat 40 = 10000000000000000000000000000000000000000 := by decide +kernel
theorem p60 : (10 : Int) ^ Int.toNat 60 = 1000000000000000000000000000000000000000000000000000000000000 := by decide +kernel
theorem JE.imp {X : Cx} {e : Expr} {t t' : EE} (h : JE X e t) (k : ∀ s G Q, t' s G Q → t s G Q) : JE X e t' := by
  obtain ⟨a, b⟩ := h
  exact ⟨a, fun P s G Q σ H R q r kk => b P s G Q σ H R (k s G Q q) r kk⟩
theorem pwK {n : Int} {v : Int} (h : ((10 : Int) ^ n.toNat = v ∧ 0 ≤ n) ∧ n ≤ 1000000) (s : Sd) (G : Gp) (Q : DK) (q : eC (.int v) s G Q) : eOp oPow (eC (.int 10)) (eC (.int n)) s G Q := by
  simp only [eOp, eC, oPow, oI]
  rw [h.1.1]
  exact ⟨cpow_10.mpr ⟨h.1.2, h.2⟩, q⟩
theorem pw6 {G : Gp} {Q : DK} : oPow (.int 10) (.int 6) G Q = Q (.int 1000000) G := by simp only [oPow, oI]; rw [show (10 : Int) ^ Int.toNat 6 = 1000000 from by decide +kernel]; exact propext ⟨fun h => h.2, fun h => ⟨cpow_10.mpr (by decide), h⟩⟩
theorem pw10 {G : Gp} {Q : DK} : oPow (.int 10) (.int 10) G Q = Q (.int 10000000000) G := by simp only [oPow, oI]; rw [show (10 : Int) ^ Int.toNat 10 = 10000000000 from by decide +kernel]; exact propext ⟨fun h => h.2, fun h => ⟨cpow_10.mpr (by decide), h⟩⟩
theorem pw11 {G : Gp} {Q : DK} : oPow (.int 10) (.int 11) G Q = Q (.int 100000000000) G := by simp only [oPow, oI]; rw [show (10 : Int) ^ Int.toNat 11 = 100000000000 from by decide +kernel]; exact propext ⟨fun h => h.2, fun h => ⟨cpow_10.mpr (by decide), h⟩⟩
theorem pw12 {G : Gp} {Q : DK} : oPow (.int 10) (.int 12) G Q = Q (.int 1000000000000) G := by simp only [oPow, oI]; rw [p12]; exact propext ⟨fun h => h.2, fun h => ⟨cpow_10.mpr (by decide), h⟩⟩
theorem pw13 {G : Gp} {Q : DK} : oPow (.int 10) (.int 13) G Q = Q (.int 10000000000000) G := by simp only [oPow, oI]; rw [p13]; exact propext ⟨fun h => h.2, fun h => ⟨cpow_10.mpr (by decide), h⟩⟩
theorem pw30 {G : Gp} {Q : DK} : oPow (.int 10) (.int 30) G Q = Q (.int 1000000000000000000000000000000) G := by simp only [oPow, oI]; rw [show (10 : Int) ^ Int.toNat 30 = 1000000000000000000000000000000 from by decide +kernel]; exact propext ⟨fun h => h.2, fun h => ⟨cpow_10.mpr (by decide), h⟩⟩
theorem pw40 {G : Gp} {Q : DK} : oPow (.int 10) (.int 40) G Q = Q (.int 10000000000000000000000000000000000000000) G := by simp only [oPow, oI]; rw [p40]; exact propext ⟨fun h => h.2, fun h => ⟨cpow_10.mpr (by decide), h⟩⟩
theorem pw60 {G : Gp} {Q : DK} : oPow (.int 10) (.int 60) G Q = Q (.int 1000000000000000000000000000000000000000000000000000000000000) G := by simp only [oPow, oI]; rw [p60]; exact propext ⟨fun h => h.2, fun h => ⟨cpow_10.mpr (by decide), h⟩⟩
def intOf : D → Option Int
  | .int i => some i
  | _ => none
theorem intOf_eq {d : D} {i : Int} (h : intOf d = some i) : d = .int i := by
  cases d <;> simp [intOf] at h
  subst h; rfl
theorem wh_int (d : D) : whB d = (intOf d).isSome := by cases d <;> rfl
theorem ixt_0 {ds : List D} {d : D} {G : Gp} {Q : DK} {i : Int} (e : atI ds i = some d) (q : Q d G) : oIx (.tup ds) (.int i) G Q := by
  simp only [oIx, lkQ_tup, e]
  exact q
theorem len_tup {ds : List D} {G : Gp} {Q : DK} (q : Q (.int ds.length) G) : cLen [.tup ds] G Q := by
  simp only [cLen, lkQ_tup]
  exact q
theorem len_lst {ds : List D} {G : Gp} {Q : DK} (q : Q (.int ds.length) G) : cLen [.lst ds] G Q := by
  simp only [cLen, lkQ_lst]
  exact q
theorem ne_ii {a b : Int} {G : Gp} {Q : DK} (q : Q (.bl (!decide (a = b))) G) : oNe (.int a) (.int b) G Q := by
  simp only [oNe, toPy, sh_int, eqv_ii, true_and]
  exact q
theorem eq_ii {a b : Int} {G : Gp} {Q : DK} (q : Q (.bl (decide (a = b))) G) : oEq (.int a) (.int b) G Q := by
  simp only [oEq, toPy, sh_int, eqv_ii, true_and]
  exact q
end DL
set_option Elab.async false
set_option linter.all false
set_option maxRecDepth 100000
set_option maxHeartbeats 4000000
namespace DL
open PySem PySem.Spec PyProof.Rows L2 LN
end DL
set_option Elab.async false
set_option linter.all false
set_option maxRecDepth 100000
set_option maxHeartbeats 4000000
namespace DL
open PySem PySem.Spec PyProof.Rows L2 LN
theorem add_ii {a b : Int} {G : Gp} {Q : DK} (q : Q (.int (a + b)) G) : oAdd (.int a) (.int b) G Q := q
theorem eqv_ss (a b : Str) : PyData.eqv (.str a) (.str b) = decide (a = b) := by
  simp only [PyData.eqv]
  rw [Bool.eq_iff_iff]; simp
theorem ne_ss {a b : Str} {G : Gp} {Q : DK} (ha : Asc a) (hb : Asc b) (q : Q (.bl (!decide (a = b))) G) : oNe (.str a) (.str b) G Q := by
  simp only [oNe, toPy, (shp_str (n := 0) ha).shaped (by decide), (shp_str (n := 0) hb).shaped (by decide), eqv_ss, true_and]
  exact q
theorem ne_bb {a b : Bool} {G : Gp} {Q : DK} (q : Q (.bl (!(a == b))) G) : oNe (.bl a) (.bl b) G Q := by
  simp only [oNe, toPy, sh_bool, eqv_bb, true_and]
  exact q
end DL
set_option Elab.async false
set_option linter.all false
set_option maxRecDepth 100000
set_option maxHeartbeats 4000000
namespace DL
open PySem PySem.Spec PyProof.Rows L2 LN
end DL
set_option Elab.async false
set_option linter.all false
set_option maxRecDepth 100000
set_option maxHeartbeats 4000000
namespace DL
open PySem PySem.Spec PyProof.Rows L2 LN
end DL
set_option Elab.async false
set_option linter.all false
set_option maxRecDepth 100000
set_option maxHeartbeats 4000000
namespace DL
open PySem PySem.Spec PyProof.Rows L2 LN
end DL
set_option Elab.async false
set_option linter.all false
set_option maxRecDepth 100000
set_option maxHeartbeats 4000000
namespace DL
open PySem PySem.Spec PyProof.Rows L2 LN
theorem range_cut {n i : Nat} (h : i < n) : List.range n = List.range i ++ i :: List.range' (i + 1) (n - i - 1) := by
  rw [List.range_eq_range', List.range_eq_range', show n = i + (1 + (n - i - 1)) from by omega, ← List.range'_append_1, ← List.range'_append_1]
  simp
theorem map_take {bk : List Stretch} {i : Nat} (h : i < bk.length) : (List.range i).map (st bk) = bk.take i ∧ (List.range' (i + 1) (bk.length - i - 1)).map (st bk) = bk.drop (i + 1) := by
  have e := map_range_st bk
  rw [range_cut h, List.map_append, List.map_cons] at e
  have l1 : ((List.range i).map (st bk)).length = (bk.take i).length := by simp; omega
  have e3 := List.append_inj (e.trans (bk_split h)) l1
  exact ⟨e3.1, (List.cons.inj e3.2).2⟩
end DL
set_option Elab.async false
set_option linter.all false
set_option maxRecDepth 100000
set_option maxHeartbeats 4000000
namespace DL
open PySem PySem.Spec PyProof.Rows L2 LN
end DL
set_option Elab.async false
set_option linter.all false
set_option maxRecDepth 100000
set_option maxHeartbeats 4000000
namespace DL
open PySem PySem.Spec PyProof.Rows L2 LamX
def lePB (bs : Nat → Int) : Nat → Nat → Bool := fun p q => decide (bs p < bs q ∨ (bs p = bs q ∧ (p : Int) ≤ (q : Int)))
def begins (bk : List Stretch) (l : List Nat) : List Nat := l.mergeSort (lePB fun j => (st bk j).b)
@[simp] def eBeg (i : Nat) (f q : Str) (ea : EE) : EE := fun s G Q => ea s G fun x G1 => ∃ (bk : List Stretch) (l : List Nat) (tab : Addr), s[i]? = some (some (.lst (bk.map Stretch.d))) ∧ lkL G1 x = some (nD l) ∧ l.length ≤ 1000000 ∧ bk.length ≤ 1000000 ∧ (∀ j ∈ l, j < bk.length) ∧ G1 tab = some (.tbl f q tab) ∧ Q (.lst (nD (begins bk l))) G1
end DL
set_option Elab.async false
set_option linter.all false
set_option maxRecDepth 100000
set_option maxHeartbeats 4000000
namespace DL
open PySem PySem.Spec PyProof.Rows L2 LN
end DL
set_option Elab.async false
set_option linter.all false
set_option maxRecDepth 100000
set_option maxHeartbeats 4000000
namespace DL
open PySem PySem.Spec PyProof.Rows L2 LN
end DL
set_option Elab.async false
set_option linter.all false
set_option maxRecDepth 100000
set_option maxHeartbeats 4000000
namespace DL
open PySem PySem.Spec PyProof.Rows L2 LN
end DL
set_option Elab.async false
set_option linter.all false
set_option maxRecDepth 100000
set_option maxHeartbeats 4000000
namespace DL
open PySem PySem.Spec PyProof.Rows L2 LN
end DL
set_option Elab.async false
set_option linter.all false
set_option maxRecDepth 100000
set_option maxHeartbeats 4000000
namespace DL
open PySem PySem.Spec PyProof.Rows L2 LN
end DL
set_option Elab.async false
set_option linter.all false
set_option maxRecDepth 100000
set_option maxHeartbeats 4000000
namespace DL
open PySem PySem.Spec PyProof.Rows L2 LN
end DL
set_option Elab.async false
set_option linter.all false
set_option maxRecDepth 100000
set_option maxHeartbeats 4000000
namespace DL
open PySem PySem.Spec PyProof.Rows L2 LN
end DL
set_option Elab.async false
set_option linter.all false
set_option maxRecDepth 100000
set_option maxHeartbeats 4000000
namespace DL
open PySem PySem.Spec PyProof.Rows L2 LN
end DL
set_option Elab.async false
set_option linter.all false
set_option maxRecDepth 100000
set_option maxHeartbeats 4000000
namespace DL
open PySem PySem.Spec PyProof.Rows L2 LN
end DL
set_option Elab.async false
set_option linter.all false
set_option maxRecDepth 100000
set_option maxHeartbeats 4000000
namespace DL
open PySem PySem.Spec PyProof.Rows L2 LN
end DL
set_option Elab.async false
set_option linter.all false
set_option maxRecDepth 100000
set_option maxHeartbeats 4000000
namespace DL
open PySem PySem.Spec PyProof.Rows L2 LamX
abbrev RowI := Int × Int × Int
def rowI (r : RowI) : D := .tup [.int r.1, .int r.2.1, .int r.2.2]
def leRI : RowI → RowI → Bool := fun p q => decide (p.1 < q.1 ∨ (p.1 = q.1 ∧ p.2.1 ≤ q.2.1))
@[simp] def eRows (f q : Str) (ea : EE) : EE := fun s G Q => ea s G fun x G1 => ∃ (l : List RowI) (tab : Addr), x = .lst (l.map rowI) ∧ l.length ≤ 1000000 ∧ G1 tab = some (.tbl f q tab) ∧ Q (.lst ((l.mergeSort leRI).map rowI)) G1
end DL
set_option Elab.async false
set_option linter.all false
set_option maxRecDepth 100000
set_option maxHeartbeats 4000000
namespace DL
open PySem PySem.Spec PyProof.Rows L2 LN
end DL
set_option Elab.async false
set_option linter.all false
set_option maxRecDepth 100000
set_option maxHeartbeats 4000000
namespace DL
open PySem PySem.Spec PyProof.Rows L2
end DL
set_option Elab.async false
set_option linter.all false
set_option maxRecDepth 100000
set_option maxHeartbeats 4000000
namespace DL
open PySem PySem.Spec PyProof.Rows L2 LN
instance : DecidableEq Stretch := fun s t => decidable_of_iff (s.name = t.name ∧ s.b = t.b ∧ s.e = t.e ∧ s.w = t.w) (by cases s; cases t; simp)
end DL
set_option Elab.async false
set_option linter.all false
set_option maxRecDepth 100000
set_option maxHeartbeats 4000000
namespace DL
open PySem PySem.Spec PyProof.Rows L2 LN
section
variable {G : Gp} {a p1 p2 p3 : Addr}
/-- the lists at hand, the state -/
def g4 (G : Gp) (a p1 p2 p3 : Addr) (r1 r2 acc : List Stretch) (o : GO) : Gp := gput (gput (gput (gput G p1 (.lst (r1.map Stretch.d))) p2 (.lst (r2.map Stretch.d))) p3 (.lst (acc.map Stretch.d))) a o
variable {r1 r2 acc : List Stretch} {o : GO}
end
end DL
set_option Elab.async false
set_option linter.all false
set_option maxRecDepth 100000
set_option maxHeartbeats 4000000
namespace DL
open PySem PySem.Spec PyProof.Rows L2 LN
end DL
set_option Elab.async false
set_option linter.all false
set_option maxRecDepth 100000
set_option maxHeartbeats 4000000
namespace DL
open PySem PySem.Spec PyProof.Rows L2
@[simp] def sPar (i j : Nat) (ea : EA) : ES := fun N s G => ea s G fun ds G1 => match ds with
  | [v, w] => N.nx ((s.set i (some v)).set j (some w)) G1
  | _ => False
end DL
set_option Elab.async false
set_option linter.all false
set_option maxRecDepth 100000
set_option maxHeartbeats 4000000
namespace DL
open PySem PySem.Spec PyProof.Rows L2 LN
end DL
set_option Elab.async false
set_option linter.all false
set_option maxRecDepth 100000
set_option maxHeartbeats 4000000
namespace L2
open PySem PySem.Spec PyProof.Rows
end L2
namespace DL
open PySem PySem.Spec PyProof.Rows L2
@[simp] def oRepT : OD := fun x y G Q => match x, y with
  | .str z, .int k => 1 ≤ k ∧ k ≤ 1000 ∧ 0 < z.length ∧ z.length ≤ 1000 ∧ Q (.str (repS z k.toNat)) G
  | _, _ => False
end DL
set_option Elab.async false
set_option linter.all false
set_option maxRecDepth 100000
set_option maxHeartbeats 4000000
namespace DL
open PySem L2
end DL
set_option Elab.async false
set_option linter.all false
set_option maxRecDepth 100000
set_option maxHeartbeats 4000000
namespace DL
open PySem PySem.Spec PyProof.Rows L2 LN
/-- sorted(list of pairs of numbers) -/
def q2 (x : Int × Int) : PyData := .tuple [.int x.1, .int x.2]
end DL
set_option Elab.async false
set_option linter.all false
set_option maxRecDepth 100000
set_option maxHeartbeats 4000000
namespace DL
open PySem PySem.Spec PyProof.Rows L2
@[simp] def isStr : D → Prop
  | .str _ => True
  | _ => False
/-- o.m(), o.m(y) of a text -/
@[simp] def eM0 (r : UD) (to : EE) : EE := fun s G Q => to s G fun x G1 => isStr x ∧ r x G1 Q
@[simp] def eM1 (r : OD) (to te : EE) : EE := fun s G Q => to s G fun x G1 => isStr x ∧ te s G1 fun y G2 => r x y G2 Q
@[simp] def eFmt (te : EE) : EE := fun s G Q => te s G fun x G1 => match x with
  | .str y => y.length ≤ 16777216 ∧ Q (.str y) G1
  | .int i => i.natAbs.log2 < 1920 ∧ Q (.str (toString i)) G1
  | _ => False
@[simp] def eJs : List EE → Str → EE
  | [], acc => fun _ G Q => Q (.str acc) G
  | t :: ts, acc => fun s G Q => t s G fun x G1 => match x with
    | .str y => (acc ++ y).length ≤ 16777216 ∧ eJs ts (acc ++ y) s G1 Q
    | _ => False
@[simp] def cMax3 : CD := fun xs G Q => match xs with
  | [.int i, .int j, .int k] => Q (.int (max i (max j k))) G
  | _ => False
end DL
set_option Elab.async false
set_option linter.all false
set_option maxRecDepth 100000
set_option maxHeartbeats 4000000
namespace DL
open PySem PySem.Spec PyProof.Rows L2
end DL
set_option Elab.async false
set_option linter.all false
set_option maxRecDepth 100000
set_option maxHeartbeats 4000000
namespace DL
open PySem PySem.Spec PyProof.Rows L2 LN
end DL
set_option Elab.async false
set_option linter.all false
set_option maxRecDepth 100000
set_option maxHeartbeats 4000000
namespace DL
open PySem PySem.Spec PyProof.Rows L2 LN
end DL
set_option Elab.async false
set_option linter.all false
set_option maxRecDepth 100000
set_option maxHeartbeats 4000000
namespace DL
open PySem PySem.Spec PyProof.Rows L2 LN
abbrev bl : Str := Str.ofString " "
end DL
set_option Elab.async false
set_option linter.all false
set_option maxRecDepth 100000
set_option maxHeartbeats 4000000
namespace DL
open PySem PySem.Spec PyProof.Rows L2
abbrev EIX := Sd → Gp → (List D → (Gp → Prop) → Gp → Prop) → Ux → Prop
@[simp] def iLX (te : EX) : EIX := fun s G Q U => te s G (fun x G1 => match lkL G1 x with
  | some ds => Q ds (stays x ds) G1
  | none => False) U
@[simp] def iEX (ta : EAX) : EIX := fun s G Q U => ta s G (fun xs G1 => match xs with
  | [x] => (match lkL G1 x with
    | some ds => Q (enumD ds) (stays x ds) G1
    | none => False)
  | _ => False) U
@[simp] def sForX (ti : EIX) (t : Tg) (tb : ES) : ES := fun N s G => ti s G (fun ds Kp G1 => forW t tb Kp N ds s G1) fun x G1 => N.xr x s G1
end DL
set_option Elab.async false
set_option linter.all false
set_option maxRecDepth 100000
set_option maxHeartbeats 4000000
namespace DL
open PySem PySem.Spec PyProof.Rows L2 LN
open NumText (AllDigits digitsVal)
end DL
set_option Elab.async false
set_option linter.all false
set_option maxRecDepth 100000
set_option maxHeartbeats 4000000
namespace DL
open PySem PySem.Spec PyProof.Rows L2 LN
end DL
set_option Elab.async false
set_option linter.all false
set_option maxRecDepth 100000
set_option maxHeartbeats 4000000
namespace DL
open PySem PySem.Spec PyProof.Rows L2 LN
end DL
set_option Elab.async false
set_option linter.all false
set_option maxRecDepth 100000
set_option maxHeartbeats 4000000
namespace DL
open PySem PySem.Spec PyProof.Rows L2 LN
/-- no run without a line feed is longer -/
def RwL (R : Nat) (l : List Nat) : Prop := ∀ a m b, l = a ++ m ++ b → 10 ∉ m → m.length ≤ R
theorem RwL.mono {R R' : Nat} {l : List Nat} (h : RwL R l) (hr : R ≤ R') : RwL R' l := fun a m b e n => Nat.le_trans (h a m b e n) hr
theorem RwL.len (l : List Nat) : RwL l.length l := fun a m b e _ => by
  have := congrArg List.length e
  simp at this
  omega
theorem RwL.sub {R : Nat} {l a m b : List Nat} (h : RwL R l) (e : l = a ++ m ++ b) : RwL R m := fun a2 m2 b2 e2 n => h (a ++ a2) m2 (b2 ++ b) (by rw [e, e2]; simp) n
theorem RwL.take {R k : Nat} {l : List Nat} (h : RwL R l) : RwL R (l.take k) := h.sub (a := []) (b := l.drop k) (by simp)
theorem RwL.drop {R k : Nat} {l : List Nat} (h : RwL R l) : RwL R (l.drop k) := h.sub (a := l.take k) (b := []) (by simp)
structure TR (L R : Nat) (t : Str) : Prop where
  len : t.length ≤ L
  asc : Asc t
  rw' : RwL R t.cps.toList
theorem TR.mono {L R L' R' : Nat} {t : Str} (h : TR L R t) (h1 : L ≤ L') (h2 : R ≤ R') : TR L' R' t := ⟨by have := h.len; omega, h.asc, h.rw'.mono h2⟩
end DL
set_option Elab.async false
set_option linter.all false
set_option maxRecDepth 100000
set_option maxHeartbeats 4000000
namespace DL
open PySem PySem.Spec PyProof.Rows L2
end DL
set_option Elab.async false
set_option linter.all false
set_option maxRecDepth 100000
set_option maxHeartbeats 4000000
namespace DL
open PySem PySem.Spec PyProof.Rows L2 LN
end DL
set_option Elab.async false
set_option linter.all false
set_option maxRecDepth 100000
set_option maxHeartbeats 4000000
namespace DL
open PySem PySem.Spec PyProof.Rows L2
/-- o.m(..), where m may raise -/
@[simp] def eMethX (C m : Str) (F : Sx) (to : EE) (t : EAX) : EX := fun s G Q U => to s G fun x G1 => isIns C m G1 x ∧ t s G1 (fun xs G2 => F (x :: xs) G2 Q U) U
/-- C(..), where __init__ may raise -/
@[simp] def eMakeX (C : Str) (F : Sx) (t : EAX) : EX := fun s G Q U => t s G (fun xs G1 => ∀ x dx, G1 x = none → F (.ref x :: xs) (gput G1 x (.ins C dx [] [])) (fun d G2 => d = .non ∧ Q (.ref x) G2) U) U
end DL
set_option Elab.async false
set_option linter.all false
set_option maxRecDepth 100000
set_option maxHeartbeats 4000000
namespace DL
open PySem PySem.Spec PyProof.Rows L2
end DL
set_option Elab.async false
set_option linter.all false
set_option maxRecDepth 100000
set_option maxHeartbeats 4000000
namespace L2
open PySem PySem.Spec PyProof.Rows
theorem paired_right {α β : Type} {F : α → β → Prop} : ∀ {l : List α} {m : List β}, Paired F l m → ∀ {y : β}, y ∈ m → ∃ x ∈ l, F x y
  | _, _, .nil, _, h => by cases h
  | _, _, .cons h t, y, hy => by
    rcases List.mem_cons.mp hy with rfl | q
    · exact ⟨_, List.mem_cons_self .., h⟩
    · obtain ⟨x, hx, fx⟩ := paired_right t q
      exact ⟨x, List.mem_cons_of_mem _ hx, fx⟩
def addrOf : Value → Addr
  | .ref a => a
  | _ => 0
theorem refs_perm {out : List Value} {bs : List Addr} (h : out.Perm (bs.map Value.ref)) : ∃ cs : List Addr, out = cs.map Value.ref ∧ cs.Perm bs := by
  refine ⟨out.map addrOf, ?_, ?_⟩
  · rw [List.map_map]
    refine (List.map_id out).symm.trans (List.map_congr_left fun v hv => ?_)
    obtain ⟨b, _, rfl⟩ := List.mem_map.mp (h.mem_iff.mp hv)
    rfl
  · have := h.map addrOf
    rw [List.map_map] at this
    have e : (List.map (addrOf ∘ Value.ref) bs) = bs := (List.map_congr_left fun a _ => rfl).trans (List.map_id bs)
    rw [e] at this
    exact this
section
variable {X : Cx}
/-- sorted(d), d keyed by pairs: the key tuples in some order -/
theorem cr_sortedDT (calm : X.calm = true) : CallR X (.builtin "sorted") (fun xs H Q => ∃ (d : Addr) (kvs : List (List Key × V)), xs = [V.ref d] ∧ H d = some (.dT kvs) ∧ (∀ kv ∈ kvs, ∃ i j : Int, kv.1 = [Sum.inl i, Sum.inl j]) ∧
    ∀ (p : Addr) (bs cs : List Addr), H p = none → IsKeys H kvs bs → cs.Perm bs → Q (.ref p) (upd H p (.lst (cs.map V.ref)))) := by
  intro pins s σ H xs us Q I r hh
  obtain ⟨d, kvs, rfl, hd, pairs, goal⟩ := hh
  obtain ⟨u, rfl, rx⟩ := r.one
  cases rx
  obtain ⟨small, notSys, ents, rel, o, arr, ep, here, exact_, data_, are, nodup_⟩ := (show ObjOk X.prog X.w H s.heap d (.dT kvs) from I.hok _ _ hd)
  have n1 : arr.size = ents.length := size_of_entries are
  have n2 : kvs.length = ents.length := Paired.length rel
  refine Calls.call_function_entry kind_sorted plain_sorted entry_sorted (args_sorted1 _) ?_
  unfold Builtin.«sorted»
  refine wpAny_bind (m := checkCount "sorted" 1 1 _) (wpAny_pure (wpAny_bind (PySem.W.kdu_collect (A := X.A.in1) (kdl_raw notSys exact_ data_) (I.ok.hd calm) here (by omega) ?_)))
  intro hp tk col kept items
  have cols : col.toList = ents.map fun x => Value.ref x.2.1 := by
    have len : col.toList.length = ents.length := by rw [Array.length_toList, items.1]; exact n1
    refine List.ext_getElem? fun j => ?_
    rw [List.getElem?_map]
    rcases Nat.lt_or_ge j ents.length with lt | ge
    · have b1 : ents[j]? = some ents[j] := List.getElem?_eq_getElem lt
      have b2 : col.toList[j]? = some (col.toList[j]'(by omega)) := List.getElem?_eq_getElem (by omega)
      obtain ⟨en, at1, at2⟩ := items.2 j _ (by rw [← Array.getElem?_toList]; exact b2)
      have at3 := entry_at are j
      rw [at1, b1] at at3
      have at4 : en = entryOfKey (tupleKind (mixKind X.prog X.w)) ents[j] := Option.some.inj at3
      rw [b2, b1, at2, at4]
      all_goals rfl
    · rw [List.getElem?_eq_none (by omega), List.getElem?_eq_none (by omega)]
      all_goals rfl
  have J : Inv X pins σ H { s with heap := hp, toks := tk } := I.kept kept
  have szc : col.toList.length ≤ sizeLine := by rw [cols, List.length_map]; omega
  have isp : ∀ v ∈ col.toList, ∃ x y, Srt.IsPair hp v x y := by
    intro v hv
    rw [cols] at hv
    obtain ⟨e, he, rfl⟩ := List.mem_map.mp hv
    obtain ⟨kv, hkv, ek, et, _⟩ := paired_right rel he
    obtain ⟨i, j, eij⟩ := pairs kv hkv
    rw [eij] at et
    obtain ⟨_, its2, r2, o2, ho2, hc2, n, hd2⟩ := J.hok _ _ et
    obtain ⟨u1, u2, rfl, ri, rj⟩ := vals2 r2
    obtain ⟨t1, rfl⟩ := ri
    obtain ⟨t2, rfl⟩ := rj
    exact ⟨i, j, e.2.1, o2, t1, t2, n, rfl, ho2, hc2, hd2⟩
  refine wpAny_bind (wpAny_newList ?_ szc)
  have made : (hp.push (seqObj "list" col.toList.toArray 0)).get? hp.objs.size = some (seqObj "list" col.toList.toArray 0) := Heap.get?_push_size _ rfl
  show wpAny _ _ _ _ _ { s with heap := hp.push (seqObj "list" col.toList.toArray 0), toks := tk }
  have ready : 2 ≤ col.toList.length → Srt.Sortable X.prog X.w X.A.in1.in1 { s with heap := hp.push (seqObj "list" col.toList.toArray 0), toks := tk } hp.objs.size col.toList := fun two =>
    Srt.pairs_sortable (by omega) (fun v hv => by
      obtain ⟨x, y, pr⟩ := isp v hv
      exact ⟨x, y, pr.keeps fun b o e _ => Heap.get?_push_of_some _ e⟩) fun o e c => by
      rw [show ({ s with heap := hp.push (seqObj "list" col.toList.toArray 0), toks := tk } : Shared).heap.get? hp.objs.size = _ from made] at e
      cases e
      exact absurd (Value.type.inj c) (by decide)
  refine wpAny_bind (wpAny_holding (wpAny_call_entry slot_list_sort ⟨_, made, rfl⟩ entry_list_sort (Srt.list_sort_any made szc ready fun out perm => ⟨_, rfl, ?_⟩) (args_list_sort _)))
  obtain ⟨ep2, stands⟩ := sortedHeap_at (vs := col.toList) (out := out.toArray) made
  have perm2 : out.Perm (ents.map fun x => Value.ref x.2.1) := cols ▸ perm
  obtain ⟨cs, ecs, pcs⟩ : ∃ cs : List Addr, out = cs.map Value.ref ∧ cs.Perm (ents.map fun x => x.2.1) := by
    have e2 : (ents.map fun x => Value.ref x.2.1) = (ents.map fun x => x.2.1).map Value.ref := by rw [List.map_map]; rfl
    rw [e2] at perm2
    exact refs_perm perm2
  subst ecs
  have lens : (cs.map V.ref).length ≤ sizeLine := by
    rw [List.length_map, pcs.length_eq, List.length_map, ← n2]
    exact small
  refine wpAny_pure ⟨_, rfl, .ref hp.objs.size, upd H hp.objs.size (.lst (cs.map V.ref)), J.laid (t' := tk) (fun b u e => ?_) (Nat.le_refl _) ⟨lens, cs.map Value.ref, ep2, vals_refs cs, stands⟩, rfl, goal _ _ cs (J.hok.fresh (Nat.le_refl _)) (isKeys_of rel) pcs⟩
  have old : b < hp.objs.size := Heap.lt_size e
  rw [sortedHeap_old (Nat.ne_of_lt old) (by rw [size_push']; exact Nat.lt_succ_of_lt old)]
  exact Heap.get?_push_of_some _ e
end
end L2
namespace DL
open PySem PySem.Spec PyProof.Rows L2
abbrev Tri := Int × Int × Int
def entT (x : Tri) : List Key × V := ([Sum.inl x.1, Sum.inl x.2.1], .int x.2.2)
def rTri (L : List Tri) : List V → HO → Prop := fun _ ho => ho = .dT (L.map entT)
/-- an owned dict, keyed by pairs of whole numbers, whole numbers in it -/
def triO (L : List Tri) : GO := .gen (rTri L) []
def putTri (L : List Tri) (b m p : Int) : List Tri := if (L.any fun x => decide (x.1 = b ∧ x.2.1 = m)) = true then L.map (fun x => if x.1 = b ∧ x.2.1 = m then (x.1, x.2.1, p) else x) else L ++ [(b, m, p)]
def getTri (L : List Tri) (b m : Int) : Option Int := (L.find? fun x => decide (x.1 = b ∧ x.2.1 = m)).map (·.2.2)
theorem key_iff {x : Tri} {b m : Int} : (entT x).1 = [Sum.inl b, Sum.inl m] ↔ x.1 = b ∧ x.2.1 = m := by
  simp [entT]
theorem put_ent (L : List Tri) (b m p : Int) : putK (L.map entT) [Sum.inl b, Sum.inl m] (.int p) = (putTri L b m p).map entT := by
  unfold putK putTri
  have e : ((L.map entT).any fun kv => decide (kv.1 = [Sum.inl b, Sum.inl m])) = L.any fun x => decide (x.1 = b ∧ x.2.1 = m) := by
    rw [List.any_map]
    congr 1
    funext x
    simp only [Function.comp, key_iff]
  rw [e]
  split
  · rw [List.map_map, List.map_map]
    refine List.map_congr_left fun x _ => ?_
    simp only [Function.comp]
    by_cases c : x.1 = b ∧ x.2.1 = m
    · rw [if_pos (key_iff.mpr c), if_pos c]
      rfl
    · rw [if_neg (fun h => c (key_iff.mp h)), if_neg c]
  · rw [List.map_append]
    rfl
theorem get_ent (L : List Tri) (b m : Int) : valV (L.map entT) [Sum.inl b, Sum.inl m] = (getTri L b m).map V.int := by
  unfold valV getTri
  rw [List.find?_map, Option.map_map, Option.map_map]
  have e : ((fun kv : List Key × V => decide (kv.1 = [Sum.inl b, Sum.inl m])) ∘ entT) = fun x => decide (x.1 = b ∧ x.2.1 = m) := by
    funext x
    simp only [Function.comp, key_iff]
  rw [e]
  rfl
section
variable {X : Cx} {K : PySem.W.Frag} {P : Addr → Prop} {G : Gp} {H : Hp}
theorem own_nt (w : Wo K P G H) {b : Addr} {ys : List V} (e : H b = some (.tup ys)) : G b = none ∧ ¬ P b := by
  refine ⟨?_, fun q => ?_⟩
  · cases g : G b with
    | none => rfl
    | some o =>
      obtain ⟨ho, e1, r⟩ := w.own b o g
      rw [e] at e1
      cases e1
      cases o with
      | lst ds => obtain ⟨_, z, _⟩ := r; cases z
      | dct ks ds => obtain ⟨_, z, _⟩ := r; cases z
      | ins C dx ks ds => obtain ⟨_, z, _⟩ := r; cases z
      | own x => cases r
      | set S n => cases r
      | gen r' ds => obtain ⟨_, _, z, _⟩ := r; exact (z _ rfl).elim
      | tbl f q a => obtain ⟨_, _, z, _⟩ := r; cases z
  · obtain ⟨_, ho, e1, nt⟩ := w.prv b q
    rw [e] at e1
    cases e1
    exact nt _ rfl
theorem tri_at (w : Wo K P G H) {a : Addr} {L : List Tri} (e : G a = some (triO L)) : H a = some (.dT (L.map entT)) := by
  obtain ⟨ho, e1, r⟩ := w.own a _ e
  obtain ⟨_, z, _⟩ := r
  have z : ho = .dT (L.map entT) := z
  rw [e1, z]
theorem relo_tri {L : List Tri} : RelO K H G P (triO L) (.dT (L.map entT)) := ⟨[], rfl, (fun ys h => by cases h), reps_nil⟩
def eDnewTri : EE := fun _ G Q => ∀ p, G p = none → Q (.ref p) (gput G p (triO []))
theorem j_dnewTri {pos : Pos} : JE X (.Dict [] [] pos) eDnewTri := ⟨pe_dnewT, fun P s G Q σ H R h r k => fun p hp => by
  have st : Step G H (gput G p (triO [])) (upd H p (.dT [])) := Step.newOwn r.wo hp
  exact k _ _ _ _ st (r.wo.newOwn hp (relo_tri (L := []))) (by unfold Rep; exact ⟨rfl, _, gput_same⟩) (h p (r.wo.fresh hp).1)⟩
theorem rep_pairI {b m : Int} {v : V} (h : Rep K H G P (.tup [.int b, .int m]) v) : ∃ a, v = .ref a ∧ H a = some (.tup [.int b, .int m]) := by
  obtain ⟨a, xs, rfl, _, _, e, _, q⟩ := rep_t h
  unfold Reps at q
  obtain ⟨x, r, rfl, q1, q2⟩ := q
  unfold Reps at q2
  obtain ⟨y, r, rfl, q3, q4⟩ := q2
  unfold Reps at q4
  subst q4
  rw [rep_i q1, rep_i q3] at e
  exact ⟨a, rfl, e⟩
def oGetTri : OD := fun x y G Q => ∃ a b m L p, x = .ref a ∧ y = .tup [.int b, .int m] ∧ G a = some (triO L) ∧ getTri L b m = some p ∧ Q (.int p) G
theorem lo_getTri : LO K (fun x y H Q => ∃ a v, x = .ref a ∧ DGet H a y (some v) ∧ Q v H) oGetTri := fun P G H x y u v Q R h w rx ry k => by
  obtain ⟨a, b, m, L, p, rfl, rfl, e, g, q⟩ := h
  unfold Rep at rx
  obtain ⟨rfl, _⟩ := rx
  obtain ⟨c, rfl, ec⟩ := rep_pairI ry
  have t := tri_at w e
  have g2 := get_ent L b m
  rw [g] at g2
  refine ⟨a, .int p, rfl, ?_, k _ G _ H (Step.refl _ _) w rep_int q⟩
  have := DGet.t (k := [Sum.inl b, Sum.inl m]) t ec
  rw [g2] at this
  exact this
theorem j_getTri {o i : Expr} {eo ei : EE} {pos : Pos} (hu : X.A.units + 1 < cLine) (ho : JE X o eo) (hi : JE X i ei) (hs : NoSl i := by intro _ _; rfl) : JE X (.Subscript o i pos) (eOp oGetTri eo ei) :=
  ⟨pe_dget hu ho.pe hi.pe hs, le_op lo_getTri ho.le hi.le⟩
def sPutTri (te to ti : EE) : ES := fun N s G => te s G fun v G1 => to s G1 fun o G2 => ti s G2 fun i G3 => ∃ a b m p L, o = .ref a ∧ i = .tup [.int b, .int m] ∧ v = .int p ∧ G3 a = some (triO L) ∧ L.length < sizeLine ∧ N.nx s (gput G3 a (triO (putTri L b m p)))
theorem js_putTri {Y : Wx} {o i e : Expr} {eo ei ee : EE} {p' pos : Pos} (hu : X.A.units + 1 < cLine) (he : JE X e ee) (ho : JE X o eo) (hi : JE X i ei) (hs : swapsWith e (some (.Subscript o i p')) pos.line X.env = pure false := by rfl) : JS X Y (.Assign [.Subscript o i p'] e pos) (sPutTri ee eo ei) :=
  ⟨ps_dput hu ho.pe hi.pe he.pe hs, fun P s G N σ H M h r k => by
    refine he.le P s G _ σ H _ h r fun v G1 u H1 s1 w1 r1 h1 => ?_
    refine ho.le P s G1 _ σ H1 _ h1 (r.step s1 w1) fun od G2 ov H2 s2 w2 r2 h2 => ?_
    refine hi.le P s G2 _ σ H2 _ h2 (r.step (s1.trans s2) w2) fun id G3 iv H3 s3 w3 r3 h3 => ?_
    obtain ⟨a, b, m, p, L, rfl, rfl, rfl, e, hl, q⟩ := h3
    have r2' := r2.step s3
    unfold Rep at r2'
    obtain ⟨rfl, _⟩ := r2'
    have r1' := (r1.step s2).step s3
    rw [rep_i r1']
    obtain ⟨c, rfl, ec⟩ := rep_pairI r3
    have t := tri_at w3 e
    refine ⟨a, _, rfl, DPut.t (k := [Sum.inl b, Sum.inl m]) t ec (by rw [List.length_map]; exact hl), ?_⟩
    rw [put_ent]
    have st : Step G3 H3 (gput G3 a (triO (putTri L b m p))) (upd H3 a (.dT ((putTri L b m p).map entT))) := Step.chg e
    have sA := (((s1.trans s2).trans s3).trans st)
    exact k.nx s _ σ _ sA (r.step sA (w3.chg e relo_tri)) q⟩
theorem paired_perm {α β : Type} {F : α → β → Prop} {bs cs : List β} (h : cs.Perm bs) : ∀ {L : List α}, Paired F L bs → ∃ M : List α, M.Perm L ∧ Paired F M cs := by
  induction h with
  | nil => intro L p; exact ⟨L, List.Perm.refl _, p⟩
  | cons x _ ih =>
    intro L p
    cases p with
    | cons a t =>
      obtain ⟨M, pm, pp⟩ := ih t
      exact ⟨_, pm.cons _, .cons a pp⟩
  | swap x y l =>
    intro L p
    cases p with
    | cons a t =>
      cases t with
      | cons b t => exact ⟨_, List.Perm.swap _ _ _, .cons b (.cons a t)⟩
  | trans _ _ ih1 ih2 =>
    intro L p
    obtain ⟨M, pm, pp⟩ := ih2 p
    obtain ⟨M2, pm2, pp2⟩ := ih1 pp
    exact ⟨M2, pm2.trans pm, pp2⟩
theorem map_perm {α β : Type} {f : α → β} : ∀ {L : List α} {M : List β}, M.Perm (L.map f) → ∃ N : List α, M = N.map f ∧ N.Perm L := by
  intro L M h
  generalize e : L.map f = L' at h
  induction h generalizing L with
  | nil =>
    cases L with
    | nil => exact ⟨[], rfl, List.Perm.refl _⟩
    | cons _ _ => cases e
  | cons x _ ih =>
    cases L with
    | nil => cases e
    | cons a l =>
      injection e with e1 e2
      obtain ⟨N, eN, pN⟩ := ih e2
      exact ⟨a :: N, by rw [List.map_cons, e1, eN], pN.cons _⟩
  | swap x y l =>
    cases L with
    | nil => cases e
    | cons a L =>
      cases L with
      | nil => cases e
      | cons b L =>
        injection e with e1 e2
        injection e2 with e2 e3
        exact ⟨b :: a :: L, by rw [List.map_cons, List.map_cons, e1, e2, e3], List.Perm.swap _ _ _⟩
  | trans _ _ ih1 ih2 =>
    obtain ⟨N, eN, pN⟩ := ih2 e
    obtain ⟨N2, eN2, pN2⟩ := ih1 eN.symm
    exact ⟨N2, eN2, pN2.trans pN⟩
def cSortTri : CD := fun xs G Q => ∃ a L, xs = [.ref a] ∧ G a = some (triO L) ∧ L.length ≤ sizeLine ∧ ∀ M : List Tri, M.Perm L → Q (.lst (M.map fun x => D.tup [.int x.1, .int x.2.1])) G
theorem lc_sortTri : LC K (fun xs H Q => ∃ (d : Addr) (kvs : List (List Key × V)), xs = [V.ref d] ∧ H d = some (.dT kvs) ∧ (∀ kv ∈ kvs, ∃ i j : Int, kv.1 = [Sum.inl i, Sum.inl j]) ∧
    ∀ (p : Addr) (bs cs : List Addr), H p = none → IsKeys H kvs bs → cs.Perm bs → Q (.ref p) (upd H p (.lst (cs.map V.ref)))) cSortTri := fun P G H xs us Q R h w r k => by
  obtain ⟨a, L, rfl, e, hl, q⟩ := h
  obtain ⟨u, rfl, r1⟩ := reps1 r
  unfold Rep at r1
  obtain ⟨rfl, _⟩ := r1
  refine ⟨a, L.map entT, rfl, tri_at w e, fun kv hkv => ?_, fun p bs cs hp hk pm => ?_⟩
  · obtain ⟨x, _, rfl⟩ := List.mem_map.mp hkv
    exact ⟨_, _, rfl⟩
  · obtain ⟨M0, pm0, pp⟩ := paired_perm pm (show Paired (fun p b => H b = some (.tup (p.1.map kV))) (L.map entT) bs from hk)
    obtain ⟨M, eM, pM⟩ : ∃ M : List Tri, M0 = M.map entT ∧ M.Perm L := map_perm pm0
    subst eM
    obtain ⟨f1, f2⟩ := w.fresh hp
    have st : Step G H G (upd H p (.lst (cs.map V.ref))) := Step.new hp
    have rep : ∀ (M : List Tri) (cs : List Addr), Paired (fun p b => H b = some (.tup (p.1.map kV))) (M.map entT) cs → Reps K H G P (M.map fun x => D.tup [.int x.1, .int x.2.1]) (cs.map V.ref) := by
      intro M
      induction M with
      | nil => intro cs h; cases h; exact reps_nil
      | cons x M ih =>
        intro cs h
        cases h with
        | cons a t =>
          have g := own_nt w a
          refine reps_cons ?_ (ih _ t)
          unfold Rep
          exact ⟨_, _, rfl, g.1, g.2, a, (show (2 : Nat) ≤ sizeLine by decide), reps_cons rep_int (reps_cons rep_int reps_nil)⟩
    refine k _ G _ _ st (w.new hp) (rep_lst f1 f2 upd_same (by rw [List.length_map, pM.length_eq]; exact hl) ((rep M cs pp).step st)) (q M pM)
end
end DL
set_option Elab.async false
set_option linter.all false
set_option maxRecDepth 100000
set_option maxHeartbeats 4000000
namespace DL
open PySem PySem.Spec PyProof.Rows L2 LN
def triD (x : Tri) : D := .tup [.int x.1, .int x.2.1, .int x.2.2]
structure TriOk (bn : Int) (L : List Tri) : Prop where
  all : ∀ x ∈ L, 0 ≤ x.1 ∧ x.1 < bn ∧ -1000000000000 ≤ x.2.1 ∧ x.2.1 ≤ 1000000000000 ∧ 1 ≤ x.2.2 ∧ x.2.2 ≤ 1000000000000
def F__law_bench_paper : Sf := fun ds G Q => ∃ (a : Addr) (x y z : Int) (bk : List Stretch) (bn most : Int), ds = [.ref a, .lst (bk.map Stretch.d), .int bn, .int most] ∧ G a = some (stO x y z) ∧ Ok3 x y z ∧ BOk bk ∧ 1 ≤ bn ∧ bn ≤ 100 ∧ 0 ≤ most ∧ most ≤ 100 ∧
  ∀ (L : List Tri) x' y' z', Ok3 x' y' z' → (L.length : Int) ≤ most → TriOk bn L → Q (.lst (L.map triD)) (gput G a (stO x' y' z'))
def r__law_bench_paper_L1 : ES :=
  (sAsg (eOp oAdd (eVar 4) (eLst (eCons (eVar 6) (eCons (eOp oSub (eVar 7) (eC (.int 1))) eNil)))) (.nm 4))
def r__law_bench_paper_L2 : ES :=
  (sSeq (sAsg (eTup (eCons (eCall F__law_take (eCons (eVar 0) (eCons (eVar 2) eNil))) (eCons (eOp oIx (eVar 4) (eCall F__law_take (eCons (eVar 0) (eCons (eCB cLen (eCons (eVar 4) eNil)) eNil)))) eNil))) (.nm 11))
  (sPutTri (eOp oAdd (eC (.int 1)) (eCall F__law_take (eCons (eVar 0) (eCons (eOp oIx (eLst (eCons (eC (.int 3)) (eCons (eC (.int 10)) (eCons (eC (.int 60)) (eCons (eC (.int 1000000000000)) eNil))))) (eCall F__law_take (eCons (eVar 0) (eCons (eC (.int 4)) eNil)))) eNil)))) (eVar 9) (eVar 11)))
def r__law_bench_paper : ES :=
  (sSeq (sAsg (eLst (eCons (eC (.int 0)) (eCons (eUn oNeg (eC (.int 1000000000000))) (eCons (eOp oSub (eC (.int 1000000000000)) (eC (.int 1))) eNil)))) (.nm 4))
  (sSeq (sFor (iL (eVar 1)) (.tp [5, 6, 7, 8]) r__law_bench_paper_L1)
  (sSeq (sAsg eDnewTri (.nm 9))
  (sSeq (sFor (iR1 (eCons (eCall F__law_take (eCons (eVar 0) (eCons (eOp oAdd (eVar 3) (eC (.int 1))) eNil))) eNil)) (.nm 10) r__law_bench_paper_L2)
  (sRet (eLc (iL (eCB cSortTri (eCons (eVar 9) eNil))) (.nm 11) eYes (eTup (eCons (eOp oIx (eVar 11) (eC (.int 0))) (eCons (eOp oIx (eVar 11) (eC (.int 1))) (eCons (eOp oGetTri (eVar 9) (eVar 11)) eNil)))) [11]))))))
theorem put_len (L : List Tri) (b m p : Int) : (putTri L b m p).length ≤ L.length + 1 := by
  unfold putTri
  split
  · rw [List.length_map]; omega
  · rw [List.length_append]; exact Nat.le_refl _
theorem put_mem {L : List Tri} {b m p : Int} {x : Tri} (h : x ∈ putTri L b m p) : (x ∈ L) ∨ x = (b, m, p) := by
  unfold putTri at h
  split at h
  · obtain ⟨y, hy, e⟩ := List.mem_map.mp h
    split at e
    · rename_i c
      rw [← e, c.1, c.2]
      exact .inr rfl
    · rw [← e]; exact .inl hy
  · rcases List.mem_append.mp h with q | q
    · exact .inl q
    · exact .inr (List.mem_singleton.mp q)
theorem get_mem {L : List Tri} {x : Tri} (h : x ∈ L) : ∃ p, getTri L x.1 x.2.1 = some p ∧ (x.1, x.2.1, p) ∈ L := by
  unfold getTri
  cases c : L.find? fun y => decide (y.1 = x.1 ∧ y.2.1 = x.2.1) with
  | none =>
    rw [List.find?_eq_none] at c
    exact (c x h (by simp)).elim
  | some y =>
    have h1 := List.mem_of_find?_eq_some c
    have h2 := List.find?_some c
    have h2 := of_decide_eq_true h2
    refine ⟨y.2.2, rfl, ?_⟩
    rw [← h2.1, ← h2.2]
    exact h1
theorem ix_allT {P : D → Prop} {L : List D} {i : Int} {G : Gp} {Q : DK} (h : ∀ d ∈ L, P d) (i0 : 0 ≤ i) (i1 : i < L.length) (k : ∀ d, P d → Q d G) : oIx (.lst L) (.int i) G Q := by
  obtain ⟨d, e, hd⟩ := at_mem i0 i1
  exact ix_at e (k d (h d hd))
theorem d__law_bench_paper (ds : List D) (G : Gp) (Q : DK) (h : F__law_bench_paper ds G Q) : r__law_bench_paper (fin G Q) (startD 12 ds) G := by
  obtain ⟨a, x, y, z, bk, bn, most, rfl, hG, ok, hb, n0, n1, m0, m1, k⟩ := h
  have bl := hb.len
  refine seq_gen fun W hW => ?_
  (try dsimp only [sAsg, sIf, sRet, sRetN, sDrop, sNext, asg, setAll, eT, eOp, eUn, eLst, eTup, eCons, eNil, eVar, eC, eCall, eCB, eNot, eAnd, eOr, eTru, eAndT, eOrT, eNotT, eIf, ePart, eNoPart, eYes, eChain, eChain3, oI, oI0, oLt, oLe, oGt, oGe, oNeg, oSub, oMod, oMul, oDivW, eXp, eXa, eConsX, eCallX, eCallN, eLstX, eCBX, sDropX, sRetX, sAsgX, sRaise, sRaiseF, List.set_cons_zero, List.set_cons_succ, List.getElem?_cons_zero, List.getElem?_cons_succ, truD_bl, startD, List.map_cons, List.map_nil, List.cons_append, List.nil_append, List.replicate]); (try simp only [if_true, Bool.false_eq_true, if_false, decide_true, decide_false, Bool.not_true, Bool.not_false, List.length_cons, List.length_nil, sizeLine_eq, Nat.reduceAdd, Nat.reduceLeDiff, true_and, and_true, pw6, pw10, pw11, pw12, pw13, pw30, pw40, pw60, startD, List.map_cons, List.map_nil, List.cons_append, List.nil_append, List.replicate]); (try dsimp only [sAsg, sIf, sRet, sRetN, sDrop, sNext, asg, setAll, eT, eOp, eUn, eLst, eTup, eCons, eNil, eVar, eC, eCall, eCB, eNot, eAnd, eOr, eTru, eAndT, eOrT, eNotT, eIf, ePart, eNoPart, eYes, eChain, eChain3, oI, oI0, oLt, oLe, oGt, oGe, oNeg, oSub, oMod, oMul, oDivW, eXp, eXa, eConsX, eCallX, eCallN, eLstX, eCBX, sDropX, sRetX, sAsgX, sRaise, sRaiseF, List.set_cons_zero, List.set_cons_succ, List.getElem?_cons_zero, List.getElem?_cons_succ, truD_bl, startD, List.map_cons, List.map_nil, List.cons_append, List.nil_append, List.replicate])
  refine hW _ _ ?_
  refine seq_gen fun W2 hW2 => ?_
  (try dsimp only [sAsg, sIf, sRet, sRetN, sDrop, sNext, asg, setAll, eT, eOp, eUn, eLst, eTup, eCons, eNil, eVar, eC, eCall, eCB, eNot, eAnd, eOr, eTru, eAndT, eOrT, eNotT, eIf, ePart, eNoPart, eYes, eChain, eChain3, oI, oI0, oLt, oLe, oGt, oGe, oNeg, oSub, oMod, oMul, oDivW, eXp, eXa, eConsX, eCallX, eCallN, eLstX, eCBX, sDropX, sRetX, sAsgX, sRaise, sRaiseF, List.set_cons_zero, List.set_cons_succ, List.getElem?_cons_zero, List.getElem?_cons_succ, truD_bl, sFor, iL, lkL_lst]); (try simp only [if_true, Bool.false_eq_true, if_false, decide_true, decide_false, Bool.not_true, Bool.not_false, List.length_cons, List.length_nil, sizeLine_eq, Nat.reduceAdd, Nat.reduceLeDiff, true_and, and_true, pw6, pw10, pw11, pw12, pw13, pw30, pw40, pw60, sFor, iL, lkL_lst]); (try dsimp only [sAsg, sIf, sRet, sRetN, sDrop, sNext, asg, setAll, eT, eOp, eUn, eLst, eTup, eCons, eNil, eVar, eC, eCall, eCB, eNot, eAnd, eOr, eTru, eAndT, eOrT, eNotT, eIf, ePart, eNoPart, eYes, eChain, eChain3, oI, oI0, oLt, oLe, oGt, oGe, oNeg, oSub, oMod, oMul, oDivW, eXp, eXa, eConsX, eCallX, eCallN, eLstX, eCBX, sDropX, sRetX, sAsgX, sRaise, sRaiseF, List.set_cons_zero, List.set_cons_succ, List.getElem?_cons_zero, List.getElem?_cons_succ, truD_bl, sFor, iL, lkL_lst])
  refine forW_ind (g := Stretch.d) (fun r s G' => G' = G ∧ (∀ t ∈ r, SOk t) ∧ ∃ (M : List Int) (o5 o6 o7 o8 : Option D), s = [some (.ref a), some (.lst (bk.map Stretch.d)), some (.int bn), some (.int most), some (.lst (M.map D.int)), o5, o6, o7, o8, none, none, none] ∧ M.length + 2 * r.length ≤ 100 ∧ 0 < M.length ∧ ∀ m ∈ M, -1000000000000 ≤ m ∧ m ≤ 1000000000000) (fun r s G' ⟨e, _⟩ => by rw [e]; exact stays_of lkL_lst) ?_ ?_ bk _ _ ⟨rfl, hb.all, [0, -1000000000000, 1000000000000 - 1], _, _, _, _, rfl, by simp; omega, by decide, by decide⟩
  · rintro t r s G' W3 ⟨rfl, hr, M, o5, o6, o7, o8, rfl, hM, hp, hm⟩ hW3
    have ht := hr t (List.mem_cons_self ..)
    have t1 := ht.lo
    have t2 := ht.lt
    have t3 := ht.hi
    rw [List.length_cons] at hM
    (try dsimp only [sAsg, sIf, sRet, sRetN, sDrop, sNext, asg, setAll, eT, eOp, eUn, eLst, eTup, eCons, eNil, eVar, eC, eCall, eCB, eNot, eAnd, eOr, eTru, eAndT, eOrT, eNotT, eIf, ePart, eNoPart, eYes, eChain, eChain3, oI, oI0, oLt, oLe, oGt, oGe, oNeg, oSub, oMod, oMul, oDivW, eXp, eXa, eConsX, eCallX, eCallN, eLstX, eCBX, sDropX, sRetX, sAsgX, sRaise, sRaiseF, List.set_cons_zero, List.set_cons_succ, List.getElem?_cons_zero, List.getElem?_cons_succ, truD_bl, Stretch.d, lkQ_tup]); (try simp only [if_true, Bool.false_eq_true, if_false, decide_true, decide_false, Bool.not_true, Bool.not_false, List.length_cons, List.length_nil, sizeLine_eq, Nat.reduceAdd, Nat.reduceLeDiff, true_and, and_true, pw6, pw10, pw11, pw12, pw13, pw30, pw40, pw60, Stretch.d, lkQ_tup]); (try dsimp only [sAsg, sIf, sRet, sRetN, sDrop, sNext, asg, setAll, eT, eOp, eUn, eLst, eTup, eCons, eNil, eVar, eC, eCall, eCB, eNot, eAnd, eOr, eTru, eAndT, eOrT, eNotT, eIf, ePart, eNoPart, eYes, eChain, eChain3, oI, oI0, oLt, oLe, oGt, oGe, oNeg, oSub, oMod, oMul, oDivW, eXp, eXa, eConsX, eCallX, eCallN, eLstX, eCBX, sDropX, sRetX, sAsgX, sRaise, sRaiseF, List.set_cons_zero, List.set_cons_succ, List.getElem?_cons_zero, List.getElem?_cons_succ, truD_bl, Stretch.d, lkQ_tup])
    unfold r__law_bench_paper_L1
    (try dsimp only [sAsg, sIf, sRet, sRetN, sDrop, sNext, asg, setAll, eT, eOp, eUn, eLst, eTup, eCons, eNil, eVar, eC, eCall, eCB, eNot, eAnd, eOr, eTru, eAndT, eOrT, eNotT, eIf, ePart, eNoPart, eYes, eChain, eChain3, oI, oI0, oLt, oLe, oGt, oGe, oNeg, oSub, oMod, oMul, oDivW, eXp, eXa, eConsX, eCallX, eCallN, eLstX, eCBX, sDropX, sRetX, sAsgX, sRaise, sRaiseF, List.set_cons_zero, List.set_cons_succ, List.getElem?_cons_zero, List.getElem?_cons_succ, truD_bl]); (try simp only [if_true, Bool.false_eq_true, if_false, decide_true, decide_false, Bool.not_true, Bool.not_false, List.length_cons, List.length_nil, sizeLine_eq, Nat.reduceAdd, Nat.reduceLeDiff, true_and, and_true, pw6, pw10, pw11, pw12, pw13, pw30, pw40, pw60]); (try dsimp only [sAsg, sIf, sRet, sRetN, sDrop, sNext, asg, setAll, eT, eOp, eUn, eLst, eTup, eCons, eNil, eVar, eC, eCall, eCB, eNot, eAnd, eOr, eTru, eAndT, eOrT, eNotT, eIf, ePart, eNoPart, eYes, eChain, eChain3, oI, oI0, oLt, oLe, oGt, oGe, oNeg, oSub, oMod, oMul, oDivW, eXp, eXa, eConsX, eCallX, eCallN, eLstX, eCBX, sDropX, sRetX, sAsgX, sRaise, sRaiseF, List.set_cons_zero, List.set_cons_succ, List.getElem?_cons_zero, List.getElem?_cons_succ, truD_bl])
    refine add_ok (by simp; omega) (hW3 _ _ ⟨rfl, fun u hu => hr u (List.mem_cons_of_mem _ hu), M ++ [t.b, t.e - 1], some (.str t.name), some (.int t.b), some (.int t.e), some (.int t.w), ?_, by rw [List.length_append]; simp; omega, by rw [List.length_append]; omega, fun m hm2 => ?_⟩)
    · rw [List.map_append]
      rfl
    · simp only [List.mem_append, List.mem_cons, List.not_mem_nil, or_false] at hm2
      rcases hm2 with q | rfl | rfl
      · exact hm m q
      · omega
      · omega
  · rintro s G' ⟨rfl, _, M, o5, o6, o7, o8, rfl, hM, hp, hm⟩
    refine hW2 _ _ ?_
    refine seq_gen fun W3 hW3 => ?_
    (try dsimp only [sAsg, sIf, sRet, sRetN, sDrop, sNext, asg, setAll, eT, eOp, eUn, eLst, eTup, eCons, eNil, eVar, eC, eCall, eCB, eNot, eAnd, eOr, eTru, eAndT, eOrT, eNotT, eIf, ePart, eNoPart, eYes, eChain, eChain3, oI, oI0, oLt, oLe, oGt, oGe, oNeg, oSub, oMod, oMul, oDivW, eXp, eXa, eConsX, eCallX, eCallN, eLstX, eCBX, sDropX, sRetX, sAsgX, sRaise, sRaiseF, List.set_cons_zero, List.set_cons_succ, List.getElem?_cons_zero, List.getElem?_cons_succ, truD_bl, eDnewTri]); (try simp only [if_true, Bool.false_eq_true, if_false, decide_true, decide_false, Bool.not_true, Bool.not_false, List.length_cons, List.length_nil, sizeLine_eq, Nat.reduceAdd, Nat.reduceLeDiff, true_and, and_true, pw6, pw10, pw11, pw12, pw13, pw30, pw40, pw60, eDnewTri]); (try dsimp only [sAsg, sIf, sRet, sRetN, sDrop, sNext, asg, setAll, eT, eOp, eUn, eLst, eTup, eCons, eNil, eVar, eC, eCall, eCB, eNot, eAnd, eOr, eTru, eAndT, eOrT, eNotT, eIf, ePart, eNoPart, eYes, eChain, eChain3, oI, oI0, oLt, oLe, oGt, oGe, oNeg, oSub, oMod, oMul, oDivW, eXp, eXa, eConsX, eCallX, eCallN, eLstX, eCBX, sDropX, sRetX, sAsgX, sRaise, sRaiseF, List.set_cons_zero, List.set_cons_succ, List.getElem?_cons_zero, List.getElem?_cons_succ, truD_bl, eDnewTri])
    intro q hq
    have qa : q ≠ a := fun e => by rw [e, hG] at hq; cases hq
    refine hW3 _ _ ?_
    refine seq_gen fun W4 hW4 => ?_
    (try dsimp only [sAsg, sIf, sRet, sRetN, sDrop, sNext, asg, setAll, eT, eOp, eUn, eLst, eTup, eCons, eNil, eVar, eC, eCall, eCB, eNot, eAnd, eOr, eTru, eAndT, eOrT, eNotT, eIf, ePart, eNoPart, eYes, eChain, eChain3, oI, oI0, oLt, oLe, oGt, oGe, oNeg, oSub, oMod, oMul, oDivW, eXp, eXa, eConsX, eCallX, eCallN, eLstX, eCBX, sDropX, sRetX, sAsgX, sRaise, sRaiseF, List.set_cons_zero, List.set_cons_succ, List.getElem?_cons_zero, List.getElem?_cons_succ, truD_bl, sFor, iR1]); (try simp only [if_true, Bool.false_eq_true, if_false, decide_true, decide_false, Bool.not_true, Bool.not_false, List.length_cons, List.length_nil, sizeLine_eq, Nat.reduceAdd, Nat.reduceLeDiff, true_and, and_true, pw6, pw10, pw11, pw12, pw13, pw30, pw40, pw60, sFor, iR1]); (try dsimp only [sAsg, sIf, sRet, sRetN, sDrop, sNext, asg, setAll, eT, eOp, eUn, eLst, eTup, eCons, eNil, eVar, eC, eCall, eCB, eNot, eAnd, eOr, eTru, eAndT, eOrT, eNotT, eIf, ePart, eNoPart, eYes, eChain, eChain3, oI, oI0, oLt, oLe, oGt, oGe, oNeg, oSub, oMod, oMul, oDivW, eXp, eXa, eConsX, eCallX, eCallN, eLstX, eCBX, sDropX, sRetX, sAsgX, sRaise, sRaiseF, List.set_cons_zero, List.set_cons_succ, List.getElem?_cons_zero, List.getElem?_cons_succ, truD_bl, sFor, iR1])
    refine add_ii ?_
    have gq : ∀ (x y z : Int) (o : GO), gput (gput G' q o) a (stO x y z) = gput (gput G' a (stO x y z)) q o := fun x y z o => gput_comm qa
    refine take_ok (by rw [gput_ne qa.symm]; exact hG) ok (wd_of (by omega) (by omega)) fun nn x y z ok nn0 nn1 => ?_
    rw [gq]
    (try dsimp only [sAsg, sIf, sRet, sRetN, sDrop, sNext, asg, setAll, eT, eOp, eUn, eLst, eTup, eCons, eNil, eVar, eC, eCall, eCB, eNot, eAnd, eOr, eTru, eAndT, eOrT, eNotT, eIf, ePart, eNoPart, eYes, eChain, eChain3, oI, oI0, oLt, oLe, oGt, oGe, oNeg, oSub, oMod, oMul, oDivW, eXp, eXa, eConsX, eCallX, eCallN, eLstX, eCBX, sDropX, sRetX, sAsgX, sRaise, sRaiseF, List.set_cons_zero, List.set_cons_succ, List.getElem?_cons_zero, List.getElem?_cons_succ, truD_bl]); (try simp only [if_true, Bool.false_eq_true, if_false, decide_true, decide_false, Bool.not_true, Bool.not_false, List.length_cons, List.length_nil, sizeLine_eq, Nat.reduceAdd, Nat.reduceLeDiff, true_and, and_true, pw6, pw10, pw11, pw12, pw13, pw30, pw40, pw60]); (try dsimp only [sAsg, sIf, sRet, sRetN, sDrop, sNext, asg, setAll, eT, eOp, eUn, eLst, eTup, eCons, eNil, eVar, eC, eCall, eCB, eNot, eAnd, eOr, eTru, eAndT, eOrT, eNotT, eIf, ePart, eNoPart, eYes, eChain, eChain3, oI, oI0, oLt, oLe, oGt, oGe, oNeg, oSub, oMod, oMul, oDivW, eXp, eXa, eConsX, eCallX, eCallN, eLstX, eCBX, sDropX, sRetX, sAsgX, sRaise, sRaiseF, List.set_cons_zero, List.set_cons_succ, List.getElem?_cons_zero, List.getElem?_cons_succ, truD_bl])
    refine ⟨by omega, by omega, ?_⟩
    have gs : ∀ (x y z : Int) (o : GO), gput (gput G' a (stO x y z)) q o a = some (stO x y z) := fun x y z o => by rw [gput_ne qa.symm]; exact gput_same
    refine forW_rng (fun j s G'' => ∃ (x y z : Int) (L : List Tri) (o10 o11 : Option D), Ok3 x y z ∧ G'' = gput (gput G' a (stO x y z)) q (triO L) ∧ s = [some (.ref a), some (.lst (bk.map Stretch.d)), some (.int bn), some (.int most), some (.lst (M.map D.int)), o5, o6, o7, o8, some (.ref q), o10, o11] ∧ L.length ≤ j ∧ TriOk bn L) ?_ ?_ ⟨x, y, z, [], _, _, ok, rfl, rfl, Nat.le_refl _, ⟨fun x hx => by cases hx⟩⟩
    · rintro j s G'' W5 hj ⟨x, y, z, L, o10, o11, ok, rfl, rfl, hL, hT⟩ hW5
      (try dsimp only [sAsg, sIf, sRet, sRetN, sDrop, sNext, asg, setAll, eT, eOp, eUn, eLst, eTup, eCons, eNil, eVar, eC, eCall, eCB, eNot, eAnd, eOr, eTru, eAndT, eOrT, eNotT, eIf, ePart, eNoPart, eYes, eChain, eChain3, oI, oI0, oLt, oLe, oGt, oGe, oNeg, oSub, oMod, oMul, oDivW, eXp, eXa, eConsX, eCallX, eCallN, eLstX, eCBX, sDropX, sRetX, sAsgX, sRaise, sRaiseF, List.set_cons_zero, List.set_cons_succ, List.getElem?_cons_zero, List.getElem?_cons_succ, truD_bl]); (try simp only [if_true, Bool.false_eq_true, if_false, decide_true, decide_false, Bool.not_true, Bool.not_false, List.length_cons, List.length_nil, sizeLine_eq, Nat.reduceAdd, Nat.reduceLeDiff, true_and, and_true, pw6, pw10, pw11, pw12, pw13, pw30, pw40, pw60]); (try dsimp only [sAsg, sIf, sRet, sRetN, sDrop, sNext, asg, setAll, eT, eOp, eUn, eLst, eTup, eCons, eNil, eVar, eC, eCall, eCB, eNot, eAnd, eOr, eTru, eAndT, eOrT, eNotT, eIf, ePart, eNoPart, eYes, eChain, eChain3, oI, oI0, oLt, oLe, oGt, oGe, oNeg, oSub, oMod, oMul, oDivW, eXp, eXa, eConsX, eCallX, eCallN, eLstX, eCBX, sDropX, sRetX, sAsgX, sRaise, sRaiseF, List.set_cons_zero, List.set_cons_succ, List.getElem?_cons_zero, List.getElem?_cons_succ, truD_bl])
      unfold r__law_bench_paper_L2
      refine seq_gen fun W6 hW6 => ?_
      (try dsimp only [sAsg, sIf, sRet, sRetN, sDrop, sNext, asg, setAll, eT, eOp, eUn, eLst, eTup, eCons, eNil, eVar, eC, eCall, eCB, eNot, eAnd, eOr, eTru, eAndT, eOrT, eNotT, eIf, ePart, eNoPart, eYes, eChain, eChain3, oI, oI0, oLt, oLe, oGt, oGe, oNeg, oSub, oMod, oMul, oDivW, eXp, eXa, eConsX, eCallX, eCallN, eLstX, eCBX, sDropX, sRetX, sAsgX, sRaise, sRaiseF, List.set_cons_zero, List.set_cons_succ, List.getElem?_cons_zero, List.getElem?_cons_succ, truD_bl]); (try simp only [if_true, Bool.false_eq_true, if_false, decide_true, decide_false, Bool.not_true, Bool.not_false, List.length_cons, List.length_nil, sizeLine_eq, Nat.reduceAdd, Nat.reduceLeDiff, true_and, and_true, pw6, pw10, pw11, pw12, pw13, pw30, pw40, pw60]); (try dsimp only [sAsg, sIf, sRet, sRetN, sDrop, sNext, asg, setAll, eT, eOp, eUn, eLst, eTup, eCons, eNil, eVar, eC, eCall, eCB, eNot, eAnd, eOr, eTru, eAndT, eOrT, eNotT, eIf, ePart, eNoPart, eYes, eChain, eChain3, oI, oI0, oLt, oLe, oGt, oGe, oNeg, oSub, oMod, oMul, oDivW, eXp, eXa, eConsX, eCallX, eCallN, eLstX, eCBX, sDropX, sRetX, sAsgX, sRaise, sRaiseF, List.set_cons_zero, List.set_cons_succ, List.getElem?_cons_zero, List.getElem?_cons_succ, truD_bl])
      refine take_ok (gs _ _ _ _) ok (wd_of (by omega) (by omega)) fun b x y z ok b0 b1 => ?_
      rw [gput_swap qa]
      refine len_lst ?_
      rw [List.length_map]
      refine take_ok (gs _ _ _ _) ok (wd_of (by omega) (by omega)) fun i x y z ok i0 i1 => ?_
      rw [gput_swap qa]
      refine ix_allT (P := fun d => ∃ m : Int, d = .int m ∧ -1000000000000 ≤ m ∧ m ≤ 1000000000000) (fun d hd => ?_) i0 (by rw [List.length_map]; exact i1) fun d hd => ?_
      · obtain ⟨m, hm2, rfl⟩ := List.mem_map.mp hd
        exact ⟨m, rfl, hm m hm2⟩
      obtain ⟨m, rfl, ml, mh⟩ := hd
      (try dsimp only [sAsg, sIf, sRet, sRetN, sDrop, sNext, asg, setAll, eT, eOp, eUn, eLst, eTup, eCons, eNil, eVar, eC, eCall, eCB, eNot, eAnd, eOr, eTru, eAndT, eOrT, eNotT, eIf, ePart, eNoPart, eYes, eChain, eChain3, oI, oI0, oLt, oLe, oGt, oGe, oNeg, oSub, oMod, oMul, oDivW, eXp, eXa, eConsX, eCallX, eCallN, eLstX, eCBX, sDropX, sRetX, sAsgX, sRaise, sRaiseF, List.set_cons_zero, List.set_cons_succ, List.getElem?_cons_zero, List.getElem?_cons_succ, truD_bl]); (try simp only [if_true, Bool.false_eq_true, if_false, decide_true, decide_false, Bool.not_true, Bool.not_false, List.length_cons, List.length_nil, sizeLine_eq, Nat.reduceAdd, Nat.reduceLeDiff, true_and, and_true, pw6, pw10, pw11, pw12, pw13, pw30, pw40, pw60]); (try dsimp only [sAsg, sIf, sRet, sRetN, sDrop, sNext, asg, setAll, eT, eOp, eUn, eLst, eTup, eCons, eNil, eVar, eC, eCall, eCB, eNot, eAnd, eOr, eTru, eAndT, eOrT, eNotT, eIf, ePart, eNoPart, eYes, eChain, eChain3, oI, oI0, oLt, oLe, oGt, oGe, oNeg, oSub, oMod, oMul, oDivW, eXp, eXa, eConsX, eCallX, eCallN, eLstX, eCBX, sDropX, sRetX, sAsgX, sRaise, sRaiseF, List.set_cons_zero, List.set_cons_succ, List.getElem?_cons_zero, List.getElem?_cons_succ, truD_bl])
      refine hW6 _ _ ?_
      (try dsimp only [sAsg, sIf, sRet, sRetN, sDrop, sNext, asg, setAll, eT, eOp, eUn, eLst, eTup, eCons, eNil, eVar, eC, eCall, eCB, eNot, eAnd, eOr, eTru, eAndT, eOrT, eNotT, eIf, ePart, eNoPart, eYes, eChain, eChain3, oI, oI0, oLt, oLe, oGt, oGe, oNeg, oSub, oMod, oMul, oDivW, eXp, eXa, eConsX, eCallX, eCallN, eLstX, eCBX, sDropX, sRetX, sAsgX, sRaise, sRaiseF, List.set_cons_zero, List.set_cons_succ, List.getElem?_cons_zero, List.getElem?_cons_succ, truD_bl, sPutTri]); (try simp only [if_true, Bool.false_eq_true, if_false, decide_true, decide_false, Bool.not_true, Bool.not_false, List.length_cons, List.length_nil, sizeLine_eq, Nat.reduceAdd, Nat.reduceLeDiff, true_and, and_true, pw6, pw10, pw11, pw12, pw13, pw30, pw40, pw60, sPutTri]); (try dsimp only [sAsg, sIf, sRet, sRetN, sDrop, sNext, asg, setAll, eT, eOp, eUn, eLst, eTup, eCons, eNil, eVar, eC, eCall, eCB, eNot, eAnd, eOr, eTru, eAndT, eOrT, eNotT, eIf, ePart, eNoPart, eYes, eChain, eChain3, oI, oI0, oLt, oLe, oGt, oGe, oNeg, oSub, oMod, oMul, oDivW, eXp, eXa, eConsX, eCallX, eCallN, eLstX, eCBX, sDropX, sRetX, sAsgX, sRaise, sRaiseF, List.set_cons_zero, List.set_cons_succ, List.getElem?_cons_zero, List.getElem?_cons_succ, truD_bl, sPutTri])
      refine take_ok (gs _ _ _ _) ok (wd_of (by decide) (by decide)) fun i x y z ok i0 i1 => ?_
      rw [gput_swap qa]
      refine ix_allT (P := fun d => ∃ m : Int, d = .int m ∧ 1 ≤ m ∧ m ≤ 1000000000000) (fun d hd => ?_) i0 (by simpa using i1) fun d hd => ?_
      · simp only [List.mem_cons, List.not_mem_nil, or_false] at hd
        rcases hd with rfl | rfl | rfl | rfl
        · exact ⟨_, rfl, by decide, by decide⟩
        · exact ⟨_, rfl, by decide, by decide⟩
        · exact ⟨_, rfl, by decide, by decide⟩
        · exact ⟨_, rfl, by decide, by decide⟩
      obtain ⟨w, rfl, wl, wh⟩ := hd
      refine take_ok (gs _ _ _ _) ok (wd_of (by omega) (by omega)) fun p x y z ok p0 p1 => ?_
      rw [gput_swap qa]
      refine add_ii ?_
      refine ⟨q, b, m, 1 + p, L, rfl, rfl, rfl, gput_same, by omega, hW5 _ _ ⟨x, y, z, putTri L b m (1 + p), _, _, ok, by rw [gput_gput], rfl, Nat.le_trans (put_len ..) (by omega), ⟨fun u hu => ?_⟩⟩⟩
      rcases put_mem hu with h | rfl
      · exact hT.all u h
      · exact ⟨b0, b1, ml, mh, show 1 ≤ 1 + p by omega, show 1 + p ≤ 1000000000000 by omega⟩
    · rintro s G'' ⟨x, y, z, L, o10, o11, ok, rfl, rfl, hL, hT⟩
      refine hW4 _ _ ?_
      (try dsimp only [sAsg, sIf, sRet, sRetN, sDrop, sNext, asg, setAll, eT, eOp, eUn, eLst, eTup, eCons, eNil, eVar, eC, eCall, eCB, eNot, eAnd, eOr, eTru, eAndT, eOrT, eNotT, eIf, ePart, eNoPart, eYes, eChain, eChain3, oI, oI0, oLt, oLe, oGt, oGe, oNeg, oSub, oMod, oMul, oDivW, eXp, eXa, eConsX, eCallX, eCallN, eLstX, eCBX, sDropX, sRetX, sAsgX, sRaise, sRaiseF, List.set_cons_zero, List.set_cons_succ, List.getElem?_cons_zero, List.getElem?_cons_succ, truD_bl, eLc, iL, cSortTri]); (try simp only [if_true, Bool.false_eq_true, if_false, decide_true, decide_false, Bool.not_true, Bool.not_false, List.length_cons, List.length_nil, sizeLine_eq, Nat.reduceAdd, Nat.reduceLeDiff, true_and, and_true, pw6, pw10, pw11, pw12, pw13, pw30, pw40, pw60, eLc, iL, cSortTri]); (try dsimp only [sAsg, sIf, sRet, sRetN, sDrop, sNext, asg, setAll, eT, eOp, eUn, eLst, eTup, eCons, eNil, eVar, eC, eCall, eCB, eNot, eAnd, eOr, eTru, eAndT, eOrT, eNotT, eIf, ePart, eNoPart, eYes, eChain, eChain3, oI, oI0, oLt, oLe, oGt, oGe, oNeg, oSub, oMod, oMul, oDivW, eXp, eXa, eConsX, eCallX, eCallN, eLstX, eCBX, sDropX, sRetX, sAsgX, sRaise, sRaiseF, List.set_cons_zero, List.set_cons_succ, List.getElem?_cons_zero, List.getElem?_cons_succ, truD_bl, eLc, iL, cSortTri])
      refine ⟨q, L, rfl, gput_same, by omega, fun M2 pm => ?_⟩
      simp only [lkL_lst]
      refine compW_all (f := fun x : Tri => triD (x.1, x.2.1, (getTri L x.1 x.2.1).getD 0)) (stays_of lkL_lst) M2 [] (fun u hu => ⟨_, rfl, fun R r => ?_⟩) ?_
      · obtain ⟨p, e, _⟩ := get_mem (pm.mem_iff.mp hu)
        (try dsimp only [sAsg, sIf, sRet, sRetN, sDrop, sNext, asg, setAll, eT, eOp, eUn, eLst, eTup, eCons, eNil, eVar, eC, eCall, eCB, eNot, eAnd, eOr, eTru, eAndT, eOrT, eNotT, eIf, ePart, eNoPart, eYes, eChain, eChain3, oI, oI0, oLt, oLe, oGt, oGe, oNeg, oSub, oMod, oMul, oDivW, eXp, eXa, eConsX, eCallX, eCallN, eLstX, eCBX, sDropX, sRetX, sAsgX, sRaise, sRaiseF, List.set_cons_zero, List.set_cons_succ, List.getElem?_cons_zero, List.getElem?_cons_succ, truD_bl, wipeD, List.foldl_cons, List.foldl_nil]); (try simp only [if_true, Bool.false_eq_true, if_false, decide_true, decide_false, Bool.not_true, Bool.not_false, List.length_cons, List.length_nil, sizeLine_eq, Nat.reduceAdd, Nat.reduceLeDiff, true_and, and_true, pw6, pw10, pw11, pw12, pw13, pw30, pw40, pw60, wipeD, List.foldl_cons, List.foldl_nil]); (try dsimp only [sAsg, sIf, sRet, sRetN, sDrop, sNext, asg, setAll, eT, eOp, eUn, eLst, eTup, eCons, eNil, eVar, eC, eCall, eCB, eNot, eAnd, eOr, eTru, eAndT, eOrT, eNotT, eIf, ePart, eNoPart, eYes, eChain, eChain3, oI, oI0, oLt, oLe, oGt, oGe, oNeg, oSub, oMod, oMul, oDivW, eXp, eXa, eConsX, eCallX, eCallN, eLstX, eCBX, sDropX, sRetX, sAsgX, sRaise, sRaiseF, List.set_cons_zero, List.set_cons_succ, List.getElem?_cons_zero, List.getElem?_cons_succ, truD_bl, wipeD, List.foldl_cons, List.foldl_nil])
        refine ixt_0 (d := .int u.1) rfl (ixt_0 (d := .int u.2.1) rfl ?_)
        refine ⟨q, u.1, u.2.1, L, p, rfl, rfl, gput_same, e, ?_⟩
        rw [e] at r
        exact r
      rw [List.nil_append]
      have eN : (M2.map fun x : Tri => triD (x.1, x.2.1, (getTri L x.1 x.2.1).getD 0)) = (M2.map fun x : Tri => ((x.1, x.2.1, (getTri L x.1 x.2.1).getD 0) : Tri)).map triD := by rw [List.map_map]; rfl
      rw [eN]
      have hN : ∀ u ∈ (M2.map fun x : Tri => ((x.1, x.2.1, (getTri L x.1 x.2.1).getD 0) : Tri)), u ∈ L := fun u hu => by
        obtain ⟨v, hv, rfl⟩ := List.mem_map.mp hu
        obtain ⟨p, e, e2⟩ := get_mem (pm.mem_iff.mp hv)
        rw [e]
        exact e2
      have e2 : (M2.map fun x : Tri => ((x.1, x.2.1, (getTri L x.1 x.2.1).getD 0) : Tri)).length = M2.length := List.length_map ..
      generalize (M2.map fun x : Tri => ((x.1, x.2.1, (getTri L x.1 x.2.1).getD 0) : Tri)) = N at hN e2 ⊢
      refine ⟨.lst (N.map triD), gput G' a (stO x y z), fz_sub ?_ ?_ ?_ (refIn_plain ?_), k N _ _ _ ok (by rw [e2, pm.length_eq]; omega) ⟨fun u hu => hT.all u (hN u hu)⟩⟩
      · intro b u e
        by_cases hbq : b = q
        · subst hbq; rw [gput_ne qa, hq] at e; cases e
        · rw [gput_ne hbq]; exact e
      · intro b u e
        by_cases hba : b = a
        · subst hba; exact ⟨_, gput_same⟩
        · exact ⟨u, by rw [gput_ne hba]; exact e⟩
      · intro b u e
        by_cases hba : b = a
        · subst hba; rw [gput_same] at e; cases e; exact .inl (by simp [RefO, stO, RefIns, RefIn])
        · rw [gput_ne hba] at e; exact .inr e
      · simp only [plainD]; exact plainDs_map (fun x => by simp [triD, plainD, plainDs]) _
end DL
set_option Elab.async false
set_option linter.all false
set_option maxRecDepth 100000
set_option maxHeartbeats 400000
namespace HotY
open PySem PySem.Spec PyProof.Rows HotX
def Raisy (prog : Program) (w : World) (hd : Option Value) (C : List Addr) (h : Heap) : Prop :=
  (∀ b ∈ C, ∃ o, h.get? b = some o) ∧ ∀ (A : Around) (α : Type) (s : Shared) (a : Addr) (oe : Obj) (vs : Array Value) (Q : α → Shared → Prop) (E : Value → Shared → Prop), A.handled = hd → (∀ b ∈ C, ∀ o, h.get? b = some o → s.heap.get? b = some o) → a ∉ C →
    s.heap.get? a = some oe → oe.data = .fields vs → 2 < vs.size → (∀ h2, (∀ b, b ≠ a → h2.get? b = s.heap.get? b) → (∃ o2, h2.get? a = some o2 ∧ o2.cls = oe.cls) → E (.ref a) { s with heap := h2 }) → wpAny (model prog w) A (raiseNew (.ref a) : Sem α) Q E s
section
variable {prog : Program} {w : World} {A : Around} {E : Value → Shared → Prop} {s : Shared}
theorem Raisy.keeps {hd : Option Value} {C : List Addr} {h h' : Heap} (r : Raisy prog w hd C h) (k : ∀ b ∈ C, ∀ o, h.get? b = some o → h'.get? b = some o) : Raisy prog w hd C h' :=
  ⟨fun b hb => let ⟨o, e⟩ := r.1 b hb; ⟨o, k b hb o e⟩, fun A α s a oe vs Q E hh hk => r.2 A α s a oe vs Q E hh fun b hb o e => hk b hb o (k b hb o e)⟩
end
end HotY
set_option Elab.async false
set_option linter.all false
set_option maxRecDepth 100000
set_option maxHeartbeats 4000000
namespace L2
open PySem PySem.Spec PyProof.Rows
/-- an exception is handled, and its contexts C are known -/
def HotQ (X : Cx) : Prop := ∃ C : List Addr, ∀ (pins : List (Addr × Obj)) (σ : St) (H : Hp) (s : Shared), Inv X pins σ H s → HotY.Raisy X.prog X.w X.A.handled C s.heap ∧ ∀ c ∈ C, H c = none ∧ c ∉ frs X.stack ∧ ∀ b, FpOk X pins H b → c ≠ b
structure TurnQ (P : Program) (w : World) (K : PySem.W.Frag) (tg : Expr) (J : It) (fp : List Addr) (it : Addr) (tn : Nat → Heap → Prop) : Prop where
  mem : it ∈ fp
  obj : ∀ i h, tn i h → ∀ b ∈ fp, ∃ o, h.get? b = some o ∧ ∀ v, o.data ≠ .cell v
  keep : ∀ i h h', tn i h → (∀ b ∈ fp, ∀ o, h.get? b = some o → h'.get? b = some o) → tn i h'
  item : ∀ (X : Cx), X.prog = P → X.w = w → X.K = K → HotQ X → ∀ (i : Nat) (pins : List (Addr × Obj)) (s : Shared) (σ : St) (H : Hp) (E : Value → Shared → Prop), Inv X pins σ H s → (∀ b ∈ fp, FpOk X pins H b) → tn i s.heap → J.go i H →
    wpAny (model P w) X.A (pyNext (.ref it)) (fun r s1 => ∃ u, r = some u ∧
      wpAny (model P w) X.A (letOwnedTupleGo tg (.ref it) u) (fun _ s2 => ∃ x H', Inv X pins σ H' s2 ∧ RelV x u ∧ J.yld i H x H' ∧ tn (i + 1) s2.heap ∧ ∀ b ∈ fp, H' b = none) E s1) E s
  done : ∀ (X : Cx), X.prog = P → X.w = w → X.K = K → HotQ X → ∀ (i : Nat) (pins : List (Addr × Obj)) (s : Shared) (σ : St) (H : Hp) (E : Value → Shared → Prop), Inv X pins σ H s → (∀ b ∈ fp, FpOk X pins H b) → tn i s.heap → J.stop i H →
    wpAny (model P w) X.A (pyNext (.ref it)) (fun r s1 => r = none ∧ Inv X pins σ H s1) E s
  self : ∀ (A : Around) (i : Nat) (s : Shared) (Q : Value → Shared → Prop) (E : Value → Shared → Prop), tn i s.heap → Q (.ref it) s → wpAny (model P w) A (pyIter (.ref it)) Q E s
def PIEQ (X : Cx) (pins : List (Addr × Obj)) (σ : St) (tg : Expr) (R : It → Hp → Prop) (itv : Value) (s2 : Shared) : Prop :=
  ∃ (it : Addr) (fp : List Addr) (tn : Nat → Heap → Prop) (J : It) (H' : Hp), itv = .ref it ∧ Inv X pins σ H' s2 ∧ TurnQ X.prog X.w X.K tg J fp it tn ∧ tn 0 s2.heap ∧ (∀ b ∈ fp, FpOk X pins H' b) ∧ R J H'
structure PIQ (X : Cx) (tg iter : Expr) (wi : TI) : Prop where
  run : ∀ (pins : List (Addr × Obj)) (s : Shared) (σ : St) (H : Hp) (R : It → Hp → Prop), Inv X pins σ H s → wi σ H R →
    wpAny (model X.prog X.w) X.A (eval iter X.env) (fun v s1 => wpAny (model X.prog X.w) X.A (pyIter v) (PIEQ X pins σ tg R) X.xe s1) X.xe s
end L2
namespace DL
open PySem L2
inductive JIQ (X : Cx) (tg iter : Expr) (t : EI) : Prop where
  | mk {wi : TI} (a : PIQ X tg iter wi) (b : LI X.K wi t) : JIQ X tg iter t
section
variable {X : Cx}
variable {elt tg iter e : Expr} {es ifs : List Expr} {scope : Scope} {own : List (Str × Nat)} {pos : Pos} {wi : TI} {ei : EI} {g : TG} {t : Tg} {tt : TT} {et : ET} {te : TE} {ee : EE}
theorem JIQ.pi (h : JIQ X tg iter ei) : PIQ X tg iter (upI X.K ei) := by
  obtain ⟨a, b⟩ := h
  exact ⟨fun pins s σ H R I ⟨P, s', G, Q', h1, h2, h3⟩ => a.run pins s σ H R I (b P s' G Q' σ H R h1 h2 h3)⟩
end
end DL
set_option Elab.async false
set_option linter.all false
set_option maxRecDepth 100000
set_option maxHeartbeats 4000000
namespace L2Q
open PySem PySem.Spec PyProof.Rows L2 HotX
abbrev St := L2.St
/-- what is kept of the exception's object -/
def Zq (B : Heap) (H : Hp) (cls : Value) (d : Option Addr) : Obj → Prop := fun o => o.cls = cls ∧ o.dict = d ∧ ∀ vs : Array Value, o.data = .fields vs → vs[2]? = some .none ∨
  ∃ (x1 : Addr) (o1 : Obj) (v1 : Array Value), vs[2]? = some (.ref x1) ∧ B.get? x1 = some o1 ∧ o1.data = .fields v1 ∧ v1[2]? = some .none ∧ H x1 = none
theorem Zq.steady {B : Heap} {H : Hp} {cls : Value} {d : Option Addr} : PXN.Steady1 (Zq B H cls d) := fun o v h => by
  refine ⟨PXN.steady_cls o v h.1, PXN.steady_dict o v h.2.1, ?_⟩
  have h3 := h.2.2
  obtain ⟨c, dd, dt, sl⟩ := o
  cases dt with
  | fields vs0 =>
    intro vs e
    have e2 : vs0.setIfInBounds 1 v = vs := Data.fields.inj e
    have e3 : (vs0.setIfInBounds 1 v)[2]? = vs0[2]? := by
      first
      | exact Array.getElem?_setIfInBounds_ne (by decide)
      | simp [Array.getElem?_setIfInBounds]
    rw [← e2, e3]
    exact h3 vs0 rfl
  | _ =>
    intro vs e
    first
    | exact Data.noConfusion e
    | cases e
theorem Zq.of_n {B : Heap} {H : Hp} {cls : Value} {d : Option Addr} {o : Obj} (h : L2N.Zn cls d o) : Zq B H cls d o := ⟨h.1, h.2.1, fun vs e => .inl (h.2.2 vs e)⟩
/-- an exception in the air of X -/
def XE (X : Cx) (W : WX) (u : Value) (s' : Shared) : Prop :=
  ∃ (a : Addr) (B : Heap) (sI : Shared) (pins : List (Addr × Obj)) (σ : St) (H : Hp) (cls : Value) (d : Option Addr),
    u = .ref a ∧ Inv X pins σ H sI ∧ (∀ b o, sI.heap.get? b = some o → b ∉ frs X.stack → B.get? b = some o) ∧ sI.heap.UpToSlots s'.heap ∧
      Sky B X.stack a (Zq B H cls d) X.env.locals s'.heap ∧ H a = none ∧ s'.os = sI.os ∧ AllBare s'.gens ∧ W cls d σ H
def Takes (X : Cx) (W : WX) : Prop := ∀ u s', XE X W u s' → X.xe u s'
def CX (P : Program) (w : World) (outer : List Env) (H : Hp) (s : Shared) (E : XK) (u : Value) (s' : Shared) : Prop :=
  ∃ (a : Addr) (B : Heap) (H' : Hp) (cls : Value) (d : Option Addr), u = .ref a ∧ HandSPX.FlyingZ B outer a (Zq B H' cls d) s'.heap ∧ HOk P w H' B ∧ UB (frs outer) H H' s.heap B s'.heap ∧ H' a = none ∧ s'.os = s.os ∧ AllBare s'.gens ∧ E cls d H'
theorem sky_imp {B : Heap} {l : List Env} {a : Addr} {Z Z' : Obj → Prop} {L : Addr} {h : Heap} (z : ∀ o, Z o → Z' o) (x : Sky B l a Z L h) : Sky B l a Z' L h := by
  rcases x with ⟨h1, h2, h3, oe, vs, h4, h5, h6⟩ | x | x
  · exact .inl ⟨h1, h2, h3, oe, vs, h4, z _ h5, h6⟩
  · exact .inr (.inl (L2H.flyingZ_imp z x))
  · exact .inr (.inr ⟨x.1, x.2.1, x.2.2.1, L2H.tracedZ_imp z x.2.2.2⟩)
theorem XE.of_n {X : Cx} {W : WX} {u : Value} {s' : Shared} (x : L2N.XE X W u s') : XE X W u s' := by
  obtain ⟨a, B, sI, pins, σ, H, cls, d, e, I, nb, up, sky, r⟩ := x
  exact ⟨a, B, sI, pins, σ, H, cls, d, e, I, nb, up, sky_imp (fun o z => Zq.of_n z) sky, r⟩
theorem Takes.n {X : Cx} {W : WX} (t : Takes X W) : L2N.Takes X W := fun u s' x => t u s' (XE.of_n x)
section
variable {X : Cx} {pins : List (Addr × Obj)} {σ : St} {H : Hp} {sI s s' : Shared} {B : Heap} {W : WX} {E : XK}
theorem XE.new {a : Addr} {oe : Obj} {vs : Array Value} {cls : Value} {d : Option Addr} (I : Inv X pins σ H sI) (k : ∀ b o, sI.heap.get? b = some o → s'.heap.get? b = some o) (hne : sI.heap.get? a = none) (he : s'.heap.get? a = some oe)
    (hz : Zq (PySem.W.hideAll sI.heap (frs X.stack)) H cls d oe) (hd : oe.data = .fields vs) (h1 : vs[1]? = some .none) (na : H a = none) (os : s'.os = sI.os) (ag : AllBare s'.gens) (w : W cls d σ H) : XE X W (.ref a) s' := by
  refine ⟨a, PySem.W.hideAll sI.heap (frs X.stack), sI, pins, σ, H, cls, d, rfl, I, fun b o e hb => PySem.W.hideAll_get _ e hb, Heap.UpToSlots.of_keeps k,
    .inl ⟨fun b o e => k b o (PySem.W.of_hideAll _ e), ?_, ?_, oe, vs, he, hz, hd, h1⟩, na, os, ag, w⟩
  · cases q : (PySem.W.hideAll sI.heap (frs X.stack)).get? a with
    | none => rfl
    | some o =>
      have z := PySem.W.of_hideAll _ q
      rw [hne] at z; cases z
  · exact Heap.FunFrames.of_keeps (fun b o e _ => ⟨o, k b o e, rfl⟩) (funFrames_none I.stack fun b hb => PySem.W.hideAll_none _ hb)
theorem XE.leave (hs : X.stack = X.env :: X.outer) (hf : X.env.frame = some X.env.locals) (hex : X.ex = []) {E₁ : Value → Shared → Prop} (hW : ∀ cls d σ H, W cls d σ H → E cls d H) {u : Value} (x : XE X W u s') :
    wpAny (model X.prog X.w) X.A (leaving X.env u) (fun _ s'' => CX X.prog X.w X.outer X.H_0 X.s_0 E u s'') E₁ s' := by
  obtain ⟨a, B, sI, pins, σ, H, cls, d, rfl, I, nb, up, sky, na, os, ag, w⟩ := x
  have hfr : X.A.frames = some (X.env :: X.outer) := by rw [I.ok.frames, hs]
  have nst : ∀ b o, X.s_0.heap.get? b = some o → b ∉ X.fs → b ∉ frs X.stack := fun b o e hb hm => by
    rcases List.mem_cons.mp (I.stkSub b hm) with z | z
    · have h1 := Heap.lt_size e
      have h2 := I.ok.above
      rw [z] at h1
      exact absurd (Nat.lt_of_lt_of_le h1 h2) (Nat.lt_irrefl _)
    · exact hb z
  have hex' : ∀ b, b ∉ X.ex := fun b hb => by rw [hex] at hb; cases hb
  have hokB := I.inGround nb
  have fin : ∀ h', HandSPX.FlyingZ B X.outer a (Zq B H cls d) h' → s'.heap.UpToSlots h' → CX X.prog X.w X.outer X.H_0 X.s_0 E (.ref a) { s' with heap := h' } := fun h' fl up' => by
    refine ⟨a, B, H, cls, d, rfl, fl, hokB, ⟨fun b o e n hb => nb b o (I.base.keep b o e n hb (hex' b)) (nst b o e hb), fun b o e hb => ?_, fun b o e n => I.base.free b o e n (hex' b), fun b o e hb => ?_, I.base.tups, I.base.frzs, I.base.tbls⟩,
      na, os.trans I.os, ag, hW _ _ _ _ w⟩
    · obtain ⟨_, o₀, e₀, hnf⟩ := I.ok.funs.mem hb
      rw [e] at e₀; cases e₀
      obtain ⟨sl, e1⟩ := I.base.slot b o e (I.ok.frf b hb) hb (hex' b)
      obtain ⟨sl2, e2⟩ := up b _ e1 hnf
      obtain ⟨sl3, e3⟩ := up' b _ e2 hnf
      exact ⟨sl3, e3⟩
    · obtain ⟨o', e1⟩ := I.base.there b o e (hex' b)
      exact ⟨o', nb b o' e1 (nst b o e hb)⟩
  rw [hs] at sky
  rcases sky with ⟨hB, hn, hl, oe, vs, he, hz, hd, h1⟩ | fl | hd
  · exact PXN.leaving_firstZ Zq.steady hfr hl hf he hB hn hd h1 hz fin
  · exact PXN.leaves_onZ Zq.steady hfr hf fl fin
  · exact HandSPX.leaves_heldZ hf hd fin
end
end L2Q
set_option Elab.async false
set_option linter.all false
set_option maxRecDepth 100000
set_option maxHeartbeats 4000000
namespace DL
open PySem PySem.Spec PyProof.Rows L2
end DL
set_option Elab.async false
set_option linter.all false
set_option maxRecDepth 100000
set_option maxHeartbeats 4000000
namespace DL
open PySem PySem.Spec PyProof.Rows L2 LN
/-- a slice of a list as a new owned list -/
@[simp] def eSlLO (te : EE) (tl th : EO) : EE := fun s G Q => te s G fun x G1 => tl s G1 fun l G2 => th s G2 fun u G3 => match lkL G3 x with
  | some ds => ∀ p, G3 p = none → Q (.ref p) (gput G3 p (.lst (cutD ds l u)))
  | none => False
end DL
set_option Elab.async false
set_option linter.all false
set_option maxRecDepth 100000
set_option maxHeartbeats 4000000
namespace DL
open PySem PySem.Spec PyProof.Rows L2
mutual
inductive FrD (G : Gp) : D → D → Prop
  | pl {d : D} : plainD d = true → FrD G d d
  | ref {a : Addr} {es es' : List D} : G a = some (.lst es) → FrDs G es es' → FrD G (.ref a) (.lst es')
  | lst {es es' : List D} : FrDs G es es' → FrD G (.lst es) (.lst es')
  | tup {es es' : List D} : FrDs G es es' → FrD G (.tup es) (.tup es')
inductive FrDs (G : Gp) : List D → List D → Prop
  | nil : FrDs G [] []
  | cons {d d' : D} {ds ds' : List D} : FrD G d d' → FrDs G ds ds' → FrDs G (d :: ds) (d' :: ds')
end
section
variable {K : PySem.W.Frag} {P : Addr → Prop} {G : Gp} {H : Hp}
theorem FrDs.len : ∀ {ds ds' : List D}, FrDs G ds ds' → ds.length = ds'.length
  | _, _, .nil => rfl
  | _, _, .cons _ t => by simp [FrDs.len t]
theorem Wo.bare (w : Wo K P G H) : Wo K P (fun _ => none) H := ⟨fun _ _ q => (nomatch q), fun a q => ⟨rfl, (w.prv a q).2⟩⟩
end
end DL
set_option Elab.async false
set_option linter.all false
set_option maxRecDepth 100000
set_option maxHeartbeats 4000000
namespace DL
open PySem PySem.Spec PyProof.Rows L2
end DL
set_option Elab.async false
set_option linter.all false
set_option maxRecDepth 100000
set_option maxHeartbeats 4000000
namespace L2
open PySem PySem.Spec PyProof.Rows PySem.W
def rLeD (K : PySem.W.Frag) : R2 := fun x y H Q => ∃ d e, Dp K H x d ∧ Dp K H y e ∧ alike d e = true ∧ d ≠ .none ∧ d.depth ≤ 60 ∧ Q (.bl (!dataLt e d)) H
theorem op_leD {X : Cx} (hu : X.A.units + 64 < cLine) : OpR X (compareOp .LtE) (rLeD X.K) := by
  intro pins s σ H x y v u Q I rx ry h
  obtain ⟨d, e, hd, he, ha, hn, hp, q⟩ := h
  obtain ⟨as, r1⟩ := Dp.reads I d x v hd rx
  obtain ⟨bs, r2⟩ := Dp.reads I e y u he ry
  exact PySem.W.le_data r1 r2 ha hn (by have := Nat.min_le_left d.depth e.depth; omega) ⟨.bl _, H, I, rfl, q⟩
end L2
namespace DL
open PySem PySem.Spec PyProof.Rows L2 PySem.W
def oLeD : OD := fun x y G Q => match toPy G x, toPy G y with
  | some a, some b => alike a b = true ∧ a ≠ .none ∧ a.depth ≤ 60 ∧ Q (.bl (!dataLt b a)) G
  | _, _ => False
theorem lo_leD {K : PySem.W.Frag} : LO K (rLeD K) oLeD := fun P G H x y u v Q R h w rx ry k => by
  unfold oLeD at h
  split at h
  · rename_i a b e1 e2
    exact ⟨a, b, dp_of w x rx e1, dp_of w y ry e2, h.1, h.2.1, h.2.2.1, k _ G _ H (Step.refl _ _) w rep_bl h.2.2.2⟩
  · exact h.elim
theorem dataLt_pair {a b c d : Int} : dataLt (.tuple [.int a, .int b]) (.tuple [.int c, .int d]) = decide (a < c ∨ a = c ∧ b < d) := by
  rw [dataLt_tuple]
  by_cases h : a = c
  · subst h
    rw [dataLt_all_yes (by simp [alike]) (by simp [PyData.eqv])]
    by_cases h2 : b = d
    · subst h2
      rw [dataLt_all_yes (by simp [alike]) (by simp [PyData.eqv])]
      rw [show keyToksAll [] = [Sum.inl 0] from rfl]
      simp only [Int.lt_irrefl, and_false, or_false, decide_false]
      decide +kernel
    · rw [dataLt_all_no (by simp [alike]) (by simp [PyData.eqv]; exact h2), dataLt_int]
      simp
  · rw [dataLt_all_no (by simp [alike]) (by simp [PyData.eqv]; exact h), dataLt_int]
    simp [h]
theorem le_pair {a b c d : Int} {G : Gp} {Q : DK} (q : Q (.bl (decide (a < c ∨ a = c ∧ b ≤ d))) G) : oLeD (.tup [.int a, .int b]) (.tup [.int c, .int d]) G Q := by
  have e1 : toPy G (.tup [.int a, .int b]) = some (.tuple [.int a, .int b]) := by simp
  have e2 : toPy G (.tup [.int c, .int d]) = some (.tuple [.int c, .int d]) := by simp
  simp only [oLeD, e1, e2]
  refine ⟨by simp [alike, alikeAll], by simp, by simp [PyData.depth, PyData.depthAll], ?_⟩
  rw [dataLt_pair]
  have : (!decide (c < a ∨ c = a ∧ d < b)) = decide (a < c ∨ a = c ∧ b ≤ d) := by
    rw [Bool.eq_iff_iff]
    simp
    omega
  rw [this]
  exact q
end DL
set_option Elab.async false
set_option linter.all false
set_option maxRecDepth 100000
set_option maxHeartbeats 4000000
namespace DL
open PySem PySem.Spec PyProof.Rows L2 LN
structure TQ (x : Tri) : Prop where
  b0 : 0 ≤ x.1
  b1 : x.1 ≤ 3
  lo : -1000000000000 ≤ x.2.1
  hi : x.2.1 < 1000000000000
  p1 : 1 ≤ x.2.2
  p2 : x.2.2 ≤ 10000000000000
def triL (x y : Tri) : Prop := x.1 < y.1 ∨ x.1 = y.1 ∧ x.2.1 < y.2.1
structure BPOk (L : List Tri) : Prop where
  len : L.length ≤ 192
  all : ∀ x ∈ L, TQ x
  up : L.Pairwise triL
def IsBP (d : D) : Prop := ∃ L : List Tri, d = .lst (L.map triD) ∧ BPOk L
def F_is_bench_price : Sf := fun ds G Q => ∃ d, ds = [d] ∧ anyD d = true ∧ ∀ b : Bool, (b = true ↔ ∃ x : Tri, d = triD x ∧ TQ x) → Q (.bl b) G
def F_is_bench_paper : Sf := fun ds G Q => ∃ d, ds = [d] ∧ anyD d = true ∧ ∀ b : Bool, (b = true ↔ IsBP d) → Q (.bl b) G
def r_is_bench_price : ES :=
  (sSeq (sIf (eOr (eNot (eTru (eCB cIsi (eCons (eVar 0) (eCons (eC (.ty "tuple")) eNil))))) (eT (eOp oNe (eCB cLen (eCons (eVar 0) eNil)) (eC (.int 3))))) (sRet (eC (.bl false))) sNext)
  (sSeq (sIf (eOr (eNot (eTru (eCall F_is_whole (eCons (eOp oIx (eVar 0) (eC (.int 0))) eNil)))) (eOr (eNot (eTru (eCall F_is_whole (eCons (eOp oIx (eVar 0) (eC (.int 1))) eNil)))) (eNot (eTru (eCall F_is_whole (eCons (eOp oIx (eVar 0) (eC (.int 2))) eNil)))))) (sRet (eC (.bl false))) sNext)
  (sSeq (sIf (eOr (eT (eOp oLt (eOp oIx (eVar 0) (eC (.int 0))) (eC (.int 0)))) (eOr (eT (eOp oGe (eOp oIx (eVar 0) (eC (.int 0))) (eC (.int 4)))) (eOr (eT (eOp oLt (eOp oIx (eVar 0) (eC (.int 1))) (eOp oSub (eC (.int 0)) (eC (.int 1000000000000))))) (eT (eOp oGe (eOp oIx (eVar 0) (eC (.int 1))) (eC (.int 1000000000000))))))) (sRet (eC (.bl false))) sNext)
  (sRet (eChain oLe oLe (eC (.int 1)) (eOp oIx (eVar 0) (eC (.int 2))) (eC (.int 10000000000000)))))))
def r_is_bench_paper_L1 : ES :=
  (sSeq (sIf (eOr (eNot (eTru (eCall F_is_bench_price (eCons (eVar 2) eNil)))) (eT (eOp oLeD (eSlT (eVar 2) eNoPart (ePart (eC (.int 2)))) (eVar 1)))) (sRet (eC (.bl false))) sNext)
  (sAsg (eSlT (eVar 2) eNoPart (ePart (eC (.int 2)))) (.nm 1)))
def r_is_bench_paper : ES :=
  (sSeq (sIf (eOr (eNot (eTru (eCB cIsi (eCons (eVar 0) (eCons (eC (.ty "list")) eNil))))) (eT (eOp oGt (eCB cLen (eCons (eVar 0) eNil)) (eC (.int 192))))) (sRet (eC (.bl false))) sNext)
  (sSeq (sAsg (eTup (eCons (eUn oNeg (eC (.int 1))) (eCons (eC (.int 0)) eNil))) (.nm 1))
  (sSeq (sFor (iL (eVar 0)) (.nm 2) r_is_bench_paper_L1)
  (sRet (eC (.bl true))))))
theorem triD_eq {u v w : D} {x : Tri} (h : D.tup [u, v, w] = triD x) : u = .int x.1 ∧ v = .int x.2.1 ∧ w = .int x.2.2 := by
  simp [triD] at h
  exact h
theorem triD_inj {x y : Tri} (h : triD x = triD y) : x = y := by
  simp [triD] at h
  exact Prod.ext h.1 (Prod.ext h.2.1 h.2.2)
theorem triDs_inj : ∀ {a b : List Tri}, a.map triD = b.map triD → a = b
  | [], [], _ => rfl
  | [], _ :: _, h => by simp at h
  | _ :: _, [], h => by simp at h
  | x :: a, y :: b, h => by
    simp only [List.map_cons, List.cons.injEq] at h
    rw [triD_inj h.1, triDs_inj h.2]
theorem d_is_bench_price (ds : List D) (G : Gp) (Q : DK) (h : F_is_bench_price ds G Q) : r_is_bench_price (fin G Q) (startD 1 ds) G := by
  obtain ⟨d, rfl, ha, k⟩ := h
  have no : (∀ x, d = triD x → TQ x → False) → (fin G Q).rt (.bl false) G := fun q => fin_id (k false ⟨fun e => (by cases e), fun ⟨x, e, w⟩ => (q x e w).elim⟩)
  refine seq_gen fun W hW => ?_
  (try dsimp only [sAsg, sIf, sRet, sRetN, sDrop, sNext, asg, setAll, eT, eOp, eUn, eLst, eTup, eCons, eNil, eVar, eC, eCall, eCB, eNot, eAnd, eOr, eTru, eAndT, eOrT, eNotT, eIf, ePart, eNoPart, eYes, eChain, eChain3, oI, oI0, oLt, oLe, oGt, oGe, oNeg, oSub, oMod, oMul, oDivW, eXp, eXa, eConsX, eCallX, eCallN, eLstX, eCBX, sDropX, sRetX, sAsgX, sRaise, sRaiseF, List.set_cons_zero, List.set_cons_succ, List.getElem?_cons_zero, List.getElem?_cons_succ, truD_bl, startD, List.map_cons, List.map_nil, List.cons_append, List.nil_append, List.replicate]); (try simp only [if_true, Bool.false_eq_true, if_false, decide_true, decide_false, Bool.not_true, Bool.not_false, List.length_cons, List.length_nil, sizeLine_eq, Nat.reduceAdd, Nat.reduceLeDiff, true_and, and_true, pw6, pw10, pw11, pw12, pw13, pw30, pw40, pw60, startD, List.map_cons, List.map_nil, List.cons_append, List.nil_append, List.replicate]); (try dsimp only [sAsg, sIf, sRet, sRetN, sDrop, sNext, asg, setAll, eT, eOp, eUn, eLst, eTup, eCons, eNil, eVar, eC, eCall, eCB, eNot, eAnd, eOr, eTru, eAndT, eOrT, eNotT, eIf, ePart, eNoPart, eYes, eChain, eChain3, oI, oI0, oLt, oLe, oGt, oGe, oNeg, oSub, oMod, oMul, oDivW, eXp, eXa, eConsX, eCallX, eCallN, eLstX, eCBX, sDropX, sRetX, sAsgX, sRaise, sRaiseF, List.set_cons_zero, List.set_cons_succ, List.getElem?_cons_zero, List.getElem?_cons_succ, truD_bl, startD, List.map_cons, List.map_nil, List.cons_append, List.nil_append, List.replicate])
  rw [isi_tuple ha]
  cases d with
  | tup es =>
    (try dsimp only [sAsg, sIf, sRet, sRetN, sDrop, sNext, asg, setAll, eT, eOp, eUn, eLst, eTup, eCons, eNil, eVar, eC, eCall, eCB, eNot, eAnd, eOr, eTru, eAndT, eOrT, eNotT, eIf, ePart, eNoPart, eYes, eChain, eChain3, oI, oI0, oLt, oLe, oGt, oGe, oNeg, oSub, oMod, oMul, oDivW, eXp, eXa, eConsX, eCallX, eCallN, eLstX, eCBX, sDropX, sRetX, sAsgX, sRaise, sRaiseF, List.set_cons_zero, List.set_cons_succ, List.getElem?_cons_zero, List.getElem?_cons_succ, truD_bl, isT]); (try simp only [if_true, Bool.false_eq_true, if_false, decide_true, decide_false, Bool.not_true, Bool.not_false, List.length_cons, List.length_nil, sizeLine_eq, Nat.reduceAdd, Nat.reduceLeDiff, true_and, and_true, pw6, pw10, pw11, pw12, pw13, pw30, pw40, pw60, isT]); (try dsimp only [sAsg, sIf, sRet, sRetN, sDrop, sNext, asg, setAll, eT, eOp, eUn, eLst, eTup, eCons, eNil, eVar, eC, eCall, eCB, eNot, eAnd, eOr, eTru, eAndT, eOrT, eNotT, eIf, ePart, eNoPart, eYes, eChain, eChain3, oI, oI0, oLt, oLe, oGt, oGe, oNeg, oSub, oMod, oMul, oDivW, eXp, eXa, eConsX, eCallX, eCallN, eLstX, eCBX, sDropX, sRetX, sAsgX, sRaise, sRaiseF, List.set_cons_zero, List.set_cons_succ, List.getElem?_cons_zero, List.getElem?_cons_succ, truD_bl, isT])
    refine len_tup (ne_ii ?_)
    by_cases l2 : es.length = 3
    · rw [decide_eq_true (by omega)]
      match es, l2 with
      | [u, v, w], _ =>
        simp only [anyD, anyDs, Bool.and_eq_true, and_true] at ha
        (try dsimp only [sAsg, sIf, sRet, sRetN, sDrop, sNext, asg, setAll, eT, eOp, eUn, eLst, eTup, eCons, eNil, eVar, eC, eCall, eCB, eNot, eAnd, eOr, eTru, eAndT, eOrT, eNotT, eIf, ePart, eNoPart, eYes, eChain, eChain3, oI, oI0, oLt, oLe, oGt, oGe, oNeg, oSub, oMod, oMul, oDivW, eXp, eXa, eConsX, eCallX, eCallN, eLstX, eCBX, sDropX, sRetX, sAsgX, sRaise, sRaiseF, List.set_cons_zero, List.set_cons_succ, List.getElem?_cons_zero, List.getElem?_cons_succ, truD_bl]); (try simp only [if_true, Bool.false_eq_true, if_false, decide_true, decide_false, Bool.not_true, Bool.not_false, List.length_cons, List.length_nil, sizeLine_eq, Nat.reduceAdd, Nat.reduceLeDiff, true_and, and_true, pw6, pw10, pw11, pw12, pw13, pw30, pw40, pw60]); (try dsimp only [sAsg, sIf, sRet, sRetN, sDrop, sNext, asg, setAll, eT, eOp, eUn, eLst, eTup, eCons, eNil, eVar, eC, eCall, eCB, eNot, eAnd, eOr, eTru, eAndT, eOrT, eNotT, eIf, ePart, eNoPart, eYes, eChain, eChain3, oI, oI0, oLt, oLe, oGt, oGe, oNeg, oSub, oMod, oMul, oDivW, eXp, eXa, eConsX, eCallX, eCallN, eLstX, eCBX, sDropX, sRetX, sAsgX, sRaise, sRaiseF, List.set_cons_zero, List.set_cons_succ, List.getElem?_cons_zero, List.getElem?_cons_succ, truD_bl])
        refine hW _ _ ?_
        refine seq_gen fun W2 hW2 => ?_
        (try dsimp only [sAsg, sIf, sRet, sRetN, sDrop, sNext, asg, setAll, eT, eOp, eUn, eLst, eTup, eCons, eNil, eVar, eC, eCall, eCB, eNot, eAnd, eOr, eTru, eAndT, eOrT, eNotT, eIf, ePart, eNoPart, eYes, eChain, eChain3, oI, oI0, oLt, oLe, oGt, oGe, oNeg, oSub, oMod, oMul, oDivW, eXp, eXa, eConsX, eCallX, eCallN, eLstX, eCBX, sDropX, sRetX, sAsgX, sRaise, sRaiseF, List.set_cons_zero, List.set_cons_succ, List.getElem?_cons_zero, List.getElem?_cons_succ, truD_bl]); (try simp only [if_true, Bool.false_eq_true, if_false, decide_true, decide_false, Bool.not_true, Bool.not_false, List.length_cons, List.length_nil, sizeLine_eq, Nat.reduceAdd, Nat.reduceLeDiff, true_and, and_true, pw6, pw10, pw11, pw12, pw13, pw30, pw40, pw60]); (try dsimp only [sAsg, sIf, sRet, sRetN, sDrop, sNext, asg, setAll, eT, eOp, eUn, eLst, eTup, eCons, eNil, eVar, eC, eCall, eCB, eNot, eAnd, eOr, eTru, eAndT, eOrT, eNotT, eIf, ePart, eNoPart, eYes, eChain, eChain3, oI, oI0, oLt, oLe, oGt, oGe, oNeg, oSub, oMod, oMul, oDivW, eXp, eXa, eConsX, eCallX, eCallN, eLstX, eCBX, sDropX, sRetX, sAsgX, sRaise, sRaiseF, List.set_cons_zero, List.set_cons_succ, List.getElem?_cons_zero, List.getElem?_cons_succ, truD_bl])
        refine ixt_0 (d := u) rfl (whole_any ha.1 ?_)
        rw [wh_int]
        cases q1 : intOf u with
        | none =>
          (try dsimp only [sAsg, sIf, sRet, sRetN, sDrop, sNext, asg, setAll, eT, eOp, eUn, eLst, eTup, eCons, eNil, eVar, eC, eCall, eCB, eNot, eAnd, eOr, eTru, eAndT, eOrT, eNotT, eIf, ePart, eNoPart, eYes, eChain, eChain3, oI, oI0, oLt, oLe, oGt, oGe, oNeg, oSub, oMod, oMul, oDivW, eXp, eXa, eConsX, eCallX, eCallN, eLstX, eCBX, sDropX, sRetX, sAsgX, sRaise, sRaiseF, List.set_cons_zero, List.set_cons_succ, List.getElem?_cons_zero, List.getElem?_cons_succ, truD_bl, Option.isSome_none]); (try simp only [if_true, Bool.false_eq_true, if_false, decide_true, decide_false, Bool.not_true, Bool.not_false, List.length_cons, List.length_nil, sizeLine_eq, Nat.reduceAdd, Nat.reduceLeDiff, true_and, and_true, pw6, pw10, pw11, pw12, pw13, pw30, pw40, pw60, Option.isSome_none]); (try dsimp only [sAsg, sIf, sRet, sRetN, sDrop, sNext, asg, setAll, eT, eOp, eUn, eLst, eTup, eCons, eNil, eVar, eC, eCall, eCB, eNot, eAnd, eOr, eTru, eAndT, eOrT, eNotT, eIf, ePart, eNoPart, eYes, eChain, eChain3, oI, oI0, oLt, oLe, oGt, oGe, oNeg, oSub, oMod, oMul, oDivW, eXp, eXa, eConsX, eCallX, eCallN, eLstX, eCBX, sDropX, sRetX, sAsgX, sRaise, sRaiseF, List.set_cons_zero, List.set_cons_succ, List.getElem?_cons_zero, List.getElem?_cons_succ, truD_bl, Option.isSome_none])
          exact no fun x e _ => by rw [(triD_eq e).1] at q1; cases q1
        | some i =>
          (try dsimp only [sAsg, sIf, sRet, sRetN, sDrop, sNext, asg, setAll, eT, eOp, eUn, eLst, eTup, eCons, eNil, eVar, eC, eCall, eCB, eNot, eAnd, eOr, eTru, eAndT, eOrT, eNotT, eIf, ePart, eNoPart, eYes, eChain, eChain3, oI, oI0, oLt, oLe, oGt, oGe, oNeg, oSub, oMod, oMul, oDivW, eXp, eXa, eConsX, eCallX, eCallN, eLstX, eCBX, sDropX, sRetX, sAsgX, sRaise, sRaiseF, List.set_cons_zero, List.set_cons_succ, List.getElem?_cons_zero, List.getElem?_cons_succ, truD_bl, Option.isSome_some]); (try simp only [if_true, Bool.false_eq_true, if_false, decide_true, decide_false, Bool.not_true, Bool.not_false, List.length_cons, List.length_nil, sizeLine_eq, Nat.reduceAdd, Nat.reduceLeDiff, true_and, and_true, pw6, pw10, pw11, pw12, pw13, pw30, pw40, pw60, Option.isSome_some]); (try dsimp only [sAsg, sIf, sRet, sRetN, sDrop, sNext, asg, setAll, eT, eOp, eUn, eLst, eTup, eCons, eNil, eVar, eC, eCall, eCB, eNot, eAnd, eOr, eTru, eAndT, eOrT, eNotT, eIf, ePart, eNoPart, eYes, eChain, eChain3, oI, oI0, oLt, oLe, oGt, oGe, oNeg, oSub, oMod, oMul, oDivW, eXp, eXa, eConsX, eCallX, eCallN, eLstX, eCBX, sDropX, sRetX, sAsgX, sRaise, sRaiseF, List.set_cons_zero, List.set_cons_succ, List.getElem?_cons_zero, List.getElem?_cons_succ, truD_bl, Option.isSome_some])
          refine ixt_0 (d := v) rfl (whole_any ha.2.1 ?_)
          rw [wh_int]
          cases q2 : intOf v with
          | none =>
            (try dsimp only [sAsg, sIf, sRet, sRetN, sDrop, sNext, asg, setAll, eT, eOp, eUn, eLst, eTup, eCons, eNil, eVar, eC, eCall, eCB, eNot, eAnd, eOr, eTru, eAndT, eOrT, eNotT, eIf, ePart, eNoPart, eYes, eChain, eChain3, oI, oI0, oLt, oLe, oGt, oGe, oNeg, oSub, oMod, oMul, oDivW, eXp, eXa, eConsX, eCallX, eCallN, eLstX, eCBX, sDropX, sRetX, sAsgX, sRaise, sRaiseF, List.set_cons_zero, List.set_cons_succ, List.getElem?_cons_zero, List.getElem?_cons_succ, truD_bl, Option.isSome_none]); (try simp only [if_true, Bool.false_eq_true, if_false, decide_true, decide_false, Bool.not_true, Bool.not_false, List.length_cons, List.length_nil, sizeLine_eq, Nat.reduceAdd, Nat.reduceLeDiff, true_and, and_true, pw6, pw10, pw11, pw12, pw13, pw30, pw40, pw60, Option.isSome_none]); (try dsimp only [sAsg, sIf, sRet, sRetN, sDrop, sNext, asg, setAll, eT, eOp, eUn, eLst, eTup, eCons, eNil, eVar, eC, eCall, eCB, eNot, eAnd, eOr, eTru, eAndT, eOrT, eNotT, eIf, ePart, eNoPart, eYes, eChain, eChain3, oI, oI0, oLt, oLe, oGt, oGe, oNeg, oSub, oMod, oMul, oDivW, eXp, eXa, eConsX, eCallX, eCallN, eLstX, eCBX, sDropX, sRetX, sAsgX, sRaise, sRaiseF, List.set_cons_zero, List.set_cons_succ, List.getElem?_cons_zero, List.getElem?_cons_succ, truD_bl, Option.isSome_none])
            exact no fun x e _ => by rw [(triD_eq e).2.1] at q2; cases q2
          | some j =>
            (try dsimp only [sAsg, sIf, sRet, sRetN, sDrop, sNext, asg, setAll, eT, eOp, eUn, eLst, eTup, eCons, eNil, eVar, eC, eCall, eCB, eNot, eAnd, eOr, eTru, eAndT, eOrT, eNotT, eIf, ePart, eNoPart, eYes, eChain, eChain3, oI, oI0, oLt, oLe, oGt, oGe, oNeg, oSub, oMod, oMul, oDivW, eXp, eXa, eConsX, eCallX, eCallN, eLstX, eCBX, sDropX, sRetX, sAsgX, sRaise, sRaiseF, List.set_cons_zero, List.set_cons_succ, List.getElem?_cons_zero, List.getElem?_cons_succ, truD_bl, Option.isSome_some]); (try simp only [if_true, Bool.false_eq_true, if_false, decide_true, decide_false, Bool.not_true, Bool.not_false, List.length_cons, List.length_nil, sizeLine_eq, Nat.reduceAdd, Nat.reduceLeDiff, true_and, and_true, pw6, pw10, pw11, pw12, pw13, pw30, pw40, pw60, Option.isSome_some]); (try dsimp only [sAsg, sIf, sRet, sRetN, sDrop, sNext, asg, setAll, eT, eOp, eUn, eLst, eTup, eCons, eNil, eVar, eC, eCall, eCB, eNot, eAnd, eOr, eTru, eAndT, eOrT, eNotT, eIf, ePart, eNoPart, eYes, eChain, eChain3, oI, oI0, oLt, oLe, oGt, oGe, oNeg, oSub, oMod, oMul, oDivW, eXp, eXa, eConsX, eCallX, eCallN, eLstX, eCBX, sDropX, sRetX, sAsgX, sRaise, sRaiseF, List.set_cons_zero, List.set_cons_succ, List.getElem?_cons_zero, List.getElem?_cons_succ, truD_bl, Option.isSome_some])
            refine ixt_0 (d := w) rfl (whole_any ha.2.2 ?_)
            rw [wh_int]
            cases q3 : intOf w with
            | none =>
              (try dsimp only [sAsg, sIf, sRet, sRetN, sDrop, sNext, asg, setAll, eT, eOp, eUn, eLst, eTup, eCons, eNil, eVar, eC, eCall, eCB, eNot, eAnd, eOr, eTru, eAndT, eOrT, eNotT, eIf, ePart, eNoPart, eYes, eChain, eChain3, oI, oI0, oLt, oLe, oGt, oGe, oNeg, oSub, oMod, oMul, oDivW, eXp, eXa, eConsX, eCallX, eCallN, eLstX, eCBX, sDropX, sRetX, sAsgX, sRaise, sRaiseF, List.set_cons_zero, List.set_cons_succ, List.getElem?_cons_zero, List.getElem?_cons_succ, truD_bl, Option.isSome_none]); (try simp only [if_true, Bool.false_eq_true, if_false, decide_true, decide_false, Bool.not_true, Bool.not_false, List.length_cons, List.length_nil, sizeLine_eq, Nat.reduceAdd, Nat.reduceLeDiff, true_and, and_true, pw6, pw10, pw11, pw12, pw13, pw30, pw40, pw60, Option.isSome_none]); (try dsimp only [sAsg, sIf, sRet, sRetN, sDrop, sNext, asg, setAll, eT, eOp, eUn, eLst, eTup, eCons, eNil, eVar, eC, eCall, eCB, eNot, eAnd, eOr, eTru, eAndT, eOrT, eNotT, eIf, ePart, eNoPart, eYes, eChain, eChain3, oI, oI0, oLt, oLe, oGt, oGe, oNeg, oSub, oMod, oMul, oDivW, eXp, eXa, eConsX, eCallX, eCallN, eLstX, eCBX, sDropX, sRetX, sAsgX, sRaise, sRaiseF, List.set_cons_zero, List.set_cons_succ, List.getElem?_cons_zero, List.getElem?_cons_succ, truD_bl, Option.isSome_none])
              exact no fun x e _ => by rw [(triD_eq e).2.2] at q3; cases q3
            | some l =>
              have := intOf_eq q1
              subst this
              have := intOf_eq q2
              subst this
              have := intOf_eq q3
              subst this
              (try dsimp only [sAsg, sIf, sRet, sRetN, sDrop, sNext, asg, setAll, eT, eOp, eUn, eLst, eTup, eCons, eNil, eVar, eC, eCall, eCB, eNot, eAnd, eOr, eTru, eAndT, eOrT, eNotT, eIf, ePart, eNoPart, eYes, eChain, eChain3, oI, oI0, oLt, oLe, oGt, oGe, oNeg, oSub, oMod, oMul, oDivW, eXp, eXa, eConsX, eCallX, eCallN, eLstX, eCBX, sDropX, sRetX, sAsgX, sRaise, sRaiseF, List.set_cons_zero, List.set_cons_succ, List.getElem?_cons_zero, List.getElem?_cons_succ, truD_bl, Option.isSome_some]); (try simp only [if_true, Bool.false_eq_true, if_false, decide_true, decide_false, Bool.not_true, Bool.not_false, List.length_cons, List.length_nil, sizeLine_eq, Nat.reduceAdd, Nat.reduceLeDiff, true_and, and_true, pw6, pw10, pw11, pw12, pw13, pw30, pw40, pw60, Option.isSome_some]); (try dsimp only [sAsg, sIf, sRet, sRetN, sDrop, sNext, asg, setAll, eT, eOp, eUn, eLst, eTup, eCons, eNil, eVar, eC, eCall, eCB, eNot, eAnd, eOr, eTru, eAndT, eOrT, eNotT, eIf, ePart, eNoPart, eYes, eChain, eChain3, oI, oI0, oLt, oLe, oGt, oGe, oNeg, oSub, oMod, oMul, oDivW, eXp, eXa, eConsX, eCallX, eCallN, eLstX, eCBX, sDropX, sRetX, sAsgX, sRaise, sRaiseF, List.set_cons_zero, List.set_cons_succ, List.getElem?_cons_zero, List.getElem?_cons_succ, truD_bl, Option.isSome_some])
              refine hW2 _ _ ?_
              refine seq_gen fun W3 hW3 => ?_
              (try dsimp only [sAsg, sIf, sRet, sRetN, sDrop, sNext, asg, setAll, eT, eOp, eUn, eLst, eTup, eCons, eNil, eVar, eC, eCall, eCB, eNot, eAnd, eOr, eTru, eAndT, eOrT, eNotT, eIf, ePart, eNoPart, eYes, eChain, eChain3, oI, oI0, oLt, oLe, oGt, oGe, oNeg, oSub, oMod, oMul, oDivW, eXp, eXa, eConsX, eCallX, eCallN, eLstX, eCBX, sDropX, sRetX, sAsgX, sRaise, sRaiseF, List.set_cons_zero, List.set_cons_succ, List.getElem?_cons_zero, List.getElem?_cons_succ, truD_bl]); (try simp only [if_true, Bool.false_eq_true, if_false, decide_true, decide_false, Bool.not_true, Bool.not_false, List.length_cons, List.length_nil, sizeLine_eq, Nat.reduceAdd, Nat.reduceLeDiff, true_and, and_true, pw6, pw10, pw11, pw12, pw13, pw30, pw40, pw60]); (try dsimp only [sAsg, sIf, sRet, sRetN, sDrop, sNext, asg, setAll, eT, eOp, eUn, eLst, eTup, eCons, eNil, eVar, eC, eCall, eCB, eNot, eAnd, eOr, eTru, eAndT, eOrT, eNotT, eIf, ePart, eNoPart, eYes, eChain, eChain3, oI, oI0, oLt, oLe, oGt, oGe, oNeg, oSub, oMod, oMul, oDivW, eXp, eXa, eConsX, eCallX, eCallN, eLstX, eCBX, sDropX, sRetX, sAsgX, sRaise, sRaiseF, List.set_cons_zero, List.set_cons_succ, List.getElem?_cons_zero, List.getElem?_cons_succ, truD_bl])
              have bad : ¬ TQ (i, j, l) → (fin G Q).rt (.bl false) G := fun q => no fun x e w => by
                have := triD_eq e
                simp at this
                exact q (by rw [show (i, j, l) = x from Prod.ext this.1 (Prod.ext this.2.1 this.2.2)]; exact w)
              refine ixt_0 (d := .int i) rfl ?_
              (try dsimp only [sAsg, sIf, sRet, sRetN, sDrop, sNext, asg, setAll, eT, eOp, eUn, eLst, eTup, eCons, eNil, eVar, eC, eCall, eCB, eNot, eAnd, eOr, eTru, eAndT, eOrT, eNotT, eIf, ePart, eNoPart, eYes, eChain, eChain3, oI, oI0, oLt, oLe, oGt, oGe, oNeg, oSub, oMod, oMul, oDivW, eXp, eXa, eConsX, eCallX, eCallN, eLstX, eCBX, sDropX, sRetX, sAsgX, sRaise, sRaiseF, List.set_cons_zero, List.set_cons_succ, List.getElem?_cons_zero, List.getElem?_cons_succ, truD_bl]); (try simp only [if_true, Bool.false_eq_true, if_false, decide_true, decide_false, Bool.not_true, Bool.not_false, List.length_cons, List.length_nil, sizeLine_eq, Nat.reduceAdd, Nat.reduceLeDiff, true_and, and_true, pw6, pw10, pw11, pw12, pw13, pw30, pw40, pw60]); (try dsimp only [sAsg, sIf, sRet, sRetN, sDrop, sNext, asg, setAll, eT, eOp, eUn, eLst, eTup, eCons, eNil, eVar, eC, eCall, eCB, eNot, eAnd, eOr, eTru, eAndT, eOrT, eNotT, eIf, ePart, eNoPart, eYes, eChain, eChain3, oI, oI0, oLt, oLe, oGt, oGe, oNeg, oSub, oMod, oMul, oDivW, eXp, eXa, eConsX, eCallX, eCallN, eLstX, eCBX, sDropX, sRetX, sAsgX, sRaise, sRaiseF, List.set_cons_zero, List.set_cons_succ, List.getElem?_cons_zero, List.getElem?_cons_succ, truD_bl])
              by_cases c1 : i < 0
              · (try dsimp only [sAsg, sIf, sRet, sRetN, sDrop, sNext, asg, setAll, eT, eOp, eUn, eLst, eTup, eCons, eNil, eVar, eC, eCall, eCB, eNot, eAnd, eOr, eTru, eAndT, eOrT, eNotT, eIf, ePart, eNoPart, eYes, eChain, eChain3, oI, oI0, oLt, oLe, oGt, oGe, oNeg, oSub, oMod, oMul, oDivW, eXp, eXa, eConsX, eCallX, eCallN, eLstX, eCBX, sDropX, sRetX, sAsgX, sRaise, sRaiseF, List.set_cons_zero, List.set_cons_succ, List.getElem?_cons_zero, List.getElem?_cons_succ, truD_bl, c1]); (try simp only [if_true, Bool.false_eq_true, if_false, decide_true, decide_false, Bool.not_true, Bool.not_false, List.length_cons, List.length_nil, sizeLine_eq, Nat.reduceAdd, Nat.reduceLeDiff, true_and, and_true, pw6, pw10, pw11, pw12, pw13, pw30, pw40, pw60, c1]); (try dsimp only [sAsg, sIf, sRet, sRetN, sDrop, sNext, asg, setAll, eT, eOp, eUn, eLst, eTup, eCons, eNil, eVar, eC, eCall, eCB, eNot, eAnd, eOr, eTru, eAndT, eOrT, eNotT, eIf, ePart, eNoPart, eYes, eChain, eChain3, oI, oI0, oLt, oLe, oGt, oGe, oNeg, oSub, oMod, oMul, oDivW, eXp, eXa, eConsX, eCallX, eCallN, eLstX, eCBX, sDropX, sRetX, sAsgX, sRaise, sRaiseF, List.set_cons_zero, List.set_cons_succ, List.getElem?_cons_zero, List.getElem?_cons_succ, truD_bl, c1])
                exact bad fun w => by have := w.b0; simp only at this; omega
              (try dsimp only [sAsg, sIf, sRet, sRetN, sDrop, sNext, asg, setAll, eT, eOp, eUn, eLst, eTup, eCons, eNil, eVar, eC, eCall, eCB, eNot, eAnd, eOr, eTru, eAndT, eOrT, eNotT, eIf, ePart, eNoPart, eYes, eChain, eChain3, oI, oI0, oLt, oLe, oGt, oGe, oNeg, oSub, oMod, oMul, oDivW, eXp, eXa, eConsX, eCallX, eCallN, eLstX, eCBX, sDropX, sRetX, sAsgX, sRaise, sRaiseF, List.set_cons_zero, List.set_cons_succ, List.getElem?_cons_zero, List.getElem?_cons_succ, truD_bl, c1]); (try simp only [if_true, Bool.false_eq_true, if_false, decide_true, decide_false, Bool.not_true, Bool.not_false, List.length_cons, List.length_nil, sizeLine_eq, Nat.reduceAdd, Nat.reduceLeDiff, true_and, and_true, pw6, pw10, pw11, pw12, pw13, pw30, pw40, pw60, c1]); (try dsimp only [sAsg, sIf, sRet, sRetN, sDrop, sNext, asg, setAll, eT, eOp, eUn, eLst, eTup, eCons, eNil, eVar, eC, eCall, eCB, eNot, eAnd, eOr, eTru, eAndT, eOrT, eNotT, eIf, ePart, eNoPart, eYes, eChain, eChain3, oI, oI0, oLt, oLe, oGt, oGe, oNeg, oSub, oMod, oMul, oDivW, eXp, eXa, eConsX, eCallX, eCallN, eLstX, eCBX, sDropX, sRetX, sAsgX, sRaise, sRaiseF, List.set_cons_zero, List.set_cons_succ, List.getElem?_cons_zero, List.getElem?_cons_succ, truD_bl, c1])
              refine ixt_0 (d := .int i) rfl ?_
              (try dsimp only [sAsg, sIf, sRet, sRetN, sDrop, sNext, asg, setAll, eT, eOp, eUn, eLst, eTup, eCons, eNil, eVar, eC, eCall, eCB, eNot, eAnd, eOr, eTru, eAndT, eOrT, eNotT, eIf, ePart, eNoPart, eYes, eChain, eChain3, oI, oI0, oLt, oLe, oGt, oGe, oNeg, oSub, oMod, oMul, oDivW, eXp, eXa, eConsX, eCallX, eCallN, eLstX, eCBX, sDropX, sRetX, sAsgX, sRaise, sRaiseF, List.set_cons_zero, List.set_cons_succ, List.getElem?_cons_zero, List.getElem?_cons_succ, truD_bl]); (try simp only [if_true, Bool.false_eq_true, if_false, decide_true, decide_false, Bool.not_true, Bool.not_false, List.length_cons, List.length_nil, sizeLine_eq, Nat.reduceAdd, Nat.reduceLeDiff, true_and, and_true, pw6, pw10, pw11, pw12, pw13, pw30, pw40, pw60]); (try dsimp only [sAsg, sIf, sRet, sRetN, sDrop, sNext, asg, setAll, eT, eOp, eUn, eLst, eTup, eCons, eNil, eVar, eC, eCall, eCB, eNot, eAnd, eOr, eTru, eAndT, eOrT, eNotT, eIf, ePart, eNoPart, eYes, eChain, eChain3, oI, oI0, oLt, oLe, oGt, oGe, oNeg, oSub, oMod, oMul, oDivW, eXp, eXa, eConsX, eCallX, eCallN, eLstX, eCBX, sDropX, sRetX, sAsgX, sRaise, sRaiseF, List.set_cons_zero, List.set_cons_succ, List.getElem?_cons_zero, List.getElem?_cons_succ, truD_bl])
              by_cases c2 : 4 ≤ i
              · (try dsimp only [sAsg, sIf, sRet, sRetN, sDrop, sNext, asg, setAll, eT, eOp, eUn, eLst, eTup, eCons, eNil, eVar, eC, eCall, eCB, eNot, eAnd, eOr, eTru, eAndT, eOrT, eNotT, eIf, ePart, eNoPart, eYes, eChain, eChain3, oI, oI0, oLt, oLe, oGt, oGe, oNeg, oSub, oMod, oMul, oDivW, eXp, eXa, eConsX, eCallX, eCallN, eLstX, eCBX, sDropX, sRetX, sAsgX, sRaise, sRaiseF, List.set_cons_zero, List.set_cons_succ, List.getElem?_cons_zero, List.getElem?_cons_succ, truD_bl, c2]); (try simp only [if_true, Bool.false_eq_true, if_false, decide_true, decide_false, Bool.not_true, Bool.not_false, List.length_cons, List.length_nil, sizeLine_eq, Nat.reduceAdd, Nat.reduceLeDiff, true_and, and_true, pw6, pw10, pw11, pw12, pw13, pw30, pw40, pw60, c2]); (try dsimp only [sAsg, sIf, sRet, sRetN, sDrop, sNext, asg, setAll, eT, eOp, eUn, eLst, eTup, eCons, eNil, eVar, eC, eCall, eCB, eNot, eAnd, eOr, eTru, eAndT, eOrT, eNotT, eIf, ePart, eNoPart, eYes, eChain, eChain3, oI, oI0, oLt, oLe, oGt, oGe, oNeg, oSub, oMod, oMul, oDivW, eXp, eXa, eConsX, eCallX, eCallN, eLstX, eCBX, sDropX, sRetX, sAsgX, sRaise, sRaiseF, List.set_cons_zero, List.set_cons_succ, List.getElem?_cons_zero, List.getElem?_cons_succ, truD_bl, c2])
                exact bad fun w => by have := w.b1; simp only at this; omega
              (try dsimp only [sAsg, sIf, sRet, sRetN, sDrop, sNext, asg, setAll, eT, eOp, eUn, eLst, eTup, eCons, eNil, eVar, eC, eCall, eCB, eNot, eAnd, eOr, eTru, eAndT, eOrT, eNotT, eIf, ePart, eNoPart, eYes, eChain, eChain3, oI, oI0, oLt, oLe, oGt, oGe, oNeg, oSub, oMod, oMul, oDivW, eXp, eXa, eConsX, eCallX, eCallN, eLstX, eCBX, sDropX, sRetX, sAsgX, sRaise, sRaiseF, List.set_cons_zero, List.set_cons_succ, List.getElem?_cons_zero, List.getElem?_cons_succ, truD_bl, c2]); (try simp only [if_true, Bool.false_eq_true, if_false, decide_true, decide_false, Bool.not_true, Bool.not_false, List.length_cons, List.length_nil, sizeLine_eq, Nat.reduceAdd, Nat.reduceLeDiff, true_and, and_true, pw6, pw10, pw11, pw12, pw13, pw30, pw40, pw60, c2]); (try dsimp only [sAsg, sIf, sRet, sRetN, sDrop, sNext, asg, setAll, eT, eOp, eUn, eLst, eTup, eCons, eNil, eVar, eC, eCall, eCB, eNot, eAnd, eOr, eTru, eAndT, eOrT, eNotT, eIf, ePart, eNoPart, eYes, eChain, eChain3, oI, oI0, oLt, oLe, oGt, oGe, oNeg, oSub, oMod, oMul, oDivW, eXp, eXa, eConsX, eCallX, eCallN, eLstX, eCBX, sDropX, sRetX, sAsgX, sRaise, sRaiseF, List.set_cons_zero, List.set_cons_succ, List.getElem?_cons_zero, List.getElem?_cons_succ, truD_bl, c2])
              refine ixt_0 (d := .int j) rfl ?_
              (try dsimp only [sAsg, sIf, sRet, sRetN, sDrop, sNext, asg, setAll, eT, eOp, eUn, eLst, eTup, eCons, eNil, eVar, eC, eCall, eCB, eNot, eAnd, eOr, eTru, eAndT, eOrT, eNotT, eIf, ePart, eNoPart, eYes, eChain, eChain3, oI, oI0, oLt, oLe, oGt, oGe, oNeg, oSub, oMod, oMul, oDivW, eXp, eXa, eConsX, eCallX, eCallN, eLstX, eCBX, sDropX, sRetX, sAsgX, sRaise, sRaiseF, List.set_cons_zero, List.set_cons_succ, List.getElem?_cons_zero, List.getElem?_cons_succ, truD_bl]); (try simp only [if_true, Bool.false_eq_true, if_false, decide_true, decide_false, Bool.not_true, Bool.not_false, List.length_cons, List.length_nil, sizeLine_eq, Nat.reduceAdd, Nat.reduceLeDiff, true_and, and_true, pw6, pw10, pw11, pw12, pw13, pw30, pw40, pw60]); (try dsimp only [sAsg, sIf, sRet, sRetN, sDrop, sNext, asg, setAll, eT, eOp, eUn, eLst, eTup, eCons, eNil, eVar, eC, eCall, eCB, eNot, eAnd, eOr, eTru, eAndT, eOrT, eNotT, eIf, ePart, eNoPart, eYes, eChain, eChain3, oI, oI0, oLt, oLe, oGt, oGe, oNeg, oSub, oMod, oMul, oDivW, eXp, eXa, eConsX, eCallX, eCallN, eLstX, eCBX, sDropX, sRetX, sAsgX, sRaise, sRaiseF, List.set_cons_zero, List.set_cons_succ, List.getElem?_cons_zero, List.getElem?_cons_succ, truD_bl])
              by_cases c3 : j < (0 : Int) - 1000000000000
              · (try dsimp only [sAsg, sIf, sRet, sRetN, sDrop, sNext, asg, setAll, eT, eOp, eUn, eLst, eTup, eCons, eNil, eVar, eC, eCall, eCB, eNot, eAnd, eOr, eTru, eAndT, eOrT, eNotT, eIf, ePart, eNoPart, eYes, eChain, eChain3, oI, oI0, oLt, oLe, oGt, oGe, oNeg, oSub, oMod, oMul, oDivW, eXp, eXa, eConsX, eCallX, eCallN, eLstX, eCBX, sDropX, sRetX, sAsgX, sRaise, sRaiseF, List.set_cons_zero, List.set_cons_succ, List.getElem?_cons_zero, List.getElem?_cons_succ, truD_bl, c3]); (try simp only [if_true, Bool.false_eq_true, if_false, decide_true, decide_false, Bool.not_true, Bool.not_false, List.length_cons, List.length_nil, sizeLine_eq, Nat.reduceAdd, Nat.reduceLeDiff, true_and, and_true, pw6, pw10, pw11, pw12, pw13, pw30, pw40, pw60, c3]); (try dsimp only [sAsg, sIf, sRet, sRetN, sDrop, sNext, asg, setAll, eT, eOp, eUn, eLst, eTup, eCons, eNil, eVar, eC, eCall, eCB, eNot, eAnd, eOr, eTru, eAndT, eOrT, eNotT, eIf, ePart, eNoPart, eYes, eChain, eChain3, oI, oI0, oLt, oLe, oGt, oGe, oNeg, oSub, oMod, oMul, oDivW, eXp, eXa, eConsX, eCallX, eCallN, eLstX, eCBX, sDropX, sRetX, sAsgX, sRaise, sRaiseF, List.set_cons_zero, List.set_cons_succ, List.getElem?_cons_zero, List.getElem?_cons_succ, truD_bl, c3])
                exact bad fun w => by have := w.lo; simp only at this; omega
              (try dsimp only [sAsg, sIf, sRet, sRetN, sDrop, sNext, asg, setAll, eT, eOp, eUn, eLst, eTup, eCons, eNil, eVar, eC, eCall, eCB, eNot, eAnd, eOr, eTru, eAndT, eOrT, eNotT, eIf, ePart, eNoPart, eYes, eChain, eChain3, oI, oI0, oLt, oLe, oGt, oGe, oNeg, oSub, oMod, oMul, oDivW, eXp, eXa, eConsX, eCallX, eCallN, eLstX, eCBX, sDropX, sRetX, sAsgX, sRaise, sRaiseF, List.set_cons_zero, List.set_cons_succ, List.getElem?_cons_zero, List.getElem?_cons_succ, truD_bl, c3]); (try simp only [if_true, Bool.false_eq_true, if_false, decide_true, decide_false, Bool.not_true, Bool.not_false, List.length_cons, List.length_nil, sizeLine_eq, Nat.reduceAdd, Nat.reduceLeDiff, true_and, and_true, pw6, pw10, pw11, pw12, pw13, pw30, pw40, pw60, c3]); (try dsimp only [sAsg, sIf, sRet, sRetN, sDrop, sNext, asg, setAll, eT, eOp, eUn, eLst, eTup, eCons, eNil, eVar, eC, eCall, eCB, eNot, eAnd, eOr, eTru, eAndT, eOrT, eNotT, eIf, ePart, eNoPart, eYes, eChain, eChain3, oI, oI0, oLt, oLe, oGt, oGe, oNeg, oSub, oMod, oMul, oDivW, eXp, eXa, eConsX, eCallX, eCallN, eLstX, eCBX, sDropX, sRetX, sAsgX, sRaise, sRaiseF, List.set_cons_zero, List.set_cons_succ, List.getElem?_cons_zero, List.getElem?_cons_succ, truD_bl, c3])
              refine ixt_0 (d := .int j) rfl ?_
              (try dsimp only [sAsg, sIf, sRet, sRetN, sDrop, sNext, asg, setAll, eT, eOp, eUn, eLst, eTup, eCons, eNil, eVar, eC, eCall, eCB, eNot, eAnd, eOr, eTru, eAndT, eOrT, eNotT, eIf, ePart, eNoPart, eYes, eChain, eChain3, oI, oI0, oLt, oLe, oGt, oGe, oNeg, oSub, oMod, oMul, oDivW, eXp, eXa, eConsX, eCallX, eCallN, eLstX, eCBX, sDropX, sRetX, sAsgX, sRaise, sRaiseF, List.set_cons_zero, List.set_cons_succ, List.getElem?_cons_zero, List.getElem?_cons_succ, truD_bl]); (try simp only [if_true, Bool.false_eq_true, if_false, decide_true, decide_false, Bool.not_true, Bool.not_false, List.length_cons, List.length_nil, sizeLine_eq, Nat.reduceAdd, Nat.reduceLeDiff, true_and, and_true, pw6, pw10, pw11, pw12, pw13, pw30, pw40, pw60]); (try dsimp only [sAsg, sIf, sRet, sRetN, sDrop, sNext, asg, setAll, eT, eOp, eUn, eLst, eTup, eCons, eNil, eVar, eC, eCall, eCB, eNot, eAnd, eOr, eTru, eAndT, eOrT, eNotT, eIf, ePart, eNoPart, eYes, eChain, eChain3, oI, oI0, oLt, oLe, oGt, oGe, oNeg, oSub, oMod, oMul, oDivW, eXp, eXa, eConsX, eCallX, eCallN, eLstX, eCBX, sDropX, sRetX, sAsgX, sRaise, sRaiseF, List.set_cons_zero, List.set_cons_succ, List.getElem?_cons_zero, List.getElem?_cons_succ, truD_bl])
              by_cases c4 : 1000000000000 ≤ j
              · (try dsimp only [sAsg, sIf, sRet, sRetN, sDrop, sNext, asg, setAll, eT, eOp, eUn, eLst, eTup, eCons, eNil, eVar, eC, eCall, eCB, eNot, eAnd, eOr, eTru, eAndT, eOrT, eNotT, eIf, ePart, eNoPart, eYes, eChain, eChain3, oI, oI0, oLt, oLe, oGt, oGe, oNeg, oSub, oMod, oMul, oDivW, eXp, eXa, eConsX, eCallX, eCallN, eLstX, eCBX, sDropX, sRetX, sAsgX, sRaise, sRaiseF, List.set_cons_zero, List.set_cons_succ, List.getElem?_cons_zero, List.getElem?_cons_succ, truD_bl, c4]); (try simp only [if_true, Bool.false_eq_true, if_false, decide_true, decide_false, Bool.not_true, Bool.not_false, List.length_cons, List.length_nil, sizeLine_eq, Nat.reduceAdd, Nat.reduceLeDiff, true_and, and_true, pw6, pw10, pw11, pw12, pw13, pw30, pw40, pw60, c4]); (try dsimp only [sAsg, sIf, sRet, sRetN, sDrop, sNext, asg, setAll, eT, eOp, eUn, eLst, eTup, eCons, eNil, eVar, eC, eCall, eCB, eNot, eAnd, eOr, eTru, eAndT, eOrT, eNotT, eIf, ePart, eNoPart, eYes, eChain, eChain3, oI, oI0, oLt, oLe, oGt, oGe, oNeg, oSub, oMod, oMul, oDivW, eXp, eXa, eConsX, eCallX, eCallN, eLstX, eCBX, sDropX, sRetX, sAsgX, sRaise, sRaiseF, List.set_cons_zero, List.set_cons_succ, List.getElem?_cons_zero, List.getElem?_cons_succ, truD_bl, c4])
                exact bad fun w => by have := w.hi; simp only at this; omega
              (try dsimp only [sAsg, sIf, sRet, sRetN, sDrop, sNext, asg, setAll, eT, eOp, eUn, eLst, eTup, eCons, eNil, eVar, eC, eCall, eCB, eNot, eAnd, eOr, eTru, eAndT, eOrT, eNotT, eIf, ePart, eNoPart, eYes, eChain, eChain3, oI, oI0, oLt, oLe, oGt, oGe, oNeg, oSub, oMod, oMul, oDivW, eXp, eXa, eConsX, eCallX, eCallN, eLstX, eCBX, sDropX, sRetX, sAsgX, sRaise, sRaiseF, List.set_cons_zero, List.set_cons_succ, List.getElem?_cons_zero, List.getElem?_cons_succ, truD_bl, c4]); (try simp only [if_true, Bool.false_eq_true, if_false, decide_true, decide_false, Bool.not_true, Bool.not_false, List.length_cons, List.length_nil, sizeLine_eq, Nat.reduceAdd, Nat.reduceLeDiff, true_and, and_true, pw6, pw10, pw11, pw12, pw13, pw30, pw40, pw60, c4]); (try dsimp only [sAsg, sIf, sRet, sRetN, sDrop, sNext, asg, setAll, eT, eOp, eUn, eLst, eTup, eCons, eNil, eVar, eC, eCall, eCB, eNot, eAnd, eOr, eTru, eAndT, eOrT, eNotT, eIf, ePart, eNoPart, eYes, eChain, eChain3, oI, oI0, oLt, oLe, oGt, oGe, oNeg, oSub, oMod, oMul, oDivW, eXp, eXa, eConsX, eCallX, eCallN, eLstX, eCBX, sDropX, sRetX, sAsgX, sRaise, sRaiseF, List.set_cons_zero, List.set_cons_succ, List.getElem?_cons_zero, List.getElem?_cons_succ, truD_bl, c4])
              refine hW3 _ _ ?_
              (try dsimp only [sAsg, sIf, sRet, sRetN, sDrop, sNext, asg, setAll, eT, eOp, eUn, eLst, eTup, eCons, eNil, eVar, eC, eCall, eCB, eNot, eAnd, eOr, eTru, eAndT, eOrT, eNotT, eIf, ePart, eNoPart, eYes, eChain, eChain3, oI, oI0, oLt, oLe, oGt, oGe, oNeg, oSub, oMod, oMul, oDivW, eXp, eXa, eConsX, eCallX, eCallN, eLstX, eCBX, sDropX, sRetX, sAsgX, sRaise, sRaiseF, List.set_cons_zero, List.set_cons_succ, List.getElem?_cons_zero, List.getElem?_cons_succ, truD_bl]); (try simp only [if_true, Bool.false_eq_true, if_false, decide_true, decide_false, Bool.not_true, Bool.not_false, List.length_cons, List.length_nil, sizeLine_eq, Nat.reduceAdd, Nat.reduceLeDiff, true_and, and_true, pw6, pw10, pw11, pw12, pw13, pw30, pw40, pw60]); (try dsimp only [sAsg, sIf, sRet, sRetN, sDrop, sNext, asg, setAll, eT, eOp, eUn, eLst, eTup, eCons, eNil, eVar, eC, eCall, eCB, eNot, eAnd, eOr, eTru, eAndT, eOrT, eNotT, eIf, ePart, eNoPart, eYes, eChain, eChain3, oI, oI0, oLt, oLe, oGt, oGe, oNeg, oSub, oMod, oMul, oDivW, eXp, eXa, eConsX, eCallX, eCallN, eLstX, eCBX, sDropX, sRetX, sAsgX, sRaise, sRaiseF, List.set_cons_zero, List.set_cons_succ, List.getElem?_cons_zero, List.getElem?_cons_succ, truD_bl])
              refine ixt_0 (d := .int l) rfl ?_
              (try dsimp only [sAsg, sIf, sRet, sRetN, sDrop, sNext, asg, setAll, eT, eOp, eUn, eLst, eTup, eCons, eNil, eVar, eC, eCall, eCB, eNot, eAnd, eOr, eTru, eAndT, eOrT, eNotT, eIf, ePart, eNoPart, eYes, eChain, eChain3, oI, oI0, oLt, oLe, oGt, oGe, oNeg, oSub, oMod, oMul, oDivW, eXp, eXa, eConsX, eCallX, eCallN, eLstX, eCBX, sDropX, sRetX, sAsgX, sRaise, sRaiseF, List.set_cons_zero, List.set_cons_succ, List.getElem?_cons_zero, List.getElem?_cons_succ, truD_bl]); (try simp only [if_true, Bool.false_eq_true, if_false, decide_true, decide_false, Bool.not_true, Bool.not_false, List.length_cons, List.length_nil, sizeLine_eq, Nat.reduceAdd, Nat.reduceLeDiff, true_and, and_true, pw6, pw10, pw11, pw12, pw13, pw30, pw40, pw60]); (try dsimp only [sAsg, sIf, sRet, sRetN, sDrop, sNext, asg, setAll, eT, eOp, eUn, eLst, eTup, eCons, eNil, eVar, eC, eCall, eCB, eNot, eAnd, eOr, eTru, eAndT, eOrT, eNotT, eIf, ePart, eNoPart, eYes, eChain, eChain3, oI, oI0, oLt, oLe, oGt, oGe, oNeg, oSub, oMod, oMul, oDivW, eXp, eXa, eConsX, eCallX, eCallN, eLstX, eCBX, sDropX, sRetX, sAsgX, sRaise, sRaiseF, List.set_cons_zero, List.set_cons_succ, List.getElem?_cons_zero, List.getElem?_cons_succ, truD_bl])
              by_cases c5 : 1 ≤ l
              · by_cases c6 : l ≤ 10000000000000
                · (try dsimp only [sAsg, sIf, sRet, sRetN, sDrop, sNext, asg, setAll, eT, eOp, eUn, eLst, eTup, eCons, eNil, eVar, eC, eCall, eCB, eNot, eAnd, eOr, eTru, eAndT, eOrT, eNotT, eIf, ePart, eNoPart, eYes, eChain, eChain3, oI, oI0, oLt, oLe, oGt, oGe, oNeg, oSub, oMod, oMul, oDivW, eXp, eXa, eConsX, eCallX, eCallN, eLstX, eCBX, sDropX, sRetX, sAsgX, sRaise, sRaiseF, List.set_cons_zero, List.set_cons_succ, List.getElem?_cons_zero, List.getElem?_cons_succ, truD_bl, c5, c6]); (try simp only [if_true, Bool.false_eq_true, if_false, decide_true, decide_false, Bool.not_true, Bool.not_false, List.length_cons, List.length_nil, sizeLine_eq, Nat.reduceAdd, Nat.reduceLeDiff, true_and, and_true, pw6, pw10, pw11, pw12, pw13, pw30, pw40, pw60, c5, c6]); (try dsimp only [sAsg, sIf, sRet, sRetN, sDrop, sNext, asg, setAll, eT, eOp, eUn, eLst, eTup, eCons, eNil, eVar, eC, eCall, eCB, eNot, eAnd, eOr, eTru, eAndT, eOrT, eNotT, eIf, ePart, eNoPart, eYes, eChain, eChain3, oI, oI0, oLt, oLe, oGt, oGe, oNeg, oSub, oMod, oMul, oDivW, eXp, eXa, eConsX, eCallX, eCallN, eLstX, eCBX, sDropX, sRetX, sAsgX, sRaise, sRaiseF, List.set_cons_zero, List.set_cons_succ, List.getElem?_cons_zero, List.getElem?_cons_succ, truD_bl, c5, c6])
                  exact fin_id (k true ⟨fun _ => ⟨(i, j, l), rfl, ⟨by simp only; omega, by simp only; omega, by simp only; omega, by simp only; omega, c5, c6⟩⟩, fun _ => rfl⟩)
                · (try dsimp only [sAsg, sIf, sRet, sRetN, sDrop, sNext, asg, setAll, eT, eOp, eUn, eLst, eTup, eCons, eNil, eVar, eC, eCall, eCB, eNot, eAnd, eOr, eTru, eAndT, eOrT, eNotT, eIf, ePart, eNoPart, eYes, eChain, eChain3, oI, oI0, oLt, oLe, oGt, oGe, oNeg, oSub, oMod, oMul, oDivW, eXp, eXa, eConsX, eCallX, eCallN, eLstX, eCBX, sDropX, sRetX, sAsgX, sRaise, sRaiseF, List.set_cons_zero, List.set_cons_succ, List.getElem?_cons_zero, List.getElem?_cons_succ, truD_bl, c5, c6]); (try simp only [if_true, Bool.false_eq_true, if_false, decide_true, decide_false, Bool.not_true, Bool.not_false, List.length_cons, List.length_nil, sizeLine_eq, Nat.reduceAdd, Nat.reduceLeDiff, true_and, and_true, pw6, pw10, pw11, pw12, pw13, pw30, pw40, pw60, c5, c6]); (try dsimp only [sAsg, sIf, sRet, sRetN, sDrop, sNext, asg, setAll, eT, eOp, eUn, eLst, eTup, eCons, eNil, eVar, eC, eCall, eCB, eNot, eAnd, eOr, eTru, eAndT, eOrT, eNotT, eIf, ePart, eNoPart, eYes, eChain, eChain3, oI, oI0, oLt, oLe, oGt, oGe, oNeg, oSub, oMod, oMul, oDivW, eXp, eXa, eConsX, eCallX, eCallN, eLstX, eCBX, sDropX, sRetX, sAsgX, sRaise, sRaiseF, List.set_cons_zero, List.set_cons_succ, List.getElem?_cons_zero, List.getElem?_cons_succ, truD_bl, c5, c6])
                  exact bad fun w => c6 w.p2
              · (try dsimp only [sAsg, sIf, sRet, sRetN, sDrop, sNext, asg, setAll, eT, eOp, eUn, eLst, eTup, eCons, eNil, eVar, eC, eCall, eCB, eNot, eAnd, eOr, eTru, eAndT, eOrT, eNotT, eIf, ePart, eNoPart, eYes, eChain, eChain3, oI, oI0, oLt, oLe, oGt, oGe, oNeg, oSub, oMod, oMul, oDivW, eXp, eXa, eConsX, eCallX, eCallN, eLstX, eCBX, sDropX, sRetX, sAsgX, sRaise, sRaiseF, List.set_cons_zero, List.set_cons_succ, List.getElem?_cons_zero, List.getElem?_cons_succ, truD_bl, c5]); (try simp only [if_true, Bool.false_eq_true, if_false, decide_true, decide_false, Bool.not_true, Bool.not_false, List.length_cons, List.length_nil, sizeLine_eq, Nat.reduceAdd, Nat.reduceLeDiff, true_and, and_true, pw6, pw10, pw11, pw12, pw13, pw30, pw40, pw60, c5]); (try dsimp only [sAsg, sIf, sRet, sRetN, sDrop, sNext, asg, setAll, eT, eOp, eUn, eLst, eTup, eCons, eNil, eVar, eC, eCall, eCB, eNot, eAnd, eOr, eTru, eAndT, eOrT, eNotT, eIf, ePart, eNoPart, eYes, eChain, eChain3, oI, oI0, oLt, oLe, oGt, oGe, oNeg, oSub, oMod, oMul, oDivW, eXp, eXa, eConsX, eCallX, eCallN, eLstX, eCBX, sDropX, sRetX, sAsgX, sRaise, sRaiseF, List.set_cons_zero, List.set_cons_succ, List.getElem?_cons_zero, List.getElem?_cons_succ, truD_bl, c5])
                exact bad fun w => c5 w.p1
    · rw [decide_eq_false (by omega)]
      (try dsimp only [sAsg, sIf, sRet, sRetN, sDrop, sNext, asg, setAll, eT, eOp, eUn, eLst, eTup, eCons, eNil, eVar, eC, eCall, eCB, eNot, eAnd, eOr, eTru, eAndT, eOrT, eNotT, eIf, ePart, eNoPart, eYes, eChain, eChain3, oI, oI0, oLt, oLe, oGt, oGe, oNeg, oSub, oMod, oMul, oDivW, eXp, eXa, eConsX, eCallX, eCallN, eLstX, eCBX, sDropX, sRetX, sAsgX, sRaise, sRaiseF, List.set_cons_zero, List.set_cons_succ, List.getElem?_cons_zero, List.getElem?_cons_succ, truD_bl]); (try simp only [if_true, Bool.false_eq_true, if_false, decide_true, decide_false, Bool.not_true, Bool.not_false, List.length_cons, List.length_nil, sizeLine_eq, Nat.reduceAdd, Nat.reduceLeDiff, true_and, and_true, pw6, pw10, pw11, pw12, pw13, pw30, pw40, pw60]); (try dsimp only [sAsg, sIf, sRet, sRetN, sDrop, sNext, asg, setAll, eT, eOp, eUn, eLst, eTup, eCons, eNil, eVar, eC, eCall, eCB, eNot, eAnd, eOr, eTru, eAndT, eOrT, eNotT, eIf, ePart, eNoPart, eYes, eChain, eChain3, oI, oI0, oLt, oLe, oGt, oGe, oNeg, oSub, oMod, oMul, oDivW, eXp, eXa, eConsX, eCallX, eCallN, eLstX, eCBX, sDropX, sRetX, sAsgX, sRaise, sRaiseF, List.set_cons_zero, List.set_cons_succ, List.getElem?_cons_zero, List.getElem?_cons_succ, truD_bl])
      exact no fun x e _ => by simp [triD] at e; subst e; simp at l2
  | _ =>
    (try dsimp only [sAsg, sIf, sRet, sRetN, sDrop, sNext, asg, setAll, eT, eOp, eUn, eLst, eTup, eCons, eNil, eVar, eC, eCall, eCB, eNot, eAnd, eOr, eTru, eAndT, eOrT, eNotT, eIf, ePart, eNoPart, eYes, eChain, eChain3, oI, oI0, oLt, oLe, oGt, oGe, oNeg, oSub, oMod, oMul, oDivW, eXp, eXa, eConsX, eCallX, eCallN, eLstX, eCBX, sDropX, sRetX, sAsgX, sRaise, sRaiseF, List.set_cons_zero, List.set_cons_succ, List.getElem?_cons_zero, List.getElem?_cons_succ, truD_bl, isT]); (try simp only [if_true, Bool.false_eq_true, if_false, decide_true, decide_false, Bool.not_true, Bool.not_false, List.length_cons, List.length_nil, sizeLine_eq, Nat.reduceAdd, Nat.reduceLeDiff, true_and, and_true, pw6, pw10, pw11, pw12, pw13, pw30, pw40, pw60, isT]); (try dsimp only [sAsg, sIf, sRet, sRetN, sDrop, sNext, asg, setAll, eT, eOp, eUn, eLst, eTup, eCons, eNil, eVar, eC, eCall, eCB, eNot, eAnd, eOr, eTru, eAndT, eOrT, eNotT, eIf, ePart, eNoPart, eYes, eChain, eChain3, oI, oI0, oLt, oLe, oGt, oGe, oNeg, oSub, oMod, oMul, oDivW, eXp, eXa, eConsX, eCallX, eCallN, eLstX, eCBX, sDropX, sRetX, sAsgX, sRaise, sRaiseF, List.set_cons_zero, List.set_cons_succ, List.getElem?_cons_zero, List.getElem?_cons_succ, truD_bl, isT])
    exact no fun x e _ => by simp [triD] at e
theorem isBP_long {es : List D} (h : 192 < es.length) : ¬ IsBP (.lst es) := fun ⟨pp, e, w⟩ => by
  cases e
  have := w.len
  simp at h
  omega
/-- what stands behind a front -/
theorem isBP_at {pp : List Tri} {d : D} {r : List D} (h : IsBP (.lst (pp.map triD ++ d :: r))) : ∃ x, d = triD x ∧ TQ x ∧ ∀ y ∈ pp, triL y x := by
  obtain ⟨p2, e, w⟩ := h
  simp only [D.lst.injEq] at e
  have hl : pp.length < p2.length := by
    have := congrArg List.length e
    simp at this
    omega
  have e1 : d = triD p2[pp.length] := by
    have := congrArg (fun l => l[pp.length]?) e
    simp at this
    rw [List.getElem?_eq_getElem hl] at this
    simpa using this
  have e2 : pp = p2.take pp.length := by
    have := congrArg (fun l => l.take pp.length) e
    simp only [List.take_append, List.length_map, Nat.sub_self, List.take_zero, List.append_nil, ← List.map_take] at this
    rw [List.take_length] at this
    exact triDs_inj (by simpa using this)
  refine ⟨_, e1, w.all _ (List.getElem_mem hl), fun y hy => ?_⟩
  rw [e2] at hy
  obtain ⟨i, hi, ey⟩ := List.getElem_of_mem hy
  rw [← ey]
  simp at hi ⊢
  exact (List.pairwise_iff_getElem.mp w.up) i pp.length (by omega) hl (by omega)
/-- the last one's bench and moment, as the walk keeps them -/
def lastT : List Tri → D
  | [] => .tup [.int (-1), .int 0]
  | x :: r => match r with
    | [] => .tup [.int x.1, .int x.2.1]
    | y :: r => lastT (y :: r)
theorem lastT_snoc : ∀ (L : List Tri) (x : Tri), lastT (L ++ [x]) = .tup [.int x.1, .int x.2.1]
  | [], _ => rfl
  | [y], _ => rfl
  | y :: z :: r, x => lastT_snoc (z :: r) x
theorem lastT_le {L : List Tri} {a b : Int} {G : Gp} {Q : DK} (h0 : 0 ≤ a) (q : ∀ c : Bool, (c = true ↔ ∃ y, L.getLast? = some y ∧ ¬ (y.1 < a ∨ y.1 = a ∧ y.2.1 < b)) → Q (.bl c) G) : oLeD (.tup [.int a, .int b]) (lastT L) G Q := by
  rcases List.eq_nil_or_concat L with e | ⟨r, y, e⟩
  · subst e
    refine le_pair ?_
    rw [decide_eq_false (by omega)]
    refine q _ ⟨fun e => (by cases e), fun ⟨y, e, _⟩ => (by simp at e)⟩
  · rw [List.concat_eq_append] at e
    subst e
    rw [lastT_snoc]
    refine le_pair (q _ ?_)
    rw [decide_eq_true_iff]
    constructor
    · intro h
      exact ⟨y, by simp, by omega⟩
    · rintro ⟨z, e, h⟩
      simp at e
      subst e
      omega
theorem triL_snoc {L : List Tri} {x : Tri} (up : L.Pairwise triL) (h : ∀ y, L.getLast? = some y → triL y x) : (L ++ [x]).Pairwise triL := by
  refine List.pairwise_append.mpr ⟨up, by simp, fun a ha b hb => ?_⟩
  rw [List.mem_singleton.mp hb]
  rcases List.eq_nil_or_concat L with e | ⟨r, y, e⟩
  · subst e; cases ha
  · rw [List.concat_eq_append] at e
    subst e
    have hy := h y (by simp)
    rcases List.mem_append.mp ha with q | q
    · have := (List.pairwise_append.mp up).2.2 a q y (by simp)
      unfold triL at *
      omega
    · rw [List.mem_singleton.mp q]; exact hy
theorem d_is_bench_paper (ds : List D) (G : Gp) (Q : DK) (h : F_is_bench_paper ds G Q) : r_is_bench_paper (fin G Q) (startD 3 ds) G := by
  obtain ⟨d, rfl, ha, k⟩ := h
  have no : ¬ IsBP d → (fin G Q).rt (.bl false) G := fun q => fin_id (k false ⟨fun e => (by cases e), fun e => (q e).elim⟩)
  refine seq_gen fun W hW => ?_
  (try dsimp only [sAsg, sIf, sRet, sRetN, sDrop, sNext, asg, setAll, eT, eOp, eUn, eLst, eTup, eCons, eNil, eVar, eC, eCall, eCB, eNot, eAnd, eOr, eTru, eAndT, eOrT, eNotT, eIf, ePart, eNoPart, eYes, eChain, eChain3, oI, oI0, oLt, oLe, oGt, oGe, oNeg, oSub, oMod, oMul, oDivW, eXp, eXa, eConsX, eCallX, eCallN, eLstX, eCBX, sDropX, sRetX, sAsgX, sRaise, sRaiseF, List.set_cons_zero, List.set_cons_succ, List.getElem?_cons_zero, List.getElem?_cons_succ, truD_bl, startD, List.map_cons, List.map_nil, List.cons_append, List.nil_append, List.replicate]); (try simp only [if_true, Bool.false_eq_true, if_false, decide_true, decide_false, Bool.not_true, Bool.not_false, List.length_cons, List.length_nil, sizeLine_eq, Nat.reduceAdd, Nat.reduceLeDiff, true_and, and_true, pw6, pw10, pw11, pw12, pw13, pw30, pw40, pw60, startD, List.map_cons, List.map_nil, List.cons_append, List.nil_append, List.replicate]); (try dsimp only [sAsg, sIf, sRet, sRetN, sDrop, sNext, asg, setAll, eT, eOp, eUn, eLst, eTup, eCons, eNil, eVar, eC, eCall, eCB, eNot, eAnd, eOr, eTru, eAndT, eOrT, eNotT, eIf, ePart, eNoPart, eYes, eChain, eChain3, oI, oI0, oLt, oLe, oGt, oGe, oNeg, oSub, oMod, oMul, oDivW, eXp, eXa, eConsX, eCallX, eCallN, eLstX, eCBX, sDropX, sRetX, sAsgX, sRaise, sRaiseF, List.set_cons_zero, List.set_cons_succ, List.getElem?_cons_zero, List.getElem?_cons_succ, truD_bl, startD, List.map_cons, List.map_nil, List.cons_append, List.nil_append, List.replicate])
  rw [isi_list ha]
  cases d with
  | lst es =>
    simp only [anyD] at ha
    have hm := anyDs_mem.mp ha
    (try dsimp only [sAsg, sIf, sRet, sRetN, sDrop, sNext, asg, setAll, eT, eOp, eUn, eLst, eTup, eCons, eNil, eVar, eC, eCall, eCB, eNot, eAnd, eOr, eTru, eAndT, eOrT, eNotT, eIf, ePart, eNoPart, eYes, eChain, eChain3, oI, oI0, oLt, oLe, oGt, oGe, oNeg, oSub, oMod, oMul, oDivW, eXp, eXa, eConsX, eCallX, eCallN, eLstX, eCBX, sDropX, sRetX, sAsgX, sRaise, sRaiseF, List.set_cons_zero, List.set_cons_succ, List.getElem?_cons_zero, List.getElem?_cons_succ, truD_bl, isL]); (try simp only [if_true, Bool.false_eq_true, if_false, decide_true, decide_false, Bool.not_true, Bool.not_false, List.length_cons, List.length_nil, sizeLine_eq, Nat.reduceAdd, Nat.reduceLeDiff, true_and, and_true, pw6, pw10, pw11, pw12, pw13, pw30, pw40, pw60, isL]); (try dsimp only [sAsg, sIf, sRet, sRetN, sDrop, sNext, asg, setAll, eT, eOp, eUn, eLst, eTup, eCons, eNil, eVar, eC, eCall, eCB, eNot, eAnd, eOr, eTru, eAndT, eOrT, eNotT, eIf, ePart, eNoPart, eYes, eChain, eChain3, oI, oI0, oLt, oLe, oGt, oGe, oNeg, oSub, oMod, oMul, oDivW, eXp, eXa, eConsX, eCallX, eCallN, eLstX, eCBX, sDropX, sRetX, sAsgX, sRaise, sRaiseF, List.set_cons_zero, List.set_cons_succ, List.getElem?_cons_zero, List.getElem?_cons_succ, truD_bl, isL])
    refine len_lst ?_
    (try dsimp only [sAsg, sIf, sRet, sRetN, sDrop, sNext, asg, setAll, eT, eOp, eUn, eLst, eTup, eCons, eNil, eVar, eC, eCall, eCB, eNot, eAnd, eOr, eTru, eAndT, eOrT, eNotT, eIf, ePart, eNoPart, eYes, eChain, eChain3, oI, oI0, oLt, oLe, oGt, oGe, oNeg, oSub, oMod, oMul, oDivW, eXp, eXa, eConsX, eCallX, eCallN, eLstX, eCBX, sDropX, sRetX, sAsgX, sRaise, sRaiseF, List.set_cons_zero, List.set_cons_succ, List.getElem?_cons_zero, List.getElem?_cons_succ, truD_bl]); (try simp only [if_true, Bool.false_eq_true, if_false, decide_true, decide_false, Bool.not_true, Bool.not_false, List.length_cons, List.length_nil, sizeLine_eq, Nat.reduceAdd, Nat.reduceLeDiff, true_and, and_true, pw6, pw10, pw11, pw12, pw13, pw30, pw40, pw60]); (try dsimp only [sAsg, sIf, sRet, sRetN, sDrop, sNext, asg, setAll, eT, eOp, eUn, eLst, eTup, eCons, eNil, eVar, eC, eCall, eCB, eNot, eAnd, eOr, eTru, eAndT, eOrT, eNotT, eIf, ePart, eNoPart, eYes, eChain, eChain3, oI, oI0, oLt, oLe, oGt, oGe, oNeg, oSub, oMod, oMul, oDivW, eXp, eXa, eConsX, eCallX, eCallN, eLstX, eCBX, sDropX, sRetX, sAsgX, sRaise, sRaiseF, List.set_cons_zero, List.set_cons_succ, List.getElem?_cons_zero, List.getElem?_cons_succ, truD_bl])
    by_cases q48 : (192 : Int) < es.length
    · (try dsimp only [sAsg, sIf, sRet, sRetN, sDrop, sNext, asg, setAll, eT, eOp, eUn, eLst, eTup, eCons, eNil, eVar, eC, eCall, eCB, eNot, eAnd, eOr, eTru, eAndT, eOrT, eNotT, eIf, ePart, eNoPart, eYes, eChain, eChain3, oI, oI0, oLt, oLe, oGt, oGe, oNeg, oSub, oMod, oMul, oDivW, eXp, eXa, eConsX, eCallX, eCallN, eLstX, eCBX, sDropX, sRetX, sAsgX, sRaise, sRaiseF, List.set_cons_zero, List.set_cons_succ, List.getElem?_cons_zero, List.getElem?_cons_succ, truD_bl, q48]); (try simp only [if_true, Bool.false_eq_true, if_false, decide_true, decide_false, Bool.not_true, Bool.not_false, List.length_cons, List.length_nil, sizeLine_eq, Nat.reduceAdd, Nat.reduceLeDiff, true_and, and_true, pw6, pw10, pw11, pw12, pw13, pw30, pw40, pw60, q48]); (try dsimp only [sAsg, sIf, sRet, sRetN, sDrop, sNext, asg, setAll, eT, eOp, eUn, eLst, eTup, eCons, eNil, eVar, eC, eCall, eCB, eNot, eAnd, eOr, eTru, eAndT, eOrT, eNotT, eIf, ePart, eNoPart, eYes, eChain, eChain3, oI, oI0, oLt, oLe, oGt, oGe, oNeg, oSub, oMod, oMul, oDivW, eXp, eXa, eConsX, eCallX, eCallN, eLstX, eCBX, sDropX, sRetX, sAsgX, sRaise, sRaiseF, List.set_cons_zero, List.set_cons_succ, List.getElem?_cons_zero, List.getElem?_cons_succ, truD_bl, q48])
      exact no (isBP_long (by omega))
    · (try dsimp only [sAsg, sIf, sRet, sRetN, sDrop, sNext, asg, setAll, eT, eOp, eUn, eLst, eTup, eCons, eNil, eVar, eC, eCall, eCB, eNot, eAnd, eOr, eTru, eAndT, eOrT, eNotT, eIf, ePart, eNoPart, eYes, eChain, eChain3, oI, oI0, oLt, oLe, oGt, oGe, oNeg, oSub, oMod, oMul, oDivW, eXp, eXa, eConsX, eCallX, eCallN, eLstX, eCBX, sDropX, sRetX, sAsgX, sRaise, sRaiseF, List.set_cons_zero, List.set_cons_succ, List.getElem?_cons_zero, List.getElem?_cons_succ, truD_bl, q48]); (try simp only [if_true, Bool.false_eq_true, if_false, decide_true, decide_false, Bool.not_true, Bool.not_false, List.length_cons, List.length_nil, sizeLine_eq, Nat.reduceAdd, Nat.reduceLeDiff, true_and, and_true, pw6, pw10, pw11, pw12, pw13, pw30, pw40, pw60, q48]); (try dsimp only [sAsg, sIf, sRet, sRetN, sDrop, sNext, asg, setAll, eT, eOp, eUn, eLst, eTup, eCons, eNil, eVar, eC, eCall, eCB, eNot, eAnd, eOr, eTru, eAndT, eOrT, eNotT, eIf, ePart, eNoPart, eYes, eChain, eChain3, oI, oI0, oLt, oLe, oGt, oGe, oNeg, oSub, oMod, oMul, oDivW, eXp, eXa, eConsX, eCallX, eCallN, eLstX, eCBX, sDropX, sRetX, sAsgX, sRaise, sRaiseF, List.set_cons_zero, List.set_cons_succ, List.getElem?_cons_zero, List.getElem?_cons_succ, truD_bl, q48])
      refine hW _ _ ?_
      refine seq_gen fun W2 hW2 => ?_
      (try dsimp only [sAsg, sIf, sRet, sRetN, sDrop, sNext, asg, setAll, eT, eOp, eUn, eLst, eTup, eCons, eNil, eVar, eC, eCall, eCB, eNot, eAnd, eOr, eTru, eAndT, eOrT, eNotT, eIf, ePart, eNoPart, eYes, eChain, eChain3, oI, oI0, oLt, oLe, oGt, oGe, oNeg, oSub, oMod, oMul, oDivW, eXp, eXa, eConsX, eCallX, eCallN, eLstX, eCBX, sDropX, sRetX, sAsgX, sRaise, sRaiseF, List.set_cons_zero, List.set_cons_succ, List.getElem?_cons_zero, List.getElem?_cons_succ, truD_bl, oNeg]); (try simp only [if_true, Bool.false_eq_true, if_false, decide_true, decide_false, Bool.not_true, Bool.not_false, List.length_cons, List.length_nil, sizeLine_eq, Nat.reduceAdd, Nat.reduceLeDiff, true_and, and_true, pw6, pw10, pw11, pw12, pw13, pw30, pw40, pw60, oNeg]); (try dsimp only [sAsg, sIf, sRet, sRetN, sDrop, sNext, asg, setAll, eT, eOp, eUn, eLst, eTup, eCons, eNil, eVar, eC, eCall, eCB, eNot, eAnd, eOr, eTru, eAndT, eOrT, eNotT, eIf, ePart, eNoPart, eYes, eChain, eChain3, oI, oI0, oLt, oLe, oGt, oGe, oNeg, oSub, oMod, oMul, oDivW, eXp, eXa, eConsX, eCallX, eCallN, eLstX, eCBX, sDropX, sRetX, sAsgX, sRaise, sRaiseF, List.set_cons_zero, List.set_cons_succ, List.getElem?_cons_zero, List.getElem?_cons_succ, truD_bl, oNeg])
      refine hW2 _ _ ?_
      refine seq_gen fun W3 hW3 => ?_
      (try dsimp only [sAsg, sIf, sRet, sRetN, sDrop, sNext, asg, setAll, eT, eOp, eUn, eLst, eTup, eCons, eNil, eVar, eC, eCall, eCB, eNot, eAnd, eOr, eTru, eAndT, eOrT, eNotT, eIf, ePart, eNoPart, eYes, eChain, eChain3, oI, oI0, oLt, oLe, oGt, oGe, oNeg, oSub, oMod, oMul, oDivW, eXp, eXa, eConsX, eCallX, eCallN, eLstX, eCBX, sDropX, sRetX, sAsgX, sRaise, sRaiseF, List.set_cons_zero, List.set_cons_succ, List.getElem?_cons_zero, List.getElem?_cons_succ, truD_bl, sFor, iL, lkL_lst, stays]); (try simp only [if_true, Bool.false_eq_true, if_false, decide_true, decide_false, Bool.not_true, Bool.not_false, List.length_cons, List.length_nil, sizeLine_eq, Nat.reduceAdd, Nat.reduceLeDiff, true_and, and_true, pw6, pw10, pw11, pw12, pw13, pw30, pw40, pw60, sFor, iL, lkL_lst, stays]); (try dsimp only [sAsg, sIf, sRet, sRetN, sDrop, sNext, asg, setAll, eT, eOp, eUn, eLst, eTup, eCons, eNil, eVar, eC, eCall, eCB, eNot, eAnd, eOr, eTru, eAndT, eOrT, eNotT, eIf, ePart, eNoPart, eYes, eChain, eChain3, oI, oI0, oLt, oLe, oGt, oGe, oNeg, oSub, oMod, oMul, oDivW, eXp, eXa, eConsX, eCallX, eCallN, eLstX, eCBX, sDropX, sRetX, sAsgX, sRaise, sRaiseF, List.set_cons_zero, List.set_cons_succ, List.getElem?_cons_zero, List.getElem?_cons_succ, truD_bl, sFor, iL, lkL_lst, stays])
      refine forW_self (fun r s G' => G' = G ∧ ∃ (pp : List Tri) (o1 : Option D), es = pp.map triD ++ r ∧ (∀ x ∈ pp, TQ x) ∧ pp.Pairwise triL ∧ s = [some (.lst es), some (lastT pp), o1]) (fun _ _ _ _ => trivial) ?_ ?_ es _ _ ⟨rfl, [], _, rfl, (fun x hx => by cases hx), .nil, rfl⟩
      · rintro x r s G' W ⟨rfl, pp, o1, he, hq, up, rfl⟩ hW
        have hin : x ∈ es := by rw [he]; simp
        unfold r_is_bench_paper_L1
        refine seq_gen fun W4 hW4 => ?_
        (try dsimp only [sAsg, sIf, sRet, sRetN, sDrop, sNext, asg, setAll, eT, eOp, eUn, eLst, eTup, eCons, eNil, eVar, eC, eCall, eCB, eNot, eAnd, eOr, eTru, eAndT, eOrT, eNotT, eIf, ePart, eNoPart, eYes, eChain, eChain3, oI, oI0, oLt, oLe, oGt, oGe, oNeg, oSub, oMod, oMul, oDivW, eXp, eXa, eConsX, eCallX, eCallN, eLstX, eCBX, sDropX, sRetX, sAsgX, sRaise, sRaiseF, List.set_cons_zero, List.set_cons_succ, List.getElem?_cons_zero, List.getElem?_cons_succ, truD_bl]); (try simp only [if_true, Bool.false_eq_true, if_false, decide_true, decide_false, Bool.not_true, Bool.not_false, List.length_cons, List.length_nil, sizeLine_eq, Nat.reduceAdd, Nat.reduceLeDiff, true_and, and_true, pw6, pw10, pw11, pw12, pw13, pw30, pw40, pw60]); (try dsimp only [sAsg, sIf, sRet, sRetN, sDrop, sNext, asg, setAll, eT, eOp, eUn, eLst, eTup, eCons, eNil, eVar, eC, eCall, eCB, eNot, eAnd, eOr, eTru, eAndT, eOrT, eNotT, eIf, ePart, eNoPart, eYes, eChain, eChain3, oI, oI0, oLt, oLe, oGt, oGe, oNeg, oSub, oMod, oMul, oDivW, eXp, eXa, eConsX, eCallX, eCallN, eLstX, eCBX, sDropX, sRetX, sAsgX, sRaise, sRaiseF, List.set_cons_zero, List.set_cons_succ, List.getElem?_cons_zero, List.getElem?_cons_succ, truD_bl])
        refine ⟨x, rfl, hm x hin, fun b hb => ?_⟩
        cases b with
        | true =>
          obtain ⟨y, rfl, hy⟩ := hb.mp rfl
          have sl : ∀ {Q : DK}, Q (.tup [.int y.1, .int y.2.1]) G' → eSlT (eVar 2) eNoPart (ePart (eC (.int 2))) [some (.lst es), some (lastT pp), some (triD y)] G' Q := fun q => by
            simp only [eSlT, eVar, eNoPart, ePart, eC, List.getElem?_cons_succ, List.getElem?_cons_zero, triD]
            exact ⟨(by show ¬ (HT.sIx 3 0 none = 0 ∧ HT.sIx 3 3 (some 2) = 3); decide), q⟩
          (try dsimp only [sAsg, sIf, sRet, sRetN, sDrop, sNext, asg, setAll, eT, eOp, eUn, eLst, eTup, eCons, eNil, eVar, eC, eCall, eCB, eNot, eAnd, eOr, eTru, eAndT, eOrT, eNotT, eIf, ePart, eNoPart, eYes, eChain, eChain3, oI, oI0, oLt, oLe, oGt, oGe, oNeg, oSub, oMod, oMul, oDivW, eXp, eXa, eConsX, eCallX, eCallN, eLstX, eCBX, sDropX, sRetX, sAsgX, sRaise, sRaiseF, List.set_cons_zero, List.set_cons_succ, List.getElem?_cons_zero, List.getElem?_cons_succ, truD_bl]); (try simp only [if_true, Bool.false_eq_true, if_false, decide_true, decide_false, Bool.not_true, Bool.not_false, List.length_cons, List.length_nil, sizeLine_eq, Nat.reduceAdd, Nat.reduceLeDiff, true_and, and_true, pw6, pw10, pw11, pw12, pw13, pw30, pw40, pw60]); (try dsimp only [sAsg, sIf, sRet, sRetN, sDrop, sNext, asg, setAll, eT, eOp, eUn, eLst, eTup, eCons, eNil, eVar, eC, eCall, eCB, eNot, eAnd, eOr, eTru, eAndT, eOrT, eNotT, eIf, ePart, eNoPart, eYes, eChain, eChain3, oI, oI0, oLt, oLe, oGt, oGe, oNeg, oSub, oMod, oMul, oDivW, eXp, eXa, eConsX, eCallX, eCallN, eLstX, eCBX, sDropX, sRetX, sAsgX, sRaise, sRaiseF, List.set_cons_zero, List.set_cons_succ, List.getElem?_cons_zero, List.getElem?_cons_succ, truD_bl])
          refine sl ?_
          refine lastT_le hy.b0 fun c hc => ?_
          cases c with
          | true =>
            (try dsimp only [sAsg, sIf, sRet, sRetN, sDrop, sNext, asg, setAll, eT, eOp, eUn, eLst, eTup, eCons, eNil, eVar, eC, eCall, eCB, eNot, eAnd, eOr, eTru, eAndT, eOrT, eNotT, eIf, ePart, eNoPart, eYes, eChain, eChain3, oI, oI0, oLt, oLe, oGt, oGe, oNeg, oSub, oMod, oMul, oDivW, eXp, eXa, eConsX, eCallX, eCallN, eLstX, eCBX, sDropX, sRetX, sAsgX, sRaise, sRaiseF, List.set_cons_zero, List.set_cons_succ, List.getElem?_cons_zero, List.getElem?_cons_succ, truD_bl]); (try simp only [if_true, Bool.false_eq_true, if_false, decide_true, decide_false, Bool.not_true, Bool.not_false, List.length_cons, List.length_nil, sizeLine_eq, Nat.reduceAdd, Nat.reduceLeDiff, true_and, and_true, pw6, pw10, pw11, pw12, pw13, pw30, pw40, pw60]); (try dsimp only [sAsg, sIf, sRet, sRetN, sDrop, sNext, asg, setAll, eT, eOp, eUn, eLst, eTup, eCons, eNil, eVar, eC, eCall, eCB, eNot, eAnd, eOr, eTru, eAndT, eOrT, eNotT, eIf, ePart, eNoPart, eYes, eChain, eChain3, oI, oI0, oLt, oLe, oGt, oGe, oNeg, oSub, oMod, oMul, oDivW, eXp, eXa, eConsX, eCallX, eCallN, eLstX, eCBX, sDropX, sRetX, sAsgX, sRaise, sRaiseF, List.set_cons_zero, List.set_cons_succ, List.getElem?_cons_zero, List.getElem?_cons_succ, truD_bl])
            refine no fun hp => ?_
            obtain ⟨z, ez, hz⟩ := hc.mp rfl
            rw [he] at hp
            obtain ⟨w, ew, _, hl⟩ := isBP_at hp
            have := triD_inj ew
            subst this
            exact hz (hl z (List.mem_of_getLast? ez))
          | false =>
            (try dsimp only [sAsg, sIf, sRet, sRetN, sDrop, sNext, asg, setAll, eT, eOp, eUn, eLst, eTup, eCons, eNil, eVar, eC, eCall, eCB, eNot, eAnd, eOr, eTru, eAndT, eOrT, eNotT, eIf, ePart, eNoPart, eYes, eChain, eChain3, oI, oI0, oLt, oLe, oGt, oGe, oNeg, oSub, oMod, oMul, oDivW, eXp, eXa, eConsX, eCallX, eCallN, eLstX, eCBX, sDropX, sRetX, sAsgX, sRaise, sRaiseF, List.set_cons_zero, List.set_cons_succ, List.getElem?_cons_zero, List.getElem?_cons_succ, truD_bl]); (try simp only [if_true, Bool.false_eq_true, if_false, decide_true, decide_false, Bool.not_true, Bool.not_false, List.length_cons, List.length_nil, sizeLine_eq, Nat.reduceAdd, Nat.reduceLeDiff, true_and, and_true, pw6, pw10, pw11, pw12, pw13, pw30, pw40, pw60]); (try dsimp only [sAsg, sIf, sRet, sRetN, sDrop, sNext, asg, setAll, eT, eOp, eUn, eLst, eTup, eCons, eNil, eVar, eC, eCall, eCB, eNot, eAnd, eOr, eTru, eAndT, eOrT, eNotT, eIf, ePart, eNoPart, eYes, eChain, eChain3, oI, oI0, oLt, oLe, oGt, oGe, oNeg, oSub, oMod, oMul, oDivW, eXp, eXa, eConsX, eCallX, eCallN, eLstX, eCBX, sDropX, sRetX, sAsgX, sRaise, sRaiseF, List.set_cons_zero, List.set_cons_succ, List.getElem?_cons_zero, List.getElem?_cons_succ, truD_bl])
            refine hW4 _ _ ?_
            (try dsimp only [sAsg, sIf, sRet, sRetN, sDrop, sNext, asg, setAll, eT, eOp, eUn, eLst, eTup, eCons, eNil, eVar, eC, eCall, eCB, eNot, eAnd, eOr, eTru, eAndT, eOrT, eNotT, eIf, ePart, eNoPart, eYes, eChain, eChain3, oI, oI0, oLt, oLe, oGt, oGe, oNeg, oSub, oMod, oMul, oDivW, eXp, eXa, eConsX, eCallX, eCallN, eLstX, eCBX, sDropX, sRetX, sAsgX, sRaise, sRaiseF, List.set_cons_zero, List.set_cons_succ, List.getElem?_cons_zero, List.getElem?_cons_succ, truD_bl]); (try simp only [if_true, Bool.false_eq_true, if_false, decide_true, decide_false, Bool.not_true, Bool.not_false, List.length_cons, List.length_nil, sizeLine_eq, Nat.reduceAdd, Nat.reduceLeDiff, true_and, and_true, pw6, pw10, pw11, pw12, pw13, pw30, pw40, pw60]); (try dsimp only [sAsg, sIf, sRet, sRetN, sDrop, sNext, asg, setAll, eT, eOp, eUn, eLst, eTup, eCons, eNil, eVar, eC, eCall, eCB, eNot, eAnd, eOr, eTru, eAndT, eOrT, eNotT, eIf, ePart, eNoPart, eYes, eChain, eChain3, oI, oI0, oLt, oLe, oGt, oGe, oNeg, oSub, oMod, oMul, oDivW, eXp, eXa, eConsX, eCallX, eCallN, eLstX, eCBX, sDropX, sRetX, sAsgX, sRaise, sRaiseF, List.set_cons_zero, List.set_cons_succ, List.getElem?_cons_zero, List.getElem?_cons_succ, truD_bl])
            refine sl (hW _ _ ⟨rfl, pp ++ [y], _, by rw [he]; simp, fun z hz => ?_, triL_snoc up fun z hz => ?_, by rw [lastT_snoc]⟩)
            · rcases List.mem_append.mp hz with q | q
              · exact hq z q
              · rw [List.mem_singleton.mp q]; exact hy
            · exact Classical.byContradiction fun n => by
                have := hc.mpr ⟨z, hz, n⟩
                cases this
        | false =>
          (try dsimp only [sAsg, sIf, sRet, sRetN, sDrop, sNext, asg, setAll, eT, eOp, eUn, eLst, eTup, eCons, eNil, eVar, eC, eCall, eCB, eNot, eAnd, eOr, eTru, eAndT, eOrT, eNotT, eIf, ePart, eNoPart, eYes, eChain, eChain3, oI, oI0, oLt, oLe, oGt, oGe, oNeg, oSub, oMod, oMul, oDivW, eXp, eXa, eConsX, eCallX, eCallN, eLstX, eCBX, sDropX, sRetX, sAsgX, sRaise, sRaiseF, List.set_cons_zero, List.set_cons_succ, List.getElem?_cons_zero, List.getElem?_cons_succ, truD_bl]); (try simp only [if_true, Bool.false_eq_true, if_false, decide_true, decide_false, Bool.not_true, Bool.not_false, List.length_cons, List.length_nil, sizeLine_eq, Nat.reduceAdd, Nat.reduceLeDiff, true_and, and_true, pw6, pw10, pw11, pw12, pw13, pw30, pw40, pw60]); (try dsimp only [sAsg, sIf, sRet, sRetN, sDrop, sNext, asg, setAll, eT, eOp, eUn, eLst, eTup, eCons, eNil, eVar, eC, eCall, eCB, eNot, eAnd, eOr, eTru, eAndT, eOrT, eNotT, eIf, ePart, eNoPart, eYes, eChain, eChain3, oI, oI0, oLt, oLe, oGt, oGe, oNeg, oSub, oMod, oMul, oDivW, eXp, eXa, eConsX, eCallX, eCallN, eLstX, eCBX, sDropX, sRetX, sAsgX, sRaise, sRaiseF, List.set_cons_zero, List.set_cons_succ, List.getElem?_cons_zero, List.getElem?_cons_succ, truD_bl])
          exact no fun hp => by
            rw [he] at hp
            obtain ⟨y, e, w, _⟩ := isBP_at hp
            have := hb.mpr ⟨y, e, w⟩
            cases this
      · rintro s G' ⟨rfl, pp, o1, he, hq, up, rfl⟩
        rw [List.append_nil] at he
        subst he
        refine hW3 _ _ ?_
        (try dsimp only [sAsg, sIf, sRet, sRetN, sDrop, sNext, asg, setAll, eT, eOp, eUn, eLst, eTup, eCons, eNil, eVar, eC, eCall, eCB, eNot, eAnd, eOr, eTru, eAndT, eOrT, eNotT, eIf, ePart, eNoPart, eYes, eChain, eChain3, oI, oI0, oLt, oLe, oGt, oGe, oNeg, oSub, oMod, oMul, oDivW, eXp, eXa, eConsX, eCallX, eCallN, eLstX, eCBX, sDropX, sRetX, sAsgX, sRaise, sRaiseF, List.set_cons_zero, List.set_cons_succ, List.getElem?_cons_zero, List.getElem?_cons_succ, truD_bl]); (try simp only [if_true, Bool.false_eq_true, if_false, decide_true, decide_false, Bool.not_true, Bool.not_false, List.length_cons, List.length_nil, sizeLine_eq, Nat.reduceAdd, Nat.reduceLeDiff, true_and, and_true, pw6, pw10, pw11, pw12, pw13, pw30, pw40, pw60]); (try dsimp only [sAsg, sIf, sRet, sRetN, sDrop, sNext, asg, setAll, eT, eOp, eUn, eLst, eTup, eCons, eNil, eVar, eC, eCall, eCB, eNot, eAnd, eOr, eTru, eAndT, eOrT, eNotT, eIf, ePart, eNoPart, eYes, eChain, eChain3, oI, oI0, oLt, oLe, oGt, oGe, oNeg, oSub, oMod, oMul, oDivW, eXp, eXa, eConsX, eCallX, eCallN, eLstX, eCBX, sDropX, sRetX, sAsgX, sRaise, sRaiseF, List.set_cons_zero, List.set_cons_succ, List.getElem?_cons_zero, List.getElem?_cons_succ, truD_bl])
        simp only [List.length_map] at q48
        exact fin_id (k true ⟨fun _ => ⟨pp, rfl, by omega, hq, up⟩, fun _ => rfl⟩)
  | _ =>
    (try dsimp only [sAsg, sIf, sRet, sRetN, sDrop, sNext, asg, setAll, eT, eOp, eUn, eLst, eTup, eCons, eNil, eVar, eC, eCall, eCB, eNot, eAnd, eOr, eTru, eAndT, eOrT, eNotT, eIf, ePart, eNoPart, eYes, eChain, eChain3, oI, oI0, oLt, oLe, oGt, oGe, oNeg, oSub, oMod, oMul, oDivW, eXp, eXa, eConsX, eCallX, eCallN, eLstX, eCBX, sDropX, sRetX, sAsgX, sRaise, sRaiseF, List.set_cons_zero, List.set_cons_succ, List.getElem?_cons_zero, List.getElem?_cons_succ, truD_bl, isL]); (try simp only [if_true, Bool.false_eq_true, if_false, decide_true, decide_false, Bool.not_true, Bool.not_false, List.length_cons, List.length_nil, sizeLine_eq, Nat.reduceAdd, Nat.reduceLeDiff, true_and, and_true, pw6, pw10, pw11, pw12, pw13, pw30, pw40, pw60, isL]); (try dsimp only [sAsg, sIf, sRet, sRetN, sDrop, sNext, asg, setAll, eT, eOp, eUn, eLst, eTup, eCons, eNil, eVar, eC, eCall, eCB, eNot, eAnd, eOr, eTru, eAndT, eOrT, eNotT, eIf, ePart, eNoPart, eYes, eChain, eChain3, oI, oI0, oLt, oLe, oGt, oGe, oNeg, oSub, oMod, oMul, oDivW, eXp, eXa, eConsX, eCallX, eCallN, eLstX, eCBX, sDropX, sRetX, sAsgX, sRaise, sRaiseF, List.set_cons_zero, List.set_cons_succ, List.getElem?_cons_zero, List.getElem?_cons_succ, truD_bl, isL])
    exact no fun ⟨p2, e, _⟩ => by simp at e
end DL
set_option Elab.async false
set_option linter.all false
set_option maxRecDepth 100000
set_option maxHeartbeats 4000000
namespace DL
open PySem PySem.Spec PyProof.Rows L2 LN
def F__law_due : Sf := F_is_bench_paper
def F__law_other_part : Sf := fun ds G Q => ∃ (a : Addr) (x y z part place : Int), ds = [.ref a, .int part, .int place] ∧ G a = some (stO x y z) ∧ Ok3 x y z ∧ -1000000000000000 ≤ part ∧ part ≤ 1000000000000000 ∧ 0 ≤ place ∧ place < 3 ∧ ∀ d x' y' z', Ok3 x' y' z' → Thg 1 1000 d → Q d (gput G a (stO x' y' z'))
def F__law_bent : Sf := fun ds G Q => ∃ (a : Addr) (x y z : Int) (L : List Tri), ds = [.ref a, .lst (L.map triD)] ∧ G a = some (stO x y z) ∧ Ok3 x y z ∧ L.length ≤ 200 ∧ (∀ x ∈ L, (-1000000000000000 ≤ x.1 ∧ x.1 ≤ 1000000000000000) ∧ (-1000000000000000 ≤ x.2.1 ∧ x.2.1 ≤ 1000000000000000) ∧ -1000000000000000 ≤ x.2.2 ∧ x.2.2 ≤ 1000000000000000) ∧
  ∀ d x' y' z', Ok3 x' y' z' → Thg 4 2500000 d → Q d (gput G a (stO x' y' z'))
def r__law_other_part : ES :=
  (sSeq (sAsg (eC (.int 1000000000000)) (.nm 3))
  (sSeq (sAsg (eLst (eCons (eLst (eCons (eC (.int 0)) (eCons (eC (.int 3)) (eCons (eC (.int 4)) (eCons (eUn oNeg (eC (.int 1))) eNil))))) (eCons (eLst (eCons (eOp oSub (eC (.int 0)) (eVar 3)) (eCons (eOp oSub (eVar 3) (eC (.int 1))) (eCons (eVar 3) (eCons (eOp oSub (eUn oNeg (eC (.int 1))) (eVar 3)) eNil))))) (eCons (eLst (eCons (eC (.int 1)) (eCons (eOp oMul (eC (.int 10)) (eVar 3)) (eCons (eC (.int 0)) (eCons (eOp oAdd (eOp oMul (eC (.int 10)) (eVar 3)) (eC (.int 1))) eNil))))) eNil)))) (.nm 4))
  (sRet (eOp oIx (eOp oAdd (eOp oIx (eVar 4) (eVar 2)) (eLst (eCons (eC (.bl true)) (eCons (eC .non) (eCons (eCB cStrX (eCons (eVar 1) eNil)) (eCons (eLst (eCons (eVar 1) eNil)) eNil)))))) (eCall F__law_take (eCons (eVar 0) (eCons (eC (.int 8)) eNil)))))))
def r__law_bent : ES :=
  (sSeq (sAsg (eCall F__law_take (eCons (eVar 0) (eCons (eC (.int 8)) eNil))) (.nm 2))
  (sSeq (sIf (eT (eOp oEq (eVar 2) (eC (.int 0)))) (sRet (eOp oIx (eLst (eCons (eC .non) (eCons (eC (.int 0)) (eCons (eC (.bl true)) (eCons (eC (.str "")) (eCons (eTup eNil) (eCons eDnew0 (eCons (eCB cTuple (eCons (eVar 1) eNil)) (eCons (eLst (eCons (eTup eNil) eNil)) (eCons (eLst (eCons (eLst eNil) eNil)) (eCons (eLst (eCons (eTup (eCons (eC (.int 0)) (eCons (eC (.int 0)) (eCons (eC (.int 1)) eNil)))) (eCons (eC .non) eNil))) eNil))))))))))) (eCall F__law_take (eCons (eVar 0) (eCons (eC (.int 10)) eNil))))) sNext)
  (sSeq (sIf (eOr (eT (eOp oEq (eVar 1) (eLst eNil))) (eT (eOp oEq (eVar 2) (eC (.int 1))))) (sRet (eVar 1)) sNext)
  (sSeq (sAsg (eCall F__law_take (eCons (eVar 0) (eCons (eCB cLen (eCons (eVar 1) eNil)) eNil))) (.nm 3))
  (sSeq (sAsg (eOp oIx (eVar 1) (eVar 3)) (.nm 4))
  (sSeq (sAsg (eCall F__law_take (eCons (eVar 0) (eCons (eC (.int 3)) eNil))) (.nm 5))
  (sSeq (sAsg (eCB cListO (eCons (eVar 4) eNil)) (.nm 6))
  (sSeq (sSetIx (eCall F__law_other_part (eCons (eVar 0) (eCons (eOp oIx (eVar 4) (eVar 5)) (eCons (eVar 5) eNil)))) (eVar 6) (eVar 5))
  (sSeq (sAsg (eOp oIx (eLst (eCons (eCB cTuple (eCons (eVar 6) eNil)) (eCons (eCB cTuple (eCons (eVar 6) eNil)) (eCons (eCB cTuple (eCons (eVar 6) eNil)) (eCons (eCB cList (eCons (eVar 4) eNil)) (eCons (eOp oCatT (eVar 4) (eTup (eCons (eC (.int 0)) eNil))) (eCons (eSlT (eVar 4) eNoPart (ePart (eC (.int 2)))) eNil))))))) (eCall F__law_take (eCons (eVar 0) (eCons (eC (.int 6)) eNil)))) (.nm 7))
  (sSeq (sIf (eT (eOp oEq (eVar 2) (eC (.int 2)))) (sRet (eOp oAdd (eOp oAdd (eSlL (eVar 1) eNoPart (ePart (eVar 3))) (eLst (eCons (eVar 4) eNil))) (eSlL (eVar 1) (ePart (eVar 3)) eNoPart))) sNext)
  (sSeq (sIf (eT (eOp oEq (eVar 2) (eC (.int 3)))) (sRet (eOp oAdd (eOp oAdd (eSlL (eVar 1) eNoPart (ePart (eVar 3))) (eSlL (eVar 1) (ePart (eOp oAdd (eVar 3) (eC (.int 1)))) eNoPart)) (eLst (eCons (eVar 4) eNil)))) sNext)
  (sRet (eOp oAdd (eOp oAdd (eSlL (eVar 1) eNoPart (ePart (eVar 3))) (eLst (eCons (eVar 7) eNil))) (eSlL (eVar 1) (ePart (eOp oAdd (eVar 3) (eC (.int 1)))) eNoPart))))))))))))))
def r__law_due_L1 : ES :=
  (sSeq (sAsg (eOp oIx (eVar 0) (eVar 1)) (.nm 2))
  (sSeq (sIf (eOr (eNot (eTru (eCB cIsi (eCons (eVar 2) (eCons (eC (.ty "tuple")) eNil))))) (eT (eOp oNe (eCB cLen (eCons (eVar 2) eNil)) (eC (.int 3))))) (sRet (eC (.bl false))) sNext)
  (sSeq (sIf (eT (eOp oNeNil (eLc (iT (eVar 2)) (.nm 3) (eNot (eTru (eCall F__law_whole (eCons (eVar 3) eNil)))) (eVar 3) [3]) (eLst eNil))) (sRet (eC (.bl false))) sNext)
  (sSeq (sIf (eOr (eT (eOp oLt (eOp oIx (eVar 2) (eC (.int 0))) (eC (.int 0)))) (eOr (eT (eOp oGt (eOp oIx (eVar 2) (eC (.int 0))) (eC (.int 3)))) (eOr (eT (eOp oLt (eOp oIx (eVar 2) (eC (.int 2))) (eC (.int 1)))) (eT (eOp oGt (eOp oIx (eVar 2) (eC (.int 2))) (eC (.int 10000000000000))))))) (sRet (eC (.bl false))) sNext)
  (sSeq (sIf (eOr (eT (eOp oLt (eOp oIx (eVar 2) (eC (.int 1))) (eUn oNeg (eC (.int 1000000000000))))) (eT (eOp oGt (eOp oIx (eVar 2) (eC (.int 1))) (eOp oSub (eC (.int 1000000000000)) (eC (.int 1)))))) (sRet (eC (.bl false))) sNext)
  (sIf (eAnd (eT (eOp oGt (eVar 1) (eC (.int 0)))) (eT (eOp oLeD (eTup (eCons (eOp oIx (eVar 2) (eC (.int 0))) (eCons (eOp oIx (eVar 2) (eC (.int 1))) eNil))) (eTup (eCons (eOp oIx (eOp oIx (eVar 0) (eOp oSub (eVar 1) (eC (.int 1)))) (eC (.int 0))) (eCons (eOp oIx (eOp oIx (eVar 0) (eOp oSub (eVar 1) (eC (.int 1)))) (eC (.int 1))) eNil)))))) (sRet (eC (.bl false))) sNext))))))
def r__law_due : ES :=
  (sSeq (sIf (eOr (eNot (eTru (eCB cIsi (eCons (eVar 0) (eCons (eC (.ty "list")) eNil))))) (eT (eOp oGt (eCB cLen (eCons (eVar 0) eNil)) (eC (.int 192))))) (sRet (eC (.bl false))) sNext)
  (sSeq (sFor (iR1 (eCons (eCB cLen (eCons (eVar 0) eNil)) eNil)) (.nm 1) r__law_due_L1)
  (sRet (eC (.bl true)))))
def r_law_L1 : ES :=
  (sSeq (sAsg (eCB cReprX (eCons (eVar 6) eNil)) (.nm 7))
  (sSeq (sAsg (eCall F_is_bench_paper (eCons (eVar 6) eNil)) (.nm 8))
  (sIf (eOr (eNot (eTru (eCB cIsi (eCons (eVar 8) (eCons (eC (.ty "bool")) eNil))))) (eOr (eT (eOp oNe (eVar 8) (eCall F__law_due (eCons (eVar 6) eNil)))) (eT (eOp oNe (eCB cReprX (eCons (eVar 6) eNil)) (eVar 7))))) (sRet (eC (.bl false))) sNext)))
def r_law_L2 : ES :=
  (sSeq (sAsg (eCall F__law_begun (eCons (eVar 0) (eCons (eVar 1) eNil))) (.nm 2))
  (sSeq (sAsg (eCall F__law_book (eCons (eVar 2) (eCons (eC (.int 5)) eNil))) (.nm 3))
  (sSeq (sAsg (eCall F__law_bench_paper (eCons (eVar 2) (eCons (eVar 3) (eCons (eC (.int 4)) (eCons (eC (.int 9)) eNil))))) (.nm 4))
  (sSeq (sIf (eT (eOp oEq (eCall F__law_take (eCons (eVar 2) (eCons (eC (.int 8)) eNil))) (eC (.int 0)))) (sSeq (sAsg (eOp oAdd (eC (.int 190)) (eCall F__law_take (eCons (eVar 2) (eCons (eC (.int 5)) eNil)))) (.nm 5))
  (sAsg (eLc (iR1 (eCons (eVar 5) eNil)) (.nm 9) eYes (eTup (eCons (eOp oDivW (eVar 9) (eC (.int 49))) (eCons (eOp oSub (eOp oMul (eC (.int 7)) (eVar 9)) (eOp oMul (eC (.int 1000000000000)) (eCB cInt1 (eCons (eOp oEq (eOp oMod (eVar 9) (eC (.int 49))) (eC (.int 0))) eNil)))) (eCons (eOp oAdd (eC (.int 1)) (eVar 9)) eNil)))) [9]) (.nm 4))) sNext)
  (sFor (iL (eLst (eCons (eVar 4) (eCons (eCall F__law_bent (eCons (eVar 2) (eCons (eVar 4) eNil))) eNil)))) (.nm 6) r_law_L1)))))
def r_law : ES :=
  (sSeq (sFor (iR1 (eCons (eOp oAdd (eCB cMin2 (eCons (eCB cLen (eCons (eVar 0) eNil)) (eCons (eC (.int 12)) eNil))) (eC (.int 1))) eNil)) (.nm 1) r_law_L2)
  (sRet (eC (.bl true))))
theorem neNil_l {L : List D} {G : Gp} {Q : DK} (q : Q (.bl (!L.isEmpty)) G) : oNeNil (.lst L) (.lst []) G Q := by
  simp only [oNeNil, lkL_lst]
  exact q
theorem compW_slf {p : D → Bool} {s0 : Sd} {t : Tg} {tt : ET} {te : EE} {Kp : Gp → Prop} {G : Gp} {Q : List D → Gp → Prop} (hK : Kp G) (xs : List D) (h : ∀ x ∈ xs, ∃ s', asg t x s0 = some s' ∧ (∀ R : Bool → Gp → Prop, R (p x) G → tt s' G R) ∧ ∀ R : DK, R x G → te s' G R) (hq : Q (xs.filter p) G) : compW s0 t tt te Kp xs [] G Q := by
  have := compW_map (g := fun d : D => d) (p := p) (f := fun d => d) (s0 := s0) (t := t) (tt := tt) (te := te) (Q := Q) hK xs [] (fun x hx => by
    obtain ⟨s', e, k1, k2⟩ := h x hx
    exact ⟨s', e, k1, fun _ => k2⟩) (by rw [List.nil_append, List.map_id']; exact hq)
  simpa using this
theorem filt3 (p : D → Bool) (u v w : D) : (List.filter (fun x => !p x) [u, v, w]).isEmpty = (p u && p v && p w) := by
  cases e1 : p u <;> cases e2 : p v <;> cases e3 : p w <;> simp [e1, e2, e3]
theorem eq_nilL {d : D} {us : List PyData} {n : Nat} {G : Gp} {Q : DK} (e : toPy G d = some (.list us)) (s : Shp n (.list us)) (q : Q (.bl us.isEmpty) G) (hn : n ≤ 64 := by decide) : oEq d (.lst []) G Q := by
  have s2 : Shp 1 (.list []) := shp_list fun x hx => by cases hx
  have e2 : toPy G (.lst []) = some (.list []) := by simp
  simp only [oEq, e, e2, s.shaped hn, s2.shaped (by decide), true_and]
  cases us with
  | nil => rw [eqv_self s]; exact q
  | cons a l => simpa [PyData.eqv, PyData.eqvAll] using q
theorem toPys_triK {G : Gp} (L : List Tri) : toPys G (L.map triD) = some (L.map fun x => PyData.tuple [.int x.1, .int x.2.1, .int x.2.2]) := toPys_map (fun x => by simp [triD]) L
theorem shp_triK {n : Nat} (L : List Tri) : Shp (n + 2) (.list (L.map fun x => PyData.tuple [.int x.1, .int x.2.1, .int x.2.2])) := shp_list fun y hy => by
  obtain ⟨x, _, rfl⟩ := List.mem_map.mp hy
  refine shp_tuple fun z hz => ?_
  simp only [List.mem_cons, List.not_mem_nil, or_false] at hz
  rcases hz with rfl | rfl | rfl <;> exact shp_int _
theorem d__law_due (ds : List D) (G : Gp) (Q : DK) (h : F__law_due ds G Q) : r__law_due (fin G Q) (startD 4 ds) G := by
  obtain ⟨d, rfl, ha, k⟩ := h
  have no : ¬ IsBP d → (fin G Q).rt (.bl false) G := fun q => fin_id (k false ⟨fun e => (by cases e), fun e => (q e).elim⟩)
  refine seq_gen fun W hW => ?_
  (try dsimp only [sAsg, sIf, sRet, sRetN, sDrop, sNext, asg, setAll, eT, eOp, eUn, eLst, eTup, eCons, eNil, eVar, eC, eCall, eCB, eNot, eAnd, eOr, eTru, eAndT, eOrT, eNotT, eIf, ePart, eNoPart, eYes, eChain, eChain3, oI, oI0, oLt, oLe, oGt, oGe, oNeg, oSub, oMod, oMul, oDivW, eXp, eXa, eConsX, eCallX, eCallN, eLstX, eCBX, sDropX, sRetX, sAsgX, sRaise, sRaiseF, List.set_cons_zero, List.set_cons_succ, List.getElem?_cons_zero, List.getElem?_cons_succ, truD_bl, startD, List.map_cons, List.map_nil, List.cons_append, List.nil_append, List.replicate]); (try simp only [if_true, Bool.false_eq_true, if_false, decide_true, decide_false, Bool.not_true, Bool.not_false, List.length_cons, List.length_nil, sizeLine_eq, Nat.reduceAdd, Nat.reduceLeDiff, true_and, and_true, pw6, pw10, pw11, pw12, pw13, pw30, pw40, pw60, startD, List.map_cons, List.map_nil, List.cons_append, List.nil_append, List.replicate]); (try dsimp only [sAsg, sIf, sRet, sRetN, sDrop, sNext, asg, setAll, eT, eOp, eUn, eLst, eTup, eCons, eNil, eVar, eC, eCall, eCB, eNot, eAnd, eOr, eTru, eAndT, eOrT, eNotT, eIf, ePart, eNoPart, eYes, eChain, eChain3, oI, oI0, oLt, oLe, oGt, oGe, oNeg, oSub, oMod, oMul, oDivW, eXp, eXa, eConsX, eCallX, eCallN, eLstX, eCBX, sDropX, sRetX, sAsgX, sRaise, sRaiseF, List.set_cons_zero, List.set_cons_succ, List.getElem?_cons_zero, List.getElem?_cons_succ, truD_bl, startD, List.map_cons, List.map_nil, List.cons_append, List.nil_append, List.replicate])
  rw [isi_list ha]
  cases d with
  | lst es =>
    simp only [anyD] at ha
    have hm := anyDs_mem.mp ha
    (try dsimp only [sAsg, sIf, sRet, sRetN, sDrop, sNext, asg, setAll, eT, eOp, eUn, eLst, eTup, eCons, eNil, eVar, eC, eCall, eCB, eNot, eAnd, eOr, eTru, eAndT, eOrT, eNotT, eIf, ePart, eNoPart, eYes, eChain, eChain3, oI, oI0, oLt, oLe, oGt, oGe, oNeg, oSub, oMod, oMul, oDivW, eXp, eXa, eConsX, eCallX, eCallN, eLstX, eCBX, sDropX, sRetX, sAsgX, sRaise, sRaiseF, List.set_cons_zero, List.set_cons_succ, List.getElem?_cons_zero, List.getElem?_cons_succ, truD_bl, isL]); (try simp only [if_true, Bool.false_eq_true, if_false, decide_true, decide_false, Bool.not_true, Bool.not_false, List.length_cons, List.length_nil, sizeLine_eq, Nat.reduceAdd, Nat.reduceLeDiff, true_and, and_true, pw6, pw10, pw11, pw12, pw13, pw30, pw40, pw60, isL]); (try dsimp only [sAsg, sIf, sRet, sRetN, sDrop, sNext, asg, setAll, eT, eOp, eUn, eLst, eTup, eCons, eNil, eVar, eC, eCall, eCB, eNot, eAnd, eOr, eTru, eAndT, eOrT, eNotT, eIf, ePart, eNoPart, eYes, eChain, eChain3, oI, oI0, oLt, oLe, oGt, oGe, oNeg, oSub, oMod, oMul, oDivW, eXp, eXa, eConsX, eCallX, eCallN, eLstX, eCBX, sDropX, sRetX, sAsgX, sRaise, sRaiseF, List.set_cons_zero, List.set_cons_succ, List.getElem?_cons_zero, List.getElem?_cons_succ, truD_bl, isL])
    refine len_lst ?_
    (try dsimp only [sAsg, sIf, sRet, sRetN, sDrop, sNext, asg, setAll, eT, eOp, eUn, eLst, eTup, eCons, eNil, eVar, eC, eCall, eCB, eNot, eAnd, eOr, eTru, eAndT, eOrT, eNotT, eIf, ePart, eNoPart, eYes, eChain, eChain3, oI, oI0, oLt, oLe, oGt, oGe, oNeg, oSub, oMod, oMul, oDivW, eXp, eXa, eConsX, eCallX, eCallN, eLstX, eCBX, sDropX, sRetX, sAsgX, sRaise, sRaiseF, List.set_cons_zero, List.set_cons_succ, List.getElem?_cons_zero, List.getElem?_cons_succ, truD_bl]); (try simp only [if_true, Bool.false_eq_true, if_false, decide_true, decide_false, Bool.not_true, Bool.not_false, List.length_cons, List.length_nil, sizeLine_eq, Nat.reduceAdd, Nat.reduceLeDiff, true_and, and_true, pw6, pw10, pw11, pw12, pw13, pw30, pw40, pw60]); (try dsimp only [sAsg, sIf, sRet, sRetN, sDrop, sNext, asg, setAll, eT, eOp, eUn, eLst, eTup, eCons, eNil, eVar, eC, eCall, eCB, eNot, eAnd, eOr, eTru, eAndT, eOrT, eNotT, eIf, ePart, eNoPart, eYes, eChain, eChain3, oI, oI0, oLt, oLe, oGt, oGe, oNeg, oSub, oMod, oMul, oDivW, eXp, eXa, eConsX, eCallX, eCallN, eLstX, eCBX, sDropX, sRetX, sAsgX, sRaise, sRaiseF, List.set_cons_zero, List.set_cons_succ, List.getElem?_cons_zero, List.getElem?_cons_succ, truD_bl])
    by_cases q48 : (192 : Int) < es.length
    · (try dsimp only [sAsg, sIf, sRet, sRetN, sDrop, sNext, asg, setAll, eT, eOp, eUn, eLst, eTup, eCons, eNil, eVar, eC, eCall, eCB, eNot, eAnd, eOr, eTru, eAndT, eOrT, eNotT, eIf, ePart, eNoPart, eYes, eChain, eChain3, oI, oI0, oLt, oLe, oGt, oGe, oNeg, oSub, oMod, oMul, oDivW, eXp, eXa, eConsX, eCallX, eCallN, eLstX, eCBX, sDropX, sRetX, sAsgX, sRaise, sRaiseF, List.set_cons_zero, List.set_cons_succ, List.getElem?_cons_zero, List.getElem?_cons_succ, truD_bl, q48]); (try simp only [if_true, Bool.false_eq_true, if_false, decide_true, decide_false, Bool.not_true, Bool.not_false, List.length_cons, List.length_nil, sizeLine_eq, Nat.reduceAdd, Nat.reduceLeDiff, true_and, and_true, pw6, pw10, pw11, pw12, pw13, pw30, pw40, pw60, q48]); (try dsimp only [sAsg, sIf, sRet, sRetN, sDrop, sNext, asg, setAll, eT, eOp, eUn, eLst, eTup, eCons, eNil, eVar, eC, eCall, eCB, eNot, eAnd, eOr, eTru, eAndT, eOrT, eNotT, eIf, ePart, eNoPart, eYes, eChain, eChain3, oI, oI0, oLt, oLe, oGt, oGe, oNeg, oSub, oMod, oMul, oDivW, eXp, eXa, eConsX, eCallX, eCallN, eLstX, eCBX, sDropX, sRetX, sAsgX, sRaise, sRaiseF, List.set_cons_zero, List.set_cons_succ, List.getElem?_cons_zero, List.getElem?_cons_succ, truD_bl, q48])
      exact no (isBP_long (by omega))
    · (try dsimp only [sAsg, sIf, sRet, sRetN, sDrop, sNext, asg, setAll, eT, eOp, eUn, eLst, eTup, eCons, eNil, eVar, eC, eCall, eCB, eNot, eAnd, eOr, eTru, eAndT, eOrT, eNotT, eIf, ePart, eNoPart, eYes, eChain, eChain3, oI, oI0, oLt, oLe, oGt, oGe, oNeg, oSub, oMod, oMul, oDivW, eXp, eXa, eConsX, eCallX, eCallN, eLstX, eCBX, sDropX, sRetX, sAsgX, sRaise, sRaiseF, List.set_cons_zero, List.set_cons_succ, List.getElem?_cons_zero, List.getElem?_cons_succ, truD_bl, q48]); (try simp only [if_true, Bool.false_eq_true, if_false, decide_true, decide_false, Bool.not_true, Bool.not_false, List.length_cons, List.length_nil, sizeLine_eq, Nat.reduceAdd, Nat.reduceLeDiff, true_and, and_true, pw6, pw10, pw11, pw12, pw13, pw30, pw40, pw60, q48]); (try dsimp only [sAsg, sIf, sRet, sRetN, sDrop, sNext, asg, setAll, eT, eOp, eUn, eLst, eTup, eCons, eNil, eVar, eC, eCall, eCB, eNot, eAnd, eOr, eTru, eAndT, eOrT, eNotT, eIf, ePart, eNoPart, eYes, eChain, eChain3, oI, oI0, oLt, oLe, oGt, oGe, oNeg, oSub, oMod, oMul, oDivW, eXp, eXa, eConsX, eCallX, eCallN, eLstX, eCBX, sDropX, sRetX, sAsgX, sRaise, sRaiseF, List.set_cons_zero, List.set_cons_succ, List.getElem?_cons_zero, List.getElem?_cons_succ, truD_bl, q48])
      refine hW _ _ ?_
      refine seq_gen fun W2 hW2 => ?_
      (try dsimp only [sAsg, sIf, sRet, sRetN, sDrop, sNext, asg, setAll, eT, eOp, eUn, eLst, eTup, eCons, eNil, eVar, eC, eCall, eCB, eNot, eAnd, eOr, eTru, eAndT, eOrT, eNotT, eIf, ePart, eNoPart, eYes, eChain, eChain3, oI, oI0, oLt, oLe, oGt, oGe, oNeg, oSub, oMod, oMul, oDivW, eXp, eXa, eConsX, eCallX, eCallN, eLstX, eCBX, sDropX, sRetX, sAsgX, sRaise, sRaiseF, List.set_cons_zero, List.set_cons_succ, List.getElem?_cons_zero, List.getElem?_cons_succ, truD_bl, sFor, iR1]); (try simp only [if_true, Bool.false_eq_true, if_false, decide_true, decide_false, Bool.not_true, Bool.not_false, List.length_cons, List.length_nil, sizeLine_eq, Nat.reduceAdd, Nat.reduceLeDiff, true_and, and_true, pw6, pw10, pw11, pw12, pw13, pw30, pw40, pw60, sFor, iR1]); (try dsimp only [sAsg, sIf, sRet, sRetN, sDrop, sNext, asg, setAll, eT, eOp, eUn, eLst, eTup, eCons, eNil, eVar, eC, eCall, eCB, eNot, eAnd, eOr, eTru, eAndT, eOrT, eNotT, eIf, ePart, eNoPart, eYes, eChain, eChain3, oI, oI0, oLt, oLe, oGt, oGe, oNeg, oSub, oMod, oMul, oDivW, eXp, eXa, eConsX, eCallX, eCallN, eLstX, eCBX, sDropX, sRetX, sAsgX, sRaise, sRaiseF, List.set_cons_zero, List.set_cons_succ, List.getElem?_cons_zero, List.getElem?_cons_succ, truD_bl, sFor, iR1])
      refine len_lst ?_
      (try dsimp only [sAsg, sIf, sRet, sRetN, sDrop, sNext, asg, setAll, eT, eOp, eUn, eLst, eTup, eCons, eNil, eVar, eC, eCall, eCB, eNot, eAnd, eOr, eTru, eAndT, eOrT, eNotT, eIf, ePart, eNoPart, eYes, eChain, eChain3, oI, oI0, oLt, oLe, oGt, oGe, oNeg, oSub, oMod, oMul, oDivW, eXp, eXa, eConsX, eCallX, eCallN, eLstX, eCBX, sDropX, sRetX, sAsgX, sRaise, sRaiseF, List.set_cons_zero, List.set_cons_succ, List.getElem?_cons_zero, List.getElem?_cons_succ, truD_bl]); (try simp only [if_true, Bool.false_eq_true, if_false, decide_true, decide_false, Bool.not_true, Bool.not_false, List.length_cons, List.length_nil, sizeLine_eq, Nat.reduceAdd, Nat.reduceLeDiff, true_and, and_true, pw6, pw10, pw11, pw12, pw13, pw30, pw40, pw60]); (try dsimp only [sAsg, sIf, sRet, sRetN, sDrop, sNext, asg, setAll, eT, eOp, eUn, eLst, eTup, eCons, eNil, eVar, eC, eCall, eCB, eNot, eAnd, eOr, eTru, eAndT, eOrT, eNotT, eIf, ePart, eNoPart, eYes, eChain, eChain3, oI, oI0, oLt, oLe, oGt, oGe, oNeg, oSub, oMod, oMul, oDivW, eXp, eXa, eConsX, eCallX, eCallN, eLstX, eCBX, sDropX, sRetX, sAsgX, sRaise, sRaiseF, List.set_cons_zero, List.set_cons_succ, List.getElem?_cons_zero, List.getElem?_cons_succ, truD_bl])
      refine ⟨by omega, by omega, ?_⟩
      rw [Int.toNat_natCast]
      refine forW_rng (fun j s G' => G' = G ∧ ∃ (pp : List Tri) (r : List D) (o1 o2 : Option D), es = pp.map triD ++ r ∧ pp.length = j ∧ (∀ x ∈ pp, TQ x) ∧ pp.Pairwise triL ∧ s = [some (.lst es), o1, o2, none]) ?_ ?_ ⟨rfl, [], es, _, _, rfl, rfl, (fun x hx => by cases hx), .nil, rfl⟩
      · rintro j s G' W hj ⟨rfl, pp, r, o1, o2, he, hl, hq, up, rfl⟩ hW
        cases r with
        | nil =>
          rw [List.append_nil] at he
          have := congrArg List.length he
          simp at this
          omega
        | cons d r =>
          have ad : atI es (j : Int) = some d := atI_nat (by rw [he, List.getElem?_append_right (by simp; omega)]; simp [hl])
          have hd : anyD d = true := hm d (by rw [he]; simp)
          have bad : (∀ x, d = triD x → TQ x → (∀ y ∈ pp, triL y x) → False) → (fin G' Q).rt (.bl false) G' := fun q => no fun hp => by
            rw [he] at hp
            obtain ⟨y, e, w, hlt⟩ := isBP_at hp
            exact q y e w hlt
          (try dsimp only [sAsg, sIf, sRet, sRetN, sDrop, sNext, asg, setAll, eT, eOp, eUn, eLst, eTup, eCons, eNil, eVar, eC, eCall, eCB, eNot, eAnd, eOr, eTru, eAndT, eOrT, eNotT, eIf, ePart, eNoPart, eYes, eChain, eChain3, oI, oI0, oLt, oLe, oGt, oGe, oNeg, oSub, oMod, oMul, oDivW, eXp, eXa, eConsX, eCallX, eCallN, eLstX, eCBX, sDropX, sRetX, sAsgX, sRaise, sRaiseF, List.set_cons_zero, List.set_cons_succ, List.getElem?_cons_zero, List.getElem?_cons_succ, truD_bl]); (try simp only [if_true, Bool.false_eq_true, if_false, decide_true, decide_false, Bool.not_true, Bool.not_false, List.length_cons, List.length_nil, sizeLine_eq, Nat.reduceAdd, Nat.reduceLeDiff, true_and, and_true, pw6, pw10, pw11, pw12, pw13, pw30, pw40, pw60]); (try dsimp only [sAsg, sIf, sRet, sRetN, sDrop, sNext, asg, setAll, eT, eOp, eUn, eLst, eTup, eCons, eNil, eVar, eC, eCall, eCB, eNot, eAnd, eOr, eTru, eAndT, eOrT, eNotT, eIf, ePart, eNoPart, eYes, eChain, eChain3, oI, oI0, oLt, oLe, oGt, oGe, oNeg, oSub, oMod, oMul, oDivW, eXp, eXa, eConsX, eCallX, eCallN, eLstX, eCBX, sDropX, sRetX, sAsgX, sRaise, sRaiseF, List.set_cons_zero, List.set_cons_succ, List.getElem?_cons_zero, List.getElem?_cons_succ, truD_bl])
          unfold r__law_due_L1
          refine seq_gen fun W3 hW3 => ?_
          (try dsimp only [sAsg, sIf, sRet, sRetN, sDrop, sNext, asg, setAll, eT, eOp, eUn, eLst, eTup, eCons, eNil, eVar, eC, eCall, eCB, eNot, eAnd, eOr, eTru, eAndT, eOrT, eNotT, eIf, ePart, eNoPart, eYes, eChain, eChain3, oI, oI0, oLt, oLe, oGt, oGe, oNeg, oSub, oMod, oMul, oDivW, eXp, eXa, eConsX, eCallX, eCallN, eLstX, eCBX, sDropX, sRetX, sAsgX, sRaise, sRaiseF, List.set_cons_zero, List.set_cons_succ, List.getElem?_cons_zero, List.getElem?_cons_succ, truD_bl]); (try simp only [if_true, Bool.false_eq_true, if_false, decide_true, decide_false, Bool.not_true, Bool.not_false, List.length_cons, List.length_nil, sizeLine_eq, Nat.reduceAdd, Nat.reduceLeDiff, true_and, and_true, pw6, pw10, pw11, pw12, pw13, pw30, pw40, pw60]); (try dsimp only [sAsg, sIf, sRet, sRetN, sDrop, sNext, asg, setAll, eT, eOp, eUn, eLst, eTup, eCons, eNil, eVar, eC, eCall, eCB, eNot, eAnd, eOr, eTru, eAndT, eOrT, eNotT, eIf, ePart, eNoPart, eYes, eChain, eChain3, oI, oI0, oLt, oLe, oGt, oGe, oNeg, oSub, oMod, oMul, oDivW, eXp, eXa, eConsX, eCallX, eCallN, eLstX, eCBX, sDropX, sRetX, sAsgX, sRaise, sRaiseF, List.set_cons_zero, List.set_cons_succ, List.getElem?_cons_zero, List.getElem?_cons_succ, truD_bl])
          refine ix_at ad (hW3 _ _ ?_)
          refine seq_gen fun W4 hW4 => ?_
          (try dsimp only [sAsg, sIf, sRet, sRetN, sDrop, sNext, asg, setAll, eT, eOp, eUn, eLst, eTup, eCons, eNil, eVar, eC, eCall, eCB, eNot, eAnd, eOr, eTru, eAndT, eOrT, eNotT, eIf, ePart, eNoPart, eYes, eChain, eChain3, oI, oI0, oLt, oLe, oGt, oGe, oNeg, oSub, oMod, oMul, oDivW, eXp, eXa, eConsX, eCallX, eCallN, eLstX, eCBX, sDropX, sRetX, sAsgX, sRaise, sRaiseF, List.set_cons_zero, List.set_cons_succ, List.getElem?_cons_zero, List.getElem?_cons_succ, truD_bl]); (try simp only [if_true, Bool.false_eq_true, if_false, decide_true, decide_false, Bool.not_true, Bool.not_false, List.length_cons, List.length_nil, sizeLine_eq, Nat.reduceAdd, Nat.reduceLeDiff, true_and, and_true, pw6, pw10, pw11, pw12, pw13, pw30, pw40, pw60]); (try dsimp only [sAsg, sIf, sRet, sRetN, sDrop, sNext, asg, setAll, eT, eOp, eUn, eLst, eTup, eCons, eNil, eVar, eC, eCall, eCB, eNot, eAnd, eOr, eTru, eAndT, eOrT, eNotT, eIf, ePart, eNoPart, eYes, eChain, eChain3, oI, oI0, oLt, oLe, oGt, oGe, oNeg, oSub, oMod, oMul, oDivW, eXp, eXa, eConsX, eCallX, eCallN, eLstX, eCBX, sDropX, sRetX, sAsgX, sRaise, sRaiseF, List.set_cons_zero, List.set_cons_succ, List.getElem?_cons_zero, List.getElem?_cons_succ, truD_bl])
          rw [isi_tuple hd]
          cases d with
          | tup fs =>
            (try dsimp only [sAsg, sIf, sRet, sRetN, sDrop, sNext, asg, setAll, eT, eOp, eUn, eLst, eTup, eCons, eNil, eVar, eC, eCall, eCB, eNot, eAnd, eOr, eTru, eAndT, eOrT, eNotT, eIf, ePart, eNoPart, eYes, eChain, eChain3, oI, oI0, oLt, oLe, oGt, oGe, oNeg, oSub, oMod, oMul, oDivW, eXp, eXa, eConsX, eCallX, eCallN, eLstX, eCBX, sDropX, sRetX, sAsgX, sRaise, sRaiseF, List.set_cons_zero, List.set_cons_succ, List.getElem?_cons_zero, List.getElem?_cons_succ, truD_bl, isT]); (try simp only [if_true, Bool.false_eq_true, if_false, decide_true, decide_false, Bool.not_true, Bool.not_false, List.length_cons, List.length_nil, sizeLine_eq, Nat.reduceAdd, Nat.reduceLeDiff, true_and, and_true, pw6, pw10, pw11, pw12, pw13, pw30, pw40, pw60, isT]); (try dsimp only [sAsg, sIf, sRet, sRetN, sDrop, sNext, asg, setAll, eT, eOp, eUn, eLst, eTup, eCons, eNil, eVar, eC, eCall, eCB, eNot, eAnd, eOr, eTru, eAndT, eOrT, eNotT, eIf, ePart, eNoPart, eYes, eChain, eChain3, oI, oI0, oLt, oLe, oGt, oGe, oNeg, oSub, oMod, oMul, oDivW, eXp, eXa, eConsX, eCallX, eCallN, eLstX, eCBX, sDropX, sRetX, sAsgX, sRaise, sRaiseF, List.set_cons_zero, List.set_cons_succ, List.getElem?_cons_zero, List.getElem?_cons_succ, truD_bl, isT])
            refine len_tup (ne_ii ?_)
            by_cases l3 : fs.length = 3
            · rw [decide_eq_true (by omega)]
              (try dsimp only [sAsg, sIf, sRet, sRetN, sDrop, sNext, asg, setAll, eT, eOp, eUn, eLst, eTup, eCons, eNil, eVar, eC, eCall, eCB, eNot, eAnd, eOr, eTru, eAndT, eOrT, eNotT, eIf, ePart, eNoPart, eYes, eChain, eChain3, oI, oI0, oLt, oLe, oGt, oGe, oNeg, oSub, oMod, oMul, oDivW, eXp, eXa, eConsX, eCallX, eCallN, eLstX, eCBX, sDropX, sRetX, sAsgX, sRaise, sRaiseF, List.set_cons_zero, List.set_cons_succ, List.getElem?_cons_zero, List.getElem?_cons_succ, truD_bl]); (try simp only [if_true, Bool.false_eq_true, if_false, decide_true, decide_false, Bool.not_true, Bool.not_false, List.length_cons, List.length_nil, sizeLine_eq, Nat.reduceAdd, Nat.reduceLeDiff, true_and, and_true, pw6, pw10, pw11, pw12, pw13, pw30, pw40, pw60]); (try dsimp only [sAsg, sIf, sRet, sRetN, sDrop, sNext, asg, setAll, eT, eOp, eUn, eLst, eTup, eCons, eNil, eVar, eC, eCall, eCB, eNot, eAnd, eOr, eTru, eAndT, eOrT, eNotT, eIf, ePart, eNoPart, eYes, eChain, eChain3, oI, oI0, oLt, oLe, oGt, oGe, oNeg, oSub, oMod, oMul, oDivW, eXp, eXa, eConsX, eCallX, eCallN, eLstX, eCBX, sDropX, sRetX, sAsgX, sRaise, sRaiseF, List.set_cons_zero, List.set_cons_succ, List.getElem?_cons_zero, List.getElem?_cons_succ, truD_bl])
              refine hW4 _ _ ?_
              match fs, l3 with
              | [u, v, w], _ =>
                simp only [anyD, anyDs, Bool.and_eq_true, and_true] at hd
                refine seq_gen fun W5 hW5 => ?_
                (try dsimp only [sAsg, sIf, sRet, sRetN, sDrop, sNext, asg, setAll, eT, eOp, eUn, eLst, eTup, eCons, eNil, eVar, eC, eCall, eCB, eNot, eAnd, eOr, eTru, eAndT, eOrT, eNotT, eIf, ePart, eNoPart, eYes, eChain, eChain3, oI, oI0, oLt, oLe, oGt, oGe, oNeg, oSub, oMod, oMul, oDivW, eXp, eXa, eConsX, eCallX, eCallN, eLstX, eCBX, sDropX, sRetX, sAsgX, sRaise, sRaiseF, List.set_cons_zero, List.set_cons_succ, List.getElem?_cons_zero, List.getElem?_cons_succ, truD_bl, eLc, iT]); (try simp only [if_true, Bool.false_eq_true, if_false, decide_true, decide_false, Bool.not_true, Bool.not_false, List.length_cons, List.length_nil, sizeLine_eq, Nat.reduceAdd, Nat.reduceLeDiff, true_and, and_true, pw6, pw10, pw11, pw12, pw13, pw30, pw40, pw60, eLc, iT]); (try dsimp only [sAsg, sIf, sRet, sRetN, sDrop, sNext, asg, setAll, eT, eOp, eUn, eLst, eTup, eCons, eNil, eVar, eC, eCall, eCB, eNot, eAnd, eOr, eTru, eAndT, eOrT, eNotT, eIf, ePart, eNoPart, eYes, eChain, eChain3, oI, oI0, oLt, oLe, oGt, oGe, oNeg, oSub, oMod, oMul, oDivW, eXp, eXa, eConsX, eCallX, eCallN, eLstX, eCBX, sDropX, sRetX, sAsgX, sRaise, sRaiseF, List.set_cons_zero, List.set_cons_succ, List.getElem?_cons_zero, List.getElem?_cons_succ, truD_bl, eLc, iT])
                refine compW_slf (p := fun x => !whB x) (by trivial) [u, v, w] (fun x hx => ⟨_, rfl, fun R q => ?_, fun R q => ?_⟩) ?_
                · (try dsimp only [sAsg, sIf, sRet, sRetN, sDrop, sNext, asg, setAll, eT, eOp, eUn, eLst, eTup, eCons, eNil, eVar, eC, eCall, eCB, eNot, eAnd, eOr, eTru, eAndT, eOrT, eNotT, eIf, ePart, eNoPart, eYes, eChain, eChain3, oI, oI0, oLt, oLe, oGt, oGe, oNeg, oSub, oMod, oMul, oDivW, eXp, eXa, eConsX, eCallX, eCallN, eLstX, eCBX, sDropX, sRetX, sAsgX, sRaise, sRaiseF, List.set_cons_zero, List.set_cons_succ, List.getElem?_cons_zero, List.getElem?_cons_succ, truD_bl, wipeD, List.foldl_cons, List.foldl_nil]); (try simp only [if_true, Bool.false_eq_true, if_false, decide_true, decide_false, Bool.not_true, Bool.not_false, List.length_cons, List.length_nil, sizeLine_eq, Nat.reduceAdd, Nat.reduceLeDiff, true_and, and_true, pw6, pw10, pw11, pw12, pw13, pw30, pw40, pw60, wipeD, List.foldl_cons, List.foldl_nil]); (try dsimp only [sAsg, sIf, sRet, sRetN, sDrop, sNext, asg, setAll, eT, eOp, eUn, eLst, eTup, eCons, eNil, eVar, eC, eCall, eCB, eNot, eAnd, eOr, eTru, eAndT, eOrT, eNotT, eIf, ePart, eNoPart, eYes, eChain, eChain3, oI, oI0, oLt, oLe, oGt, oGe, oNeg, oSub, oMod, oMul, oDivW, eXp, eXa, eConsX, eCallX, eCallN, eLstX, eCBX, sDropX, sRetX, sAsgX, sRaise, sRaiseF, List.set_cons_zero, List.set_cons_succ, List.getElem?_cons_zero, List.getElem?_cons_succ, truD_bl, wipeD, List.foldl_cons, List.foldl_nil])
                  have ax : anyD x = true := by
                    simp only [List.mem_cons, List.not_mem_nil, or_false] at hx
                    rcases hx with rfl | rfl | rfl
                    · exact hd.1
                    · exact hd.2.1
                    · exact hd.2.2
                  refine whole_any ax ?_
                  (try dsimp only [sAsg, sIf, sRet, sRetN, sDrop, sNext, asg, setAll, eT, eOp, eUn, eLst, eTup, eCons, eNil, eVar, eC, eCall, eCB, eNot, eAnd, eOr, eTru, eAndT, eOrT, eNotT, eIf, ePart, eNoPart, eYes, eChain, eChain3, oI, oI0, oLt, oLe, oGt, oGe, oNeg, oSub, oMod, oMul, oDivW, eXp, eXa, eConsX, eCallX, eCallN, eLstX, eCBX, sDropX, sRetX, sAsgX, sRaise, sRaiseF, List.set_cons_zero, List.set_cons_succ, List.getElem?_cons_zero, List.getElem?_cons_succ, truD_bl]); (try simp only [if_true, Bool.false_eq_true, if_false, decide_true, decide_false, Bool.not_true, Bool.not_false, List.length_cons, List.length_nil, sizeLine_eq, Nat.reduceAdd, Nat.reduceLeDiff, true_and, and_true, pw6, pw10, pw11, pw12, pw13, pw30, pw40, pw60]); (try dsimp only [sAsg, sIf, sRet, sRetN, sDrop, sNext, asg, setAll, eT, eOp, eUn, eLst, eTup, eCons, eNil, eVar, eC, eCall, eCB, eNot, eAnd, eOr, eTru, eAndT, eOrT, eNotT, eIf, ePart, eNoPart, eYes, eChain, eChain3, oI, oI0, oLt, oLe, oGt, oGe, oNeg, oSub, oMod, oMul, oDivW, eXp, eXa, eConsX, eCallX, eCallN, eLstX, eCBX, sDropX, sRetX, sAsgX, sRaise, sRaiseF, List.set_cons_zero, List.set_cons_succ, List.getElem?_cons_zero, List.getElem?_cons_succ, truD_bl])
                  exact q
                · (try dsimp only [sAsg, sIf, sRet, sRetN, sDrop, sNext, asg, setAll, eT, eOp, eUn, eLst, eTup, eCons, eNil, eVar, eC, eCall, eCB, eNot, eAnd, eOr, eTru, eAndT, eOrT, eNotT, eIf, ePart, eNoPart, eYes, eChain, eChain3, oI, oI0, oLt, oLe, oGt, oGe, oNeg, oSub, oMod, oMul, oDivW, eXp, eXa, eConsX, eCallX, eCallN, eLstX, eCBX, sDropX, sRetX, sAsgX, sRaise, sRaiseF, List.set_cons_zero, List.set_cons_succ, List.getElem?_cons_zero, List.getElem?_cons_succ, truD_bl]); (try simp only [if_true, Bool.false_eq_true, if_false, decide_true, decide_false, Bool.not_true, Bool.not_false, List.length_cons, List.length_nil, sizeLine_eq, Nat.reduceAdd, Nat.reduceLeDiff, true_and, and_true, pw6, pw10, pw11, pw12, pw13, pw30, pw40, pw60]); (try dsimp only [sAsg, sIf, sRet, sRetN, sDrop, sNext, asg, setAll, eT, eOp, eUn, eLst, eTup, eCons, eNil, eVar, eC, eCall, eCB, eNot, eAnd, eOr, eTru, eAndT, eOrT, eNotT, eIf, ePart, eNoPart, eYes, eChain, eChain3, oI, oI0, oLt, oLe, oGt, oGe, oNeg, oSub, oMod, oMul, oDivW, eXp, eXa, eConsX, eCallX, eCallN, eLstX, eCBX, sDropX, sRetX, sAsgX, sRaise, sRaiseF, List.set_cons_zero, List.set_cons_succ, List.getElem?_cons_zero, List.getElem?_cons_succ, truD_bl])
                  exact q
                refine neNil_l ?_
                have allW := filt3 whB u v w
                rw [allW, wh_int, wh_int, wh_int]
                cases q1 : intOf u with
                | none =>
                  (try dsimp only [sAsg, sIf, sRet, sRetN, sDrop, sNext, asg, setAll, eT, eOp, eUn, eLst, eTup, eCons, eNil, eVar, eC, eCall, eCB, eNot, eAnd, eOr, eTru, eAndT, eOrT, eNotT, eIf, ePart, eNoPart, eYes, eChain, eChain3, oI, oI0, oLt, oLe, oGt, oGe, oNeg, oSub, oMod, oMul, oDivW, eXp, eXa, eConsX, eCallX, eCallN, eLstX, eCBX, sDropX, sRetX, sAsgX, sRaise, sRaiseF, List.set_cons_zero, List.set_cons_succ, List.getElem?_cons_zero, List.getElem?_cons_succ, truD_bl, Option.isSome_none, Bool.false_and]); (try simp only [if_true, Bool.false_eq_true, if_false, decide_true, decide_false, Bool.not_true, Bool.not_false, List.length_cons, List.length_nil, sizeLine_eq, Nat.reduceAdd, Nat.reduceLeDiff, true_and, and_true, pw6, pw10, pw11, pw12, pw13, pw30, pw40, pw60, Option.isSome_none, Bool.false_and]); (try dsimp only [sAsg, sIf, sRet, sRetN, sDrop, sNext, asg, setAll, eT, eOp, eUn, eLst, eTup, eCons, eNil, eVar, eC, eCall, eCB, eNot, eAnd, eOr, eTru, eAndT, eOrT, eNotT, eIf, ePart, eNoPart, eYes, eChain, eChain3, oI, oI0, oLt, oLe, oGt, oGe, oNeg, oSub, oMod, oMul, oDivW, eXp, eXa, eConsX, eCallX, eCallN, eLstX, eCBX, sDropX, sRetX, sAsgX, sRaise, sRaiseF, List.set_cons_zero, List.set_cons_succ, List.getElem?_cons_zero, List.getElem?_cons_succ, truD_bl, Option.isSome_none, Bool.false_and])
                  exact bad fun x e _ _ => by rw [(triD_eq e).1] at q1; cases q1
                | some i =>
                  cases q2 : intOf v with
                  | none =>
                    (try dsimp only [sAsg, sIf, sRet, sRetN, sDrop, sNext, asg, setAll, eT, eOp, eUn, eLst, eTup, eCons, eNil, eVar, eC, eCall, eCB, eNot, eAnd, eOr, eTru, eAndT, eOrT, eNotT, eIf, ePart, eNoPart, eYes, eChain, eChain3, oI, oI0, oLt, oLe, oGt, oGe, oNeg, oSub, oMod, oMul, oDivW, eXp, eXa, eConsX, eCallX, eCallN, eLstX, eCBX, sDropX, sRetX, sAsgX, sRaise, sRaiseF, List.set_cons_zero, List.set_cons_succ, List.getElem?_cons_zero, List.getElem?_cons_succ, truD_bl, Option.isSome_none, Bool.false_and, Bool.and_false]); (try simp only [if_true, Bool.false_eq_true, if_false, decide_true, decide_false, Bool.not_true, Bool.not_false, List.length_cons, List.length_nil, sizeLine_eq, Nat.reduceAdd, Nat.reduceLeDiff, true_and, and_true, pw6, pw10, pw11, pw12, pw13, pw30, pw40, pw60, Option.isSome_none, Bool.false_and, Bool.and_false]); (try dsimp only [sAsg, sIf, sRet, sRetN, sDrop, sNext, asg, setAll, eT, eOp, eUn, eLst, eTup, eCons, eNil, eVar, eC, eCall, eCB, eNot, eAnd, eOr, eTru, eAndT, eOrT, eNotT, eIf, ePart, eNoPart, eYes, eChain, eChain3, oI, oI0, oLt, oLe, oGt, oGe, oNeg, oSub, oMod, oMul, oDivW, eXp, eXa, eConsX, eCallX, eCallN, eLstX, eCBX, sDropX, sRetX, sAsgX, sRaise, sRaiseF, List.set_cons_zero, List.set_cons_succ, List.getElem?_cons_zero, List.getElem?_cons_succ, truD_bl, Option.isSome_none, Bool.false_and, Bool.and_false])
                    exact bad fun x e _ _ => by rw [(triD_eq e).2.1] at q2; cases q2
                  | some m =>
                    cases q3 : intOf w with
                    | none =>
                      (try dsimp only [sAsg, sIf, sRet, sRetN, sDrop, sNext, asg, setAll, eT, eOp, eUn, eLst, eTup, eCons, eNil, eVar, eC, eCall, eCB, eNot, eAnd, eOr, eTru, eAndT, eOrT, eNotT, eIf, ePart, eNoPart, eYes, eChain, eChain3, oI, oI0, oLt, oLe, oGt, oGe, oNeg, oSub, oMod, oMul, oDivW, eXp, eXa, eConsX, eCallX, eCallN, eLstX, eCBX, sDropX, sRetX, sAsgX, sRaise, sRaiseF, List.set_cons_zero, List.set_cons_succ, List.getElem?_cons_zero, List.getElem?_cons_succ, truD_bl, Option.isSome_none, Bool.false_and, Bool.and_false]); (try simp only [if_true, Bool.false_eq_true, if_false, decide_true, decide_false, Bool.not_true, Bool.not_false, List.length_cons, List.length_nil, sizeLine_eq, Nat.reduceAdd, Nat.reduceLeDiff, true_and, and_true, pw6, pw10, pw11, pw12, pw13, pw30, pw40, pw60, Option.isSome_none, Bool.false_and, Bool.and_false]); (try dsimp only [sAsg, sIf, sRet, sRetN, sDrop, sNext, asg, setAll, eT, eOp, eUn, eLst, eTup, eCons, eNil, eVar, eC, eCall, eCB, eNot, eAnd, eOr, eTru, eAndT, eOrT, eNotT, eIf, ePart, eNoPart, eYes, eChain, eChain3, oI, oI0, oLt, oLe, oGt, oGe, oNeg, oSub, oMod, oMul, oDivW, eXp, eXa, eConsX, eCallX, eCallN, eLstX, eCBX, sDropX, sRetX, sAsgX, sRaise, sRaiseF, List.set_cons_zero, List.set_cons_succ, List.getElem?_cons_zero, List.getElem?_cons_succ, truD_bl, Option.isSome_none, Bool.false_and, Bool.and_false])
                      exact bad fun x e _ _ => by rw [(triD_eq e).2.2] at q3; cases q3
                    | some l =>
                      have := intOf_eq q1
                      subst this
                      have := intOf_eq q2
                      subst this
                      have := intOf_eq q3
                      subst this
                      (try dsimp only [sAsg, sIf, sRet, sRetN, sDrop, sNext, asg, setAll, eT, eOp, eUn, eLst, eTup, eCons, eNil, eVar, eC, eCall, eCB, eNot, eAnd, eOr, eTru, eAndT, eOrT, eNotT, eIf, ePart, eNoPart, eYes, eChain, eChain3, oI, oI0, oLt, oLe, oGt, oGe, oNeg, oSub, oMod, oMul, oDivW, eXp, eXa, eConsX, eCallX, eCallN, eLstX, eCBX, sDropX, sRetX, sAsgX, sRaise, sRaiseF, List.set_cons_zero, List.set_cons_succ, List.getElem?_cons_zero, List.getElem?_cons_succ, truD_bl, Option.isSome_some, Bool.and_self]); (try simp only [if_true, Bool.false_eq_true, if_false, decide_true, decide_false, Bool.not_true, Bool.not_false, List.length_cons, List.length_nil, sizeLine_eq, Nat.reduceAdd, Nat.reduceLeDiff, true_and, and_true, pw6, pw10, pw11, pw12, pw13, pw30, pw40, pw60, Option.isSome_some, Bool.and_self]); (try dsimp only [sAsg, sIf, sRet, sRetN, sDrop, sNext, asg, setAll, eT, eOp, eUn, eLst, eTup, eCons, eNil, eVar, eC, eCall, eCB, eNot, eAnd, eOr, eTru, eAndT, eOrT, eNotT, eIf, ePart, eNoPart, eYes, eChain, eChain3, oI, oI0, oLt, oLe, oGt, oGe, oNeg, oSub, oMod, oMul, oDivW, eXp, eXa, eConsX, eCallX, eCallN, eLstX, eCBX, sDropX, sRetX, sAsgX, sRaise, sRaiseF, List.set_cons_zero, List.set_cons_succ, List.getElem?_cons_zero, List.getElem?_cons_succ, truD_bl, Option.isSome_some, Bool.and_self])
                      refine hW5 _ _ ?_
                      have bad2 : (TQ (i, m, l) → (∀ y ∈ pp, triL y (i, m, l)) → False) → (fin G' Q).rt (.bl false) G' := fun q => bad fun x e w h => by
                        have := triD_eq e
                        simp at this
                        rw [show x = (i, m, l) from Prod.ext this.1.symm (Prod.ext this.2.1.symm this.2.2.symm)] at w h
                        exact q w h
                      have at0 : ∀ {Q : DK}, Q (.int i) G' → oIx (.tup [.int i, .int m, .int l]) (.int 0) G' Q := fun q => ixt_0 rfl q
                      have at1 : ∀ {Q : DK}, Q (.int m) G' → oIx (.tup [.int i, .int m, .int l]) (.int 1) G' Q := fun q => ixt_0 rfl q
                      have at2 : ∀ {Q : DK}, Q (.int l) G' → oIx (.tup [.int i, .int m, .int l]) (.int 2) G' Q := fun q => ixt_0 rfl q
                      refine seq_gen fun W6 hW6 => ?_
                      (try dsimp only [sAsg, sIf, sRet, sRetN, sDrop, sNext, asg, setAll, eT, eOp, eUn, eLst, eTup, eCons, eNil, eVar, eC, eCall, eCB, eNot, eAnd, eOr, eTru, eAndT, eOrT, eNotT, eIf, ePart, eNoPart, eYes, eChain, eChain3, oI, oI0, oLt, oLe, oGt, oGe, oNeg, oSub, oMod, oMul, oDivW, eXp, eXa, eConsX, eCallX, eCallN, eLstX, eCBX, sDropX, sRetX, sAsgX, sRaise, sRaiseF, List.set_cons_zero, List.set_cons_succ, List.getElem?_cons_zero, List.getElem?_cons_succ, truD_bl]); (try simp only [if_true, Bool.false_eq_true, if_false, decide_true, decide_false, Bool.not_true, Bool.not_false, List.length_cons, List.length_nil, sizeLine_eq, Nat.reduceAdd, Nat.reduceLeDiff, true_and, and_true, pw6, pw10, pw11, pw12, pw13, pw30, pw40, pw60]); (try dsimp only [sAsg, sIf, sRet, sRetN, sDrop, sNext, asg, setAll, eT, eOp, eUn, eLst, eTup, eCons, eNil, eVar, eC, eCall, eCB, eNot, eAnd, eOr, eTru, eAndT, eOrT, eNotT, eIf, ePart, eNoPart, eYes, eChain, eChain3, oI, oI0, oLt, oLe, oGt, oGe, oNeg, oSub, oMod, oMul, oDivW, eXp, eXa, eConsX, eCallX, eCallN, eLstX, eCBX, sDropX, sRetX, sAsgX, sRaise, sRaiseF, List.set_cons_zero, List.set_cons_succ, List.getElem?_cons_zero, List.getElem?_cons_succ, truD_bl])
                      refine at0 ?_
                      (try dsimp only [sAsg, sIf, sRet, sRetN, sDrop, sNext, asg, setAll, eT, eOp, eUn, eLst, eTup, eCons, eNil, eVar, eC, eCall, eCB, eNot, eAnd, eOr, eTru, eAndT, eOrT, eNotT, eIf, ePart, eNoPart, eYes, eChain, eChain3, oI, oI0, oLt, oLe, oGt, oGe, oNeg, oSub, oMod, oMul, oDivW, eXp, eXa, eConsX, eCallX, eCallN, eLstX, eCBX, sDropX, sRetX, sAsgX, sRaise, sRaiseF, List.set_cons_zero, List.set_cons_succ, List.getElem?_cons_zero, List.getElem?_cons_succ, truD_bl]); (try simp only [if_true, Bool.false_eq_true, if_false, decide_true, decide_false, Bool.not_true, Bool.not_false, List.length_cons, List.length_nil, sizeLine_eq, Nat.reduceAdd, Nat.reduceLeDiff, true_and, and_true, pw6, pw10, pw11, pw12, pw13, pw30, pw40, pw60]); (try dsimp only [sAsg, sIf, sRet, sRetN, sDrop, sNext, asg, setAll, eT, eOp, eUn, eLst, eTup, eCons, eNil, eVar, eC, eCall, eCB, eNot, eAnd, eOr, eTru, eAndT, eOrT, eNotT, eIf, ePart, eNoPart, eYes, eChain, eChain3, oI, oI0, oLt, oLe, oGt, oGe, oNeg, oSub, oMod, oMul, oDivW, eXp, eXa, eConsX, eCallX, eCallN, eLstX, eCBX, sDropX, sRetX, sAsgX, sRaise, sRaiseF, List.set_cons_zero, List.set_cons_succ, List.getElem?_cons_zero, List.getElem?_cons_succ, truD_bl])
                      by_cases c1 : i < 0
                      · (try dsimp only [sAsg, sIf, sRet, sRetN, sDrop, sNext, asg, setAll, eT, eOp, eUn, eLst, eTup, eCons, eNil, eVar, eC, eCall, eCB, eNot, eAnd, eOr, eTru, eAndT, eOrT, eNotT, eIf, ePart, eNoPart, eYes, eChain, eChain3, oI, oI0, oLt, oLe, oGt, oGe, oNeg, oSub, oMod, oMul, oDivW, eXp, eXa, eConsX, eCallX, eCallN, eLstX, eCBX, sDropX, sRetX, sAsgX, sRaise, sRaiseF, List.set_cons_zero, List.set_cons_succ, List.getElem?_cons_zero, List.getElem?_cons_succ, truD_bl, c1]); (try simp only [if_true, Bool.false_eq_true, if_false, decide_true, decide_false, Bool.not_true, Bool.not_false, List.length_cons, List.length_nil, sizeLine_eq, Nat.reduceAdd, Nat.reduceLeDiff, true_and, and_true, pw6, pw10, pw11, pw12, pw13, pw30, pw40, pw60, c1]); (try dsimp only [sAsg, sIf, sRet, sRetN, sDrop, sNext, asg, setAll, eT, eOp, eUn, eLst, eTup, eCons, eNil, eVar, eC, eCall, eCB, eNot, eAnd, eOr, eTru, eAndT, eOrT, eNotT, eIf, ePart, eNoPart, eYes, eChain, eChain3, oI, oI0, oLt, oLe, oGt, oGe, oNeg, oSub, oMod, oMul, oDivW, eXp, eXa, eConsX, eCallX, eCallN, eLstX, eCBX, sDropX, sRetX, sAsgX, sRaise, sRaiseF, List.set_cons_zero, List.set_cons_succ, List.getElem?_cons_zero, List.getElem?_cons_succ, truD_bl, c1])
                        exact bad2 fun w _ => by have := w.b0; simp only at this; omega
                      (try dsimp only [sAsg, sIf, sRet, sRetN, sDrop, sNext, asg, setAll, eT, eOp, eUn, eLst, eTup, eCons, eNil, eVar, eC, eCall, eCB, eNot, eAnd, eOr, eTru, eAndT, eOrT, eNotT, eIf, ePart, eNoPart, eYes, eChain, eChain3, oI, oI0, oLt, oLe, oGt, oGe, oNeg, oSub, oMod, oMul, oDivW, eXp, eXa, eConsX, eCallX, eCallN, eLstX, eCBX, sDropX, sRetX, sAsgX, sRaise, sRaiseF, List.set_cons_zero, List.set_cons_succ, List.getElem?_cons_zero, List.getElem?_cons_succ, truD_bl, c1]); (try simp only [if_true, Bool.false_eq_true, if_false, decide_true, decide_false, Bool.not_true, Bool.not_false, List.length_cons, List.length_nil, sizeLine_eq, Nat.reduceAdd, Nat.reduceLeDiff, true_and, and_true, pw6, pw10, pw11, pw12, pw13, pw30, pw40, pw60, c1]); (try dsimp only [sAsg, sIf, sRet, sRetN, sDrop, sNext, asg, setAll, eT, eOp, eUn, eLst, eTup, eCons, eNil, eVar, eC, eCall, eCB, eNot, eAnd, eOr, eTru, eAndT, eOrT, eNotT, eIf, ePart, eNoPart, eYes, eChain, eChain3, oI, oI0, oLt, oLe, oGt, oGe, oNeg, oSub, oMod, oMul, oDivW, eXp, eXa, eConsX, eCallX, eCallN, eLstX, eCBX, sDropX, sRetX, sAsgX, sRaise, sRaiseF, List.set_cons_zero, List.set_cons_succ, List.getElem?_cons_zero, List.getElem?_cons_succ, truD_bl, c1])
                      refine at0 ?_
                      (try dsimp only [sAsg, sIf, sRet, sRetN, sDrop, sNext, asg, setAll, eT, eOp, eUn, eLst, eTup, eCons, eNil, eVar, eC, eCall, eCB, eNot, eAnd, eOr, eTru, eAndT, eOrT, eNotT, eIf, ePart, eNoPart, eYes, eChain, eChain3, oI, oI0, oLt, oLe, oGt, oGe, oNeg, oSub, oMod, oMul, oDivW, eXp, eXa, eConsX, eCallX, eCallN, eLstX, eCBX, sDropX, sRetX, sAsgX, sRaise, sRaiseF, List.set_cons_zero, List.set_cons_succ, List.getElem?_cons_zero, List.getElem?_cons_succ, truD_bl]); (try simp only [if_true, Bool.false_eq_true, if_false, decide_true, decide_false, Bool.not_true, Bool.not_false, List.length_cons, List.length_nil, sizeLine_eq, Nat.reduceAdd, Nat.reduceLeDiff, true_and, and_true, pw6, pw10, pw11, pw12, pw13, pw30, pw40, pw60]); (try dsimp only [sAsg, sIf, sRet, sRetN, sDrop, sNext, asg, setAll, eT, eOp, eUn, eLst, eTup, eCons, eNil, eVar, eC, eCall, eCB, eNot, eAnd, eOr, eTru, eAndT, eOrT, eNotT, eIf, ePart, eNoPart, eYes, eChain, eChain3, oI, oI0, oLt, oLe, oGt, oGe, oNeg, oSub, oMod, oMul, oDivW, eXp, eXa, eConsX, eCallX, eCallN, eLstX, eCBX, sDropX, sRetX, sAsgX, sRaise, sRaiseF, List.set_cons_zero, List.set_cons_succ, List.getElem?_cons_zero, List.getElem?_cons_succ, truD_bl])
                      by_cases c2 : 3 < i
                      · (try dsimp only [sAsg, sIf, sRet, sRetN, sDrop, sNext, asg, setAll, eT, eOp, eUn, eLst, eTup, eCons, eNil, eVar, eC, eCall, eCB, eNot, eAnd, eOr, eTru, eAndT, eOrT, eNotT, eIf, ePart, eNoPart, eYes, eChain, eChain3, oI, oI0, oLt, oLe, oGt, oGe, oNeg, oSub, oMod, oMul, oDivW, eXp, eXa, eConsX, eCallX, eCallN, eLstX, eCBX, sDropX, sRetX, sAsgX, sRaise, sRaiseF, List.set_cons_zero, List.set_cons_succ, List.getElem?_cons_zero, List.getElem?_cons_succ, truD_bl, c2]); (try simp only [if_true, Bool.false_eq_true, if_false, decide_true, decide_false, Bool.not_true, Bool.not_false, List.length_cons, List.length_nil, sizeLine_eq, Nat.reduceAdd, Nat.reduceLeDiff, true_and, and_true, pw6, pw10, pw11, pw12, pw13, pw30, pw40, pw60, c2]); (try dsimp only [sAsg, sIf, sRet, sRetN, sDrop, sNext, asg, setAll, eT, eOp, eUn, eLst, eTup, eCons, eNil, eVar, eC, eCall, eCB, eNot, eAnd, eOr, eTru, eAndT, eOrT, eNotT, eIf, ePart, eNoPart, eYes, eChain, eChain3, oI, oI0, oLt, oLe, oGt, oGe, oNeg, oSub, oMod, oMul, oDivW, eXp, eXa, eConsX, eCallX, eCallN, eLstX, eCBX, sDropX, sRetX, sAsgX, sRaise, sRaiseF, List.set_cons_zero, List.set_cons_succ, List.getElem?_cons_zero, List.getElem?_cons_succ, truD_bl, c2])
                        exact bad2 fun w _ => by have := w.b1; simp only at this; omega
                      (try dsimp only [sAsg, sIf, sRet, sRetN, sDrop, sNext, asg, setAll, eT, eOp, eUn, eLst, eTup, eCons, eNil, eVar, eC, eCall, eCB, eNot, eAnd, eOr, eTru, eAndT, eOrT, eNotT, eIf, ePart, eNoPart, eYes, eChain, eChain3, oI, oI0, oLt, oLe, oGt, oGe, oNeg, oSub, oMod, oMul, oDivW, eXp, eXa, eConsX, eCallX, eCallN, eLstX, eCBX, sDropX, sRetX, sAsgX, sRaise, sRaiseF, List.set_cons_zero, List.set_cons_succ, List.getElem?_cons_zero, List.getElem?_cons_succ, truD_bl, c2]); (try simp only [if_true, Bool.false_eq_true, if_false, decide_true, decide_false, Bool.not_true, Bool.not_false, List.length_cons, List.length_nil, sizeLine_eq, Nat.reduceAdd, Nat.reduceLeDiff, true_and, and_true, pw6, pw10, pw11, pw12, pw13, pw30, pw40, pw60, c2]); (try dsimp only [sAsg, sIf, sRet, sRetN, sDrop, sNext, asg, setAll, eT, eOp, eUn, eLst, eTup, eCons, eNil, eVar, eC, eCall, eCB, eNot, eAnd, eOr, eTru, eAndT, eOrT, eNotT, eIf, ePart, eNoPart, eYes, eChain, eChain3, oI, oI0, oLt, oLe, oGt, oGe, oNeg, oSub, oMod, oMul, oDivW, eXp, eXa, eConsX, eCallX, eCallN, eLstX, eCBX, sDropX, sRetX, sAsgX, sRaise, sRaiseF, List.set_cons_zero, List.set_cons_succ, List.getElem?_cons_zero, List.getElem?_cons_succ, truD_bl, c2])
                      refine at2 ?_
                      (try dsimp only [sAsg, sIf, sRet, sRetN, sDrop, sNext, asg, setAll, eT, eOp, eUn, eLst, eTup, eCons, eNil, eVar, eC, eCall, eCB, eNot, eAnd, eOr, eTru, eAndT, eOrT, eNotT, eIf, ePart, eNoPart, eYes, eChain, eChain3, oI, oI0, oLt, oLe, oGt, oGe, oNeg, oSub, oMod, oMul, oDivW, eXp, eXa, eConsX, eCallX, eCallN, eLstX, eCBX, sDropX, sRetX, sAsgX, sRaise, sRaiseF, List.set_cons_zero, List.set_cons_succ, List.getElem?_cons_zero, List.getElem?_cons_succ, truD_bl]); (try simp only [if_true, Bool.false_eq_true, if_false, decide_true, decide_false, Bool.not_true, Bool.not_false, List.length_cons, List.length_nil, sizeLine_eq, Nat.reduceAdd, Nat.reduceLeDiff, true_and, and_true, pw6, pw10, pw11, pw12, pw13, pw30, pw40, pw60]); (try dsimp only [sAsg, sIf, sRet, sRetN, sDrop, sNext, asg, setAll, eT, eOp, eUn, eLst, eTup, eCons, eNil, eVar, eC, eCall, eCB, eNot, eAnd, eOr, eTru, eAndT, eOrT, eNotT, eIf, ePart, eNoPart, eYes, eChain, eChain3, oI, oI0, oLt, oLe, oGt, oGe, oNeg, oSub, oMod, oMul, oDivW, eXp, eXa, eConsX, eCallX, eCallN, eLstX, eCBX, sDropX, sRetX, sAsgX, sRaise, sRaiseF, List.set_cons_zero, List.set_cons_succ, List.getElem?_cons_zero, List.getElem?_cons_succ, truD_bl])
                      by_cases c3 : l < 1
                      · (try dsimp only [sAsg, sIf, sRet, sRetN, sDrop, sNext, asg, setAll, eT, eOp, eUn, eLst, eTup, eCons, eNil, eVar, eC, eCall, eCB, eNot, eAnd, eOr, eTru, eAndT, eOrT, eNotT, eIf, ePart, eNoPart, eYes, eChain, eChain3, oI, oI0, oLt, oLe, oGt, oGe, oNeg, oSub, oMod, oMul, oDivW, eXp, eXa, eConsX, eCallX, eCallN, eLstX, eCBX, sDropX, sRetX, sAsgX, sRaise, sRaiseF, List.set_cons_zero, List.set_cons_succ, List.getElem?_cons_zero, List.getElem?_cons_succ, truD_bl, c3]); (try simp only [if_true, Bool.false_eq_true, if_false, decide_true, decide_false, Bool.not_true, Bool.not_false, List.length_cons, List.length_nil, sizeLine_eq, Nat.reduceAdd, Nat.reduceLeDiff, true_and, and_true, pw6, pw10, pw11, pw12, pw13, pw30, pw40, pw60, c3]); (try dsimp only [sAsg, sIf, sRet, sRetN, sDrop, sNext, asg, setAll, eT, eOp, eUn, eLst, eTup, eCons, eNil, eVar, eC, eCall, eCB, eNot, eAnd, eOr, eTru, eAndT, eOrT, eNotT, eIf, ePart, eNoPart, eYes, eChain, eChain3, oI, oI0, oLt, oLe, oGt, oGe, oNeg, oSub, oMod, oMul, oDivW, eXp, eXa, eConsX, eCallX, eCallN, eLstX, eCBX, sDropX, sRetX, sAsgX, sRaise, sRaiseF, List.set_cons_zero, List.set_cons_succ, List.getElem?_cons_zero, List.getElem?_cons_succ, truD_bl, c3])
                        exact bad2 fun w _ => by have := w.p1; simp only at this; omega
                      (try dsimp only [sAsg, sIf, sRet, sRetN, sDrop, sNext, asg, setAll, eT, eOp, eUn, eLst, eTup, eCons, eNil, eVar, eC, eCall, eCB, eNot, eAnd, eOr, eTru, eAndT, eOrT, eNotT, eIf, ePart, eNoPart, eYes, eChain, eChain3, oI, oI0, oLt, oLe, oGt, oGe, oNeg, oSub, oMod, oMul, oDivW, eXp, eXa, eConsX, eCallX, eCallN, eLstX, eCBX, sDropX, sRetX, sAsgX, sRaise, sRaiseF, List.set_cons_zero, List.set_cons_succ, List.getElem?_cons_zero, List.getElem?_cons_succ, truD_bl, c3]); (try simp only [if_true, Bool.false_eq_true, if_false, decide_true, decide_false, Bool.not_true, Bool.not_false, List.length_cons, List.length_nil, sizeLine_eq, Nat.reduceAdd, Nat.reduceLeDiff, true_and, and_true, pw6, pw10, pw11, pw12, pw13, pw30, pw40, pw60, c3]); (try dsimp only [sAsg, sIf, sRet, sRetN, sDrop, sNext, asg, setAll, eT, eOp, eUn, eLst, eTup, eCons, eNil, eVar, eC, eCall, eCB, eNot, eAnd, eOr, eTru, eAndT, eOrT, eNotT, eIf, ePart, eNoPart, eYes, eChain, eChain3, oI, oI0, oLt, oLe, oGt, oGe, oNeg, oSub, oMod, oMul, oDivW, eXp, eXa, eConsX, eCallX, eCallN, eLstX, eCBX, sDropX, sRetX, sAsgX, sRaise, sRaiseF, List.set_cons_zero, List.set_cons_succ, List.getElem?_cons_zero, List.getElem?_cons_succ, truD_bl, c3])
                      refine at2 ?_
                      (try dsimp only [sAsg, sIf, sRet, sRetN, sDrop, sNext, asg, setAll, eT, eOp, eUn, eLst, eTup, eCons, eNil, eVar, eC, eCall, eCB, eNot, eAnd, eOr, eTru, eAndT, eOrT, eNotT, eIf, ePart, eNoPart, eYes, eChain, eChain3, oI, oI0, oLt, oLe, oGt, oGe, oNeg, oSub, oMod, oMul, oDivW, eXp, eXa, eConsX, eCallX, eCallN, eLstX, eCBX, sDropX, sRetX, sAsgX, sRaise, sRaiseF, List.set_cons_zero, List.set_cons_succ, List.getElem?_cons_zero, List.getElem?_cons_succ, truD_bl]); (try simp only [if_true, Bool.false_eq_true, if_false, decide_true, decide_false, Bool.not_true, Bool.not_false, List.length_cons, List.length_nil, sizeLine_eq, Nat.reduceAdd, Nat.reduceLeDiff, true_and, and_true, pw6, pw10, pw11, pw12, pw13, pw30, pw40, pw60]); (try dsimp only [sAsg, sIf, sRet, sRetN, sDrop, sNext, asg, setAll, eT, eOp, eUn, eLst, eTup, eCons, eNil, eVar, eC, eCall, eCB, eNot, eAnd, eOr, eTru, eAndT, eOrT, eNotT, eIf, ePart, eNoPart, eYes, eChain, eChain3, oI, oI0, oLt, oLe, oGt, oGe, oNeg, oSub, oMod, oMul, oDivW, eXp, eXa, eConsX, eCallX, eCallN, eLstX, eCBX, sDropX, sRetX, sAsgX, sRaise, sRaiseF, List.set_cons_zero, List.set_cons_succ, List.getElem?_cons_zero, List.getElem?_cons_succ, truD_bl])
                      by_cases c4 : 10000000000000 < l
                      · (try dsimp only [sAsg, sIf, sRet, sRetN, sDrop, sNext, asg, setAll, eT, eOp, eUn, eLst, eTup, eCons, eNil, eVar, eC, eCall, eCB, eNot, eAnd, eOr, eTru, eAndT, eOrT, eNotT, eIf, ePart, eNoPart, eYes, eChain, eChain3, oI, oI0, oLt, oLe, oGt, oGe, oNeg, oSub, oMod, oMul, oDivW, eXp, eXa, eConsX, eCallX, eCallN, eLstX, eCBX, sDropX, sRetX, sAsgX, sRaise, sRaiseF, List.set_cons_zero, List.set_cons_succ, List.getElem?_cons_zero, List.getElem?_cons_succ, truD_bl, c4]); (try simp only [if_true, Bool.false_eq_true, if_false, decide_true, decide_false, Bool.not_true, Bool.not_false, List.length_cons, List.length_nil, sizeLine_eq, Nat.reduceAdd, Nat.reduceLeDiff, true_and, and_true, pw6, pw10, pw11, pw12, pw13, pw30, pw40, pw60, c4]); (try dsimp only [sAsg, sIf, sRet, sRetN, sDrop, sNext, asg, setAll, eT, eOp, eUn, eLst, eTup, eCons, eNil, eVar, eC, eCall, eCB, eNot, eAnd, eOr, eTru, eAndT, eOrT, eNotT, eIf, ePart, eNoPart, eYes, eChain, eChain3, oI, oI0, oLt, oLe, oGt, oGe, oNeg, oSub, oMod, oMul, oDivW, eXp, eXa, eConsX, eCallX, eCallN, eLstX, eCBX, sDropX, sRetX, sAsgX, sRaise, sRaiseF, List.set_cons_zero, List.set_cons_succ, List.getElem?_cons_zero, List.getElem?_cons_succ, truD_bl, c4])
                        exact bad2 fun w _ => by have := w.p2; simp only at this; omega
                      (try dsimp only [sAsg, sIf, sRet, sRetN, sDrop, sNext, asg, setAll, eT, eOp, eUn, eLst, eTup, eCons, eNil, eVar, eC, eCall, eCB, eNot, eAnd, eOr, eTru, eAndT, eOrT, eNotT, eIf, ePart, eNoPart, eYes, eChain, eChain3, oI, oI0, oLt, oLe, oGt, oGe, oNeg, oSub, oMod, oMul, oDivW, eXp, eXa, eConsX, eCallX, eCallN, eLstX, eCBX, sDropX, sRetX, sAsgX, sRaise, sRaiseF, List.set_cons_zero, List.set_cons_succ, List.getElem?_cons_zero, List.getElem?_cons_succ, truD_bl, c4]); (try simp only [if_true, Bool.false_eq_true, if_false, decide_true, decide_false, Bool.not_true, Bool.not_false, List.length_cons, List.length_nil, sizeLine_eq, Nat.reduceAdd, Nat.reduceLeDiff, true_and, and_true, pw6, pw10, pw11, pw12, pw13, pw30, pw40, pw60, c4]); (try dsimp only [sAsg, sIf, sRet, sRetN, sDrop, sNext, asg, setAll, eT, eOp, eUn, eLst, eTup, eCons, eNil, eVar, eC, eCall, eCB, eNot, eAnd, eOr, eTru, eAndT, eOrT, eNotT, eIf, ePart, eNoPart, eYes, eChain, eChain3, oI, oI0, oLt, oLe, oGt, oGe, oNeg, oSub, oMod, oMul, oDivW, eXp, eXa, eConsX, eCallX, eCallN, eLstX, eCBX, sDropX, sRetX, sAsgX, sRaise, sRaiseF, List.set_cons_zero, List.set_cons_succ, List.getElem?_cons_zero, List.getElem?_cons_succ, truD_bl, c4])
                      refine hW6 _ _ ?_
                      refine seq_gen fun W7 hW7 => ?_
                      (try dsimp only [sAsg, sIf, sRet, sRetN, sDrop, sNext, asg, setAll, eT, eOp, eUn, eLst, eTup, eCons, eNil, eVar, eC, eCall, eCB, eNot, eAnd, eOr, eTru, eAndT, eOrT, eNotT, eIf, ePart, eNoPart, eYes, eChain, eChain3, oI, oI0, oLt, oLe, oGt, oGe, oNeg, oSub, oMod, oMul, oDivW, eXp, eXa, eConsX, eCallX, eCallN, eLstX, eCBX, sDropX, sRetX, sAsgX, sRaise, sRaiseF, List.set_cons_zero, List.set_cons_succ, List.getElem?_cons_zero, List.getElem?_cons_succ, truD_bl]); (try simp only [if_true, Bool.false_eq_true, if_false, decide_true, decide_false, Bool.not_true, Bool.not_false, List.length_cons, List.length_nil, sizeLine_eq, Nat.reduceAdd, Nat.reduceLeDiff, true_and, and_true, pw6, pw10, pw11, pw12, pw13, pw30, pw40, pw60]); (try dsimp only [sAsg, sIf, sRet, sRetN, sDrop, sNext, asg, setAll, eT, eOp, eUn, eLst, eTup, eCons, eNil, eVar, eC, eCall, eCB, eNot, eAnd, eOr, eTru, eAndT, eOrT, eNotT, eIf, ePart, eNoPart, eYes, eChain, eChain3, oI, oI0, oLt, oLe, oGt, oGe, oNeg, oSub, oMod, oMul, oDivW, eXp, eXa, eConsX, eCallX, eCallN, eLstX, eCBX, sDropX, sRetX, sAsgX, sRaise, sRaiseF, List.set_cons_zero, List.set_cons_succ, List.getElem?_cons_zero, List.getElem?_cons_succ, truD_bl])
                      refine at1 ?_
                      (try dsimp only [sAsg, sIf, sRet, sRetN, sDrop, sNext, asg, setAll, eT, eOp, eUn, eLst, eTup, eCons, eNil, eVar, eC, eCall, eCB, eNot, eAnd, eOr, eTru, eAndT, eOrT, eNotT, eIf, ePart, eNoPart, eYes, eChain, eChain3, oI, oI0, oLt, oLe, oGt, oGe, oNeg, oSub, oMod, oMul, oDivW, eXp, eXa, eConsX, eCallX, eCallN, eLstX, eCBX, sDropX, sRetX, sAsgX, sRaise, sRaiseF, List.set_cons_zero, List.set_cons_succ, List.getElem?_cons_zero, List.getElem?_cons_succ, truD_bl, oNeg]); (try simp only [if_true, Bool.false_eq_true, if_false, decide_true, decide_false, Bool.not_true, Bool.not_false, List.length_cons, List.length_nil, sizeLine_eq, Nat.reduceAdd, Nat.reduceLeDiff, true_and, and_true, pw6, pw10, pw11, pw12, pw13, pw30, pw40, pw60, oNeg]); (try dsimp only [sAsg, sIf, sRet, sRetN, sDrop, sNext, asg, setAll, eT, eOp, eUn, eLst, eTup, eCons, eNil, eVar, eC, eCall, eCB, eNot, eAnd, eOr, eTru, eAndT, eOrT, eNotT, eIf, ePart, eNoPart, eYes, eChain, eChain3, oI, oI0, oLt, oLe, oGt, oGe, oNeg, oSub, oMod, oMul, oDivW, eXp, eXa, eConsX, eCallX, eCallN, eLstX, eCBX, sDropX, sRetX, sAsgX, sRaise, sRaiseF, List.set_cons_zero, List.set_cons_succ, List.getElem?_cons_zero, List.getElem?_cons_succ, truD_bl, oNeg])
                      by_cases c5 : m < -1000000000000
                      · (try dsimp only [sAsg, sIf, sRet, sRetN, sDrop, sNext, asg, setAll, eT, eOp, eUn, eLst, eTup, eCons, eNil, eVar, eC, eCall, eCB, eNot, eAnd, eOr, eTru, eAndT, eOrT, eNotT, eIf, ePart, eNoPart, eYes, eChain, eChain3, oI, oI0, oLt, oLe, oGt, oGe, oNeg, oSub, oMod, oMul, oDivW, eXp, eXa, eConsX, eCallX, eCallN, eLstX, eCBX, sDropX, sRetX, sAsgX, sRaise, sRaiseF, List.set_cons_zero, List.set_cons_succ, List.getElem?_cons_zero, List.getElem?_cons_succ, truD_bl, c5]); (try simp only [if_true, Bool.false_eq_true, if_false, decide_true, decide_false, Bool.not_true, Bool.not_false, List.length_cons, List.length_nil, sizeLine_eq, Nat.reduceAdd, Nat.reduceLeDiff, true_and, and_true, pw6, pw10, pw11, pw12, pw13, pw30, pw40, pw60, c5]); (try dsimp only [sAsg, sIf, sRet, sRetN, sDrop, sNext, asg, setAll, eT, eOp, eUn, eLst, eTup, eCons, eNil, eVar, eC, eCall, eCB, eNot, eAnd, eOr, eTru, eAndT, eOrT, eNotT, eIf, ePart, eNoPart, eYes, eChain, eChain3, oI, oI0, oLt, oLe, oGt, oGe, oNeg, oSub, oMod, oMul, oDivW, eXp, eXa, eConsX, eCallX, eCallN, eLstX, eCBX, sDropX, sRetX, sAsgX, sRaise, sRaiseF, List.set_cons_zero, List.set_cons_succ, List.getElem?_cons_zero, List.getElem?_cons_succ, truD_bl, c5])
                        exact bad2 fun w _ => by have := w.lo; simp only at this; omega
                      (try dsimp only [sAsg, sIf, sRet, sRetN, sDrop, sNext, asg, setAll, eT, eOp, eUn, eLst, eTup, eCons, eNil, eVar, eC, eCall, eCB, eNot, eAnd, eOr, eTru, eAndT, eOrT, eNotT, eIf, ePart, eNoPart, eYes, eChain, eChain3, oI, oI0, oLt, oLe, oGt, oGe, oNeg, oSub, oMod, oMul, oDivW, eXp, eXa, eConsX, eCallX, eCallN, eLstX, eCBX, sDropX, sRetX, sAsgX, sRaise, sRaiseF, List.set_cons_zero, List.set_cons_succ, List.getElem?_cons_zero, List.getElem?_cons_succ, truD_bl, c5]); (try simp only [if_true, Bool.false_eq_true, if_false, decide_true, decide_false, Bool.not_true, Bool.not_false, List.length_cons, List.length_nil, sizeLine_eq, Nat.reduceAdd, Nat.reduceLeDiff, true_and, and_true, pw6, pw10, pw11, pw12, pw13, pw30, pw40, pw60, c5]); (try dsimp only [sAsg, sIf, sRet, sRetN, sDrop, sNext, asg, setAll, eT, eOp, eUn, eLst, eTup, eCons, eNil, eVar, eC, eCall, eCB, eNot, eAnd, eOr, eTru, eAndT, eOrT, eNotT, eIf, ePart, eNoPart, eYes, eChain, eChain3, oI, oI0, oLt, oLe, oGt, oGe, oNeg, oSub, oMod, oMul, oDivW, eXp, eXa, eConsX, eCallX, eCallN, eLstX, eCBX, sDropX, sRetX, sAsgX, sRaise, sRaiseF, List.set_cons_zero, List.set_cons_succ, List.getElem?_cons_zero, List.getElem?_cons_succ, truD_bl, c5])
                      refine at1 ?_
                      (try dsimp only [sAsg, sIf, sRet, sRetN, sDrop, sNext, asg, setAll, eT, eOp, eUn, eLst, eTup, eCons, eNil, eVar, eC, eCall, eCB, eNot, eAnd, eOr, eTru, eAndT, eOrT, eNotT, eIf, ePart, eNoPart, eYes, eChain, eChain3, oI, oI0, oLt, oLe, oGt, oGe, oNeg, oSub, oMod, oMul, oDivW, eXp, eXa, eConsX, eCallX, eCallN, eLstX, eCBX, sDropX, sRetX, sAsgX, sRaise, sRaiseF, List.set_cons_zero, List.set_cons_succ, List.getElem?_cons_zero, List.getElem?_cons_succ, truD_bl]); (try simp only [if_true, Bool.false_eq_true, if_false, decide_true, decide_false, Bool.not_true, Bool.not_false, List.length_cons, List.length_nil, sizeLine_eq, Nat.reduceAdd, Nat.reduceLeDiff, true_and, and_true, pw6, pw10, pw11, pw12, pw13, pw30, pw40, pw60]); (try dsimp only [sAsg, sIf, sRet, sRetN, sDrop, sNext, asg, setAll, eT, eOp, eUn, eLst, eTup, eCons, eNil, eVar, eC, eCall, eCB, eNot, eAnd, eOr, eTru, eAndT, eOrT, eNotT, eIf, ePart, eNoPart, eYes, eChain, eChain3, oI, oI0, oLt, oLe, oGt, oGe, oNeg, oSub, oMod, oMul, oDivW, eXp, eXa, eConsX, eCallX, eCallN, eLstX, eCBX, sDropX, sRetX, sAsgX, sRaise, sRaiseF, List.set_cons_zero, List.set_cons_succ, List.getElem?_cons_zero, List.getElem?_cons_succ, truD_bl])
                      by_cases c6 : (1000000000000 : Int) - 1 < m
                      · (try dsimp only [sAsg, sIf, sRet, sRetN, sDrop, sNext, asg, setAll, eT, eOp, eUn, eLst, eTup, eCons, eNil, eVar, eC, eCall, eCB, eNot, eAnd, eOr, eTru, eAndT, eOrT, eNotT, eIf, ePart, eNoPart, eYes, eChain, eChain3, oI, oI0, oLt, oLe, oGt, oGe, oNeg, oSub, oMod, oMul, oDivW, eXp, eXa, eConsX, eCallX, eCallN, eLstX, eCBX, sDropX, sRetX, sAsgX, sRaise, sRaiseF, List.set_cons_zero, List.set_cons_succ, List.getElem?_cons_zero, List.getElem?_cons_succ, truD_bl, c6]); (try simp only [if_true, Bool.false_eq_true, if_false, decide_true, decide_false, Bool.not_true, Bool.not_false, List.length_cons, List.length_nil, sizeLine_eq, Nat.reduceAdd, Nat.reduceLeDiff, true_and, and_true, pw6, pw10, pw11, pw12, pw13, pw30, pw40, pw60, c6]); (try dsimp only [sAsg, sIf, sRet, sRetN, sDrop, sNext, asg, setAll, eT, eOp, eUn, eLst, eTup, eCons, eNil, eVar, eC, eCall, eCB, eNot, eAnd, eOr, eTru, eAndT, eOrT, eNotT, eIf, ePart, eNoPart, eYes, eChain, eChain3, oI, oI0, oLt, oLe, oGt, oGe, oNeg, oSub, oMod, oMul, oDivW, eXp, eXa, eConsX, eCallX, eCallN, eLstX, eCBX, sDropX, sRetX, sAsgX, sRaise, sRaiseF, List.set_cons_zero, List.set_cons_succ, List.getElem?_cons_zero, List.getElem?_cons_succ, truD_bl, c6])
                        exact bad2 fun w _ => by have := w.hi; simp only at this; omega
                      (try dsimp only [sAsg, sIf, sRet, sRetN, sDrop, sNext, asg, setAll, eT, eOp, eUn, eLst, eTup, eCons, eNil, eVar, eC, eCall, eCB, eNot, eAnd, eOr, eTru, eAndT, eOrT, eNotT, eIf, ePart, eNoPart, eYes, eChain, eChain3, oI, oI0, oLt, oLe, oGt, oGe, oNeg, oSub, oMod, oMul, oDivW, eXp, eXa, eConsX, eCallX, eCallN, eLstX, eCBX, sDropX, sRetX, sAsgX, sRaise, sRaiseF, List.set_cons_zero, List.set_cons_succ, List.getElem?_cons_zero, List.getElem?_cons_succ, truD_bl, c6]); (try simp only [if_true, Bool.false_eq_true, if_false, decide_true, decide_false, Bool.not_true, Bool.not_false, List.length_cons, List.length_nil, sizeLine_eq, Nat.reduceAdd, Nat.reduceLeDiff, true_and, and_true, pw6, pw10, pw11, pw12, pw13, pw30, pw40, pw60, c6]); (try dsimp only [sAsg, sIf, sRet, sRetN, sDrop, sNext, asg, setAll, eT, eOp, eUn, eLst, eTup, eCons, eNil, eVar, eC, eCall, eCB, eNot, eAnd, eOr, eTru, eAndT, eOrT, eNotT, eIf, ePart, eNoPart, eYes, eChain, eChain3, oI, oI0, oLt, oLe, oGt, oGe, oNeg, oSub, oMod, oMul, oDivW, eXp, eXa, eConsX, eCallX, eCallN, eLstX, eCBX, sDropX, sRetX, sAsgX, sRaise, sRaiseF, List.set_cons_zero, List.set_cons_succ, List.getElem?_cons_zero, List.getElem?_cons_succ, truD_bl, c6])
                      refine hW7 _ _ ?_
                      have tq : TQ (i, m, l) := ⟨by simp only; omega, by simp only; omega, by simp only; omega, by simp only; omega, by simp only; omega, by simp only; omega⟩
                      have done : (∀ y, pp.getLast? = some y → triL y (i, m, l)) → W [some (.lst es), some (.int (j : Int)), some (.tup [.int i, .int m, .int l]), none] G' := fun h => hW _ _ ⟨rfl, pp ++ [(i, m, l)], r, _, _, by rw [he]; simp [triD], by simp [hl], fun x hx => by
                        rcases List.mem_append.mp hx with q | q
                        · exact hq x q
                        · rw [List.mem_singleton.mp q]; exact tq, triL_snoc up h, rfl⟩
                      (try dsimp only [sAsg, sIf, sRet, sRetN, sDrop, sNext, asg, setAll, eT, eOp, eUn, eLst, eTup, eCons, eNil, eVar, eC, eCall, eCB, eNot, eAnd, eOr, eTru, eAndT, eOrT, eNotT, eIf, ePart, eNoPart, eYes, eChain, eChain3, oI, oI0, oLt, oLe, oGt, oGe, oNeg, oSub, oMod, oMul, oDivW, eXp, eXa, eConsX, eCallX, eCallN, eLstX, eCBX, sDropX, sRetX, sAsgX, sRaise, sRaiseF, List.set_cons_zero, List.set_cons_succ, List.getElem?_cons_zero, List.getElem?_cons_succ, truD_bl]); (try simp only [if_true, Bool.false_eq_true, if_false, decide_true, decide_false, Bool.not_true, Bool.not_false, List.length_cons, List.length_nil, sizeLine_eq, Nat.reduceAdd, Nat.reduceLeDiff, true_and, and_true, pw6, pw10, pw11, pw12, pw13, pw30, pw40, pw60]); (try dsimp only [sAsg, sIf, sRet, sRetN, sDrop, sNext, asg, setAll, eT, eOp, eUn, eLst, eTup, eCons, eNil, eVar, eC, eCall, eCB, eNot, eAnd, eOr, eTru, eAndT, eOrT, eNotT, eIf, ePart, eNoPart, eYes, eChain, eChain3, oI, oI0, oLt, oLe, oGt, oGe, oNeg, oSub, oMod, oMul, oDivW, eXp, eXa, eConsX, eCallX, eCallN, eLstX, eCBX, sDropX, sRetX, sAsgX, sRaise, sRaiseF, List.set_cons_zero, List.set_cons_succ, List.getElem?_cons_zero, List.getElem?_cons_succ, truD_bl])
                      by_cases cj : 0 < (j : Int)
                      · (try dsimp only [sAsg, sIf, sRet, sRetN, sDrop, sNext, asg, setAll, eT, eOp, eUn, eLst, eTup, eCons, eNil, eVar, eC, eCall, eCB, eNot, eAnd, eOr, eTru, eAndT, eOrT, eNotT, eIf, ePart, eNoPart, eYes, eChain, eChain3, oI, oI0, oLt, oLe, oGt, oGe, oNeg, oSub, oMod, oMul, oDivW, eXp, eXa, eConsX, eCallX, eCallN, eLstX, eCBX, sDropX, sRetX, sAsgX, sRaise, sRaiseF, List.set_cons_zero, List.set_cons_succ, List.getElem?_cons_zero, List.getElem?_cons_succ, truD_bl, cj]); (try simp only [if_true, Bool.false_eq_true, if_false, decide_true, decide_false, Bool.not_true, Bool.not_false, List.length_cons, List.length_nil, sizeLine_eq, Nat.reduceAdd, Nat.reduceLeDiff, true_and, and_true, pw6, pw10, pw11, pw12, pw13, pw30, pw40, pw60, cj]); (try dsimp only [sAsg, sIf, sRet, sRetN, sDrop, sNext, asg, setAll, eT, eOp, eUn, eLst, eTup, eCons, eNil, eVar, eC, eCall, eCB, eNot, eAnd, eOr, eTru, eAndT, eOrT, eNotT, eIf, ePart, eNoPart, eYes, eChain, eChain3, oI, oI0, oLt, oLe, oGt, oGe, oNeg, oSub, oMod, oMul, oDivW, eXp, eXa, eConsX, eCallX, eCallN, eLstX, eCBX, sDropX, sRetX, sAsgX, sRaise, sRaiseF, List.set_cons_zero, List.set_cons_succ, List.getElem?_cons_zero, List.getElem?_cons_succ, truD_bl, cj])
                        refine at0 (at1 ?_)
                        (try dsimp only [sAsg, sIf, sRet, sRetN, sDrop, sNext, asg, setAll, eT, eOp, eUn, eLst, eTup, eCons, eNil, eVar, eC, eCall, eCB, eNot, eAnd, eOr, eTru, eAndT, eOrT, eNotT, eIf, ePart, eNoPart, eYes, eChain, eChain3, oI, oI0, oLt, oLe, oGt, oGe, oNeg, oSub, oMod, oMul, oDivW, eXp, eXa, eConsX, eCallX, eCallN, eLstX, eCBX, sDropX, sRetX, sAsgX, sRaise, sRaiseF, List.set_cons_zero, List.set_cons_succ, List.getElem?_cons_zero, List.getElem?_cons_succ, truD_bl]); (try simp only [if_true, Bool.false_eq_true, if_false, decide_true, decide_false, Bool.not_true, Bool.not_false, List.length_cons, List.length_nil, sizeLine_eq, Nat.reduceAdd, Nat.reduceLeDiff, true_and, and_true, pw6, pw10, pw11, pw12, pw13, pw30, pw40, pw60]); (try dsimp only [sAsg, sIf, sRet, sRetN, sDrop, sNext, asg, setAll, eT, eOp, eUn, eLst, eTup, eCons, eNil, eVar, eC, eCall, eCB, eNot, eAnd, eOr, eTru, eAndT, eOrT, eNotT, eIf, ePart, eNoPart, eYes, eChain, eChain3, oI, oI0, oLt, oLe, oGt, oGe, oNeg, oSub, oMod, oMul, oDivW, eXp, eXa, eConsX, eCallX, eCallN, eLstX, eCBX, sDropX, sRetX, sAsgX, sRaise, sRaiseF, List.set_cons_zero, List.set_cons_succ, List.getElem?_cons_zero, List.getElem?_cons_succ, truD_bl])
                        have hlast : pp ≠ [] := fun e => by rw [e] at hl; simp at hl; omega
                        obtain ⟨y, ey⟩ : ∃ y, pp.getLast? = some y := ⟨pp.getLast hlast, List.getLast?_eq_some_getLast hlast⟩
                        have ap : atI es ((j : Int) - 1) = some (triD y) := by
                          rw [show (j : Int) - 1 = ((j - 1 : Nat) : Int) by omega]
                          refine atI_nat ?_
                          rw [he, List.getElem?_append_left (by simp; omega), List.getElem?_map]
                          rw [List.getLast?_eq_getElem?, hl] at ey
                          rw [ey]
                          rfl
                        refine ix_at ap (ixt_0 (d := .int y.1) rfl ?_)
                        (try dsimp only [sAsg, sIf, sRet, sRetN, sDrop, sNext, asg, setAll, eT, eOp, eUn, eLst, eTup, eCons, eNil, eVar, eC, eCall, eCB, eNot, eAnd, eOr, eTru, eAndT, eOrT, eNotT, eIf, ePart, eNoPart, eYes, eChain, eChain3, oI, oI0, oLt, oLe, oGt, oGe, oNeg, oSub, oMod, oMul, oDivW, eXp, eXa, eConsX, eCallX, eCallN, eLstX, eCBX, sDropX, sRetX, sAsgX, sRaise, sRaiseF, List.set_cons_zero, List.set_cons_succ, List.getElem?_cons_zero, List.getElem?_cons_succ, truD_bl]); (try simp only [if_true, Bool.false_eq_true, if_false, decide_true, decide_false, Bool.not_true, Bool.not_false, List.length_cons, List.length_nil, sizeLine_eq, Nat.reduceAdd, Nat.reduceLeDiff, true_and, and_true, pw6, pw10, pw11, pw12, pw13, pw30, pw40, pw60]); (try dsimp only [sAsg, sIf, sRet, sRetN, sDrop, sNext, asg, setAll, eT, eOp, eUn, eLst, eTup, eCons, eNil, eVar, eC, eCall, eCB, eNot, eAnd, eOr, eTru, eAndT, eOrT, eNotT, eIf, ePart, eNoPart, eYes, eChain, eChain3, oI, oI0, oLt, oLe, oGt, oGe, oNeg, oSub, oMod, oMul, oDivW, eXp, eXa, eConsX, eCallX, eCallN, eLstX, eCBX, sDropX, sRetX, sAsgX, sRaise, sRaiseF, List.set_cons_zero, List.set_cons_succ, List.getElem?_cons_zero, List.getElem?_cons_succ, truD_bl])
                        refine ix_at ap (ixt_0 (d := .int y.2.1) rfl (le_pair ?_))
                        by_cases c7 : i < y.1 ∨ i = y.1 ∧ m ≤ y.2.1
                        · rw [decide_eq_true c7]
                          (try dsimp only [sAsg, sIf, sRet, sRetN, sDrop, sNext, asg, setAll, eT, eOp, eUn, eLst, eTup, eCons, eNil, eVar, eC, eCall, eCB, eNot, eAnd, eOr, eTru, eAndT, eOrT, eNotT, eIf, ePart, eNoPart, eYes, eChain, eChain3, oI, oI0, oLt, oLe, oGt, oGe, oNeg, oSub, oMod, oMul, oDivW, eXp, eXa, eConsX, eCallX, eCallN, eLstX, eCBX, sDropX, sRetX, sAsgX, sRaise, sRaiseF, List.set_cons_zero, List.set_cons_succ, List.getElem?_cons_zero, List.getElem?_cons_succ, truD_bl]); (try simp only [if_true, Bool.false_eq_true, if_false, decide_true, decide_false, Bool.not_true, Bool.not_false, List.length_cons, List.length_nil, sizeLine_eq, Nat.reduceAdd, Nat.reduceLeDiff, true_and, and_true, pw6, pw10, pw11, pw12, pw13, pw30, pw40, pw60]); (try dsimp only [sAsg, sIf, sRet, sRetN, sDrop, sNext, asg, setAll, eT, eOp, eUn, eLst, eTup, eCons, eNil, eVar, eC, eCall, eCB, eNot, eAnd, eOr, eTru, eAndT, eOrT, eNotT, eIf, ePart, eNoPart, eYes, eChain, eChain3, oI, oI0, oLt, oLe, oGt, oGe, oNeg, oSub, oMod, oMul, oDivW, eXp, eXa, eConsX, eCallX, eCallN, eLstX, eCBX, sDropX, sRetX, sAsgX, sRaise, sRaiseF, List.set_cons_zero, List.set_cons_succ, List.getElem?_cons_zero, List.getElem?_cons_succ, truD_bl])
                          exact bad2 fun _ h => by
                            have := h y (List.mem_of_getLast? ey)
                            unfold triL at this
                            simp only at this
                            omega
                        · rw [decide_eq_false c7]
                          (try dsimp only [sAsg, sIf, sRet, sRetN, sDrop, sNext, asg, setAll, eT, eOp, eUn, eLst, eTup, eCons, eNil, eVar, eC, eCall, eCB, eNot, eAnd, eOr, eTru, eAndT, eOrT, eNotT, eIf, ePart, eNoPart, eYes, eChain, eChain3, oI, oI0, oLt, oLe, oGt, oGe, oNeg, oSub, oMod, oMul, oDivW, eXp, eXa, eConsX, eCallX, eCallN, eLstX, eCBX, sDropX, sRetX, sAsgX, sRaise, sRaiseF, List.set_cons_zero, List.set_cons_succ, List.getElem?_cons_zero, List.getElem?_cons_succ, truD_bl]); (try simp only [if_true, Bool.false_eq_true, if_false, decide_true, decide_false, Bool.not_true, Bool.not_false, List.length_cons, List.length_nil, sizeLine_eq, Nat.reduceAdd, Nat.reduceLeDiff, true_and, and_true, pw6, pw10, pw11, pw12, pw13, pw30, pw40, pw60]); (try dsimp only [sAsg, sIf, sRet, sRetN, sDrop, sNext, asg, setAll, eT, eOp, eUn, eLst, eTup, eCons, eNil, eVar, eC, eCall, eCB, eNot, eAnd, eOr, eTru, eAndT, eOrT, eNotT, eIf, ePart, eNoPart, eYes, eChain, eChain3, oI, oI0, oLt, oLe, oGt, oGe, oNeg, oSub, oMod, oMul, oDivW, eXp, eXa, eConsX, eCallX, eCallN, eLstX, eCBX, sDropX, sRetX, sAsgX, sRaise, sRaiseF, List.set_cons_zero, List.set_cons_succ, List.getElem?_cons_zero, List.getElem?_cons_succ, truD_bl])
                          exact done fun z ez => by
                            rw [ey] at ez
                            cases ez
                            unfold triL
                            simp only
                            omega
                      · (try dsimp only [sAsg, sIf, sRet, sRetN, sDrop, sNext, asg, setAll, eT, eOp, eUn, eLst, eTup, eCons, eNil, eVar, eC, eCall, eCB, eNot, eAnd, eOr, eTru, eAndT, eOrT, eNotT, eIf, ePart, eNoPart, eYes, eChain, eChain3, oI, oI0, oLt, oLe, oGt, oGe, oNeg, oSub, oMod, oMul, oDivW, eXp, eXa, eConsX, eCallX, eCallN, eLstX, eCBX, sDropX, sRetX, sAsgX, sRaise, sRaiseF, List.set_cons_zero, List.set_cons_succ, List.getElem?_cons_zero, List.getElem?_cons_succ, truD_bl, cj]); (try simp only [if_true, Bool.false_eq_true, if_false, decide_true, decide_false, Bool.not_true, Bool.not_false, List.length_cons, List.length_nil, sizeLine_eq, Nat.reduceAdd, Nat.reduceLeDiff, true_and, and_true, pw6, pw10, pw11, pw12, pw13, pw30, pw40, pw60, cj]); (try dsimp only [sAsg, sIf, sRet, sRetN, sDrop, sNext, asg, setAll, eT, eOp, eUn, eLst, eTup, eCons, eNil, eVar, eC, eCall, eCB, eNot, eAnd, eOr, eTru, eAndT, eOrT, eNotT, eIf, ePart, eNoPart, eYes, eChain, eChain3, oI, oI0, oLt, oLe, oGt, oGe, oNeg, oSub, oMod, oMul, oDivW, eXp, eXa, eConsX, eCallX, eCallN, eLstX, eCBX, sDropX, sRetX, sAsgX, sRaise, sRaiseF, List.set_cons_zero, List.set_cons_succ, List.getElem?_cons_zero, List.getElem?_cons_succ, truD_bl, cj])
                        have : pp = [] := List.eq_nil_of_length_eq_zero (by omega)
                        subst this
                        exact done fun z ez => by simp at ez
            · rw [decide_eq_false (by omega)]
              (try dsimp only [sAsg, sIf, sRet, sRetN, sDrop, sNext, asg, setAll, eT, eOp, eUn, eLst, eTup, eCons, eNil, eVar, eC, eCall, eCB, eNot, eAnd, eOr, eTru, eAndT, eOrT, eNotT, eIf, ePart, eNoPart, eYes, eChain, eChain3, oI, oI0, oLt, oLe, oGt, oGe, oNeg, oSub, oMod, oMul, oDivW, eXp, eXa, eConsX, eCallX, eCallN, eLstX, eCBX, sDropX, sRetX, sAsgX, sRaise, sRaiseF, List.set_cons_zero, List.set_cons_succ, List.getElem?_cons_zero, List.getElem?_cons_succ, truD_bl]); (try simp only [if_true, Bool.false_eq_true, if_false, decide_true, decide_false, Bool.not_true, Bool.not_false, List.length_cons, List.length_nil, sizeLine_eq, Nat.reduceAdd, Nat.reduceLeDiff, true_and, and_true, pw6, pw10, pw11, pw12, pw13, pw30, pw40, pw60]); (try dsimp only [sAsg, sIf, sRet, sRetN, sDrop, sNext, asg, setAll, eT, eOp, eUn, eLst, eTup, eCons, eNil, eVar, eC, eCall, eCB, eNot, eAnd, eOr, eTru, eAndT, eOrT, eNotT, eIf, ePart, eNoPart, eYes, eChain, eChain3, oI, oI0, oLt, oLe, oGt, oGe, oNeg, oSub, oMod, oMul, oDivW, eXp, eXa, eConsX, eCallX, eCallN, eLstX, eCBX, sDropX, sRetX, sAsgX, sRaise, sRaiseF, List.set_cons_zero, List.set_cons_succ, List.getElem?_cons_zero, List.getElem?_cons_succ, truD_bl])
              exact bad fun x e _ _ => by simp [triD] at e; subst e; simp at l3
          | _ =>
            (try dsimp only [sAsg, sIf, sRet, sRetN, sDrop, sNext, asg, setAll, eT, eOp, eUn, eLst, eTup, eCons, eNil, eVar, eC, eCall, eCB, eNot, eAnd, eOr, eTru, eAndT, eOrT, eNotT, eIf, ePart, eNoPart, eYes, eChain, eChain3, oI, oI0, oLt, oLe, oGt, oGe, oNeg, oSub, oMod, oMul, oDivW, eXp, eXa, eConsX, eCallX, eCallN, eLstX, eCBX, sDropX, sRetX, sAsgX, sRaise, sRaiseF, List.set_cons_zero, List.set_cons_succ, List.getElem?_cons_zero, List.getElem?_cons_succ, truD_bl, isT]); (try simp only [if_true, Bool.false_eq_true, if_false, decide_true, decide_false, Bool.not_true, Bool.not_false, List.length_cons, List.length_nil, sizeLine_eq, Nat.reduceAdd, Nat.reduceLeDiff, true_and, and_true, pw6, pw10, pw11, pw12, pw13, pw30, pw40, pw60, isT]); (try dsimp only [sAsg, sIf, sRet, sRetN, sDrop, sNext, asg, setAll, eT, eOp, eUn, eLst, eTup, eCons, eNil, eVar, eC, eCall, eCB, eNot, eAnd, eOr, eTru, eAndT, eOrT, eNotT, eIf, ePart, eNoPart, eYes, eChain, eChain3, oI, oI0, oLt, oLe, oGt, oGe, oNeg, oSub, oMod, oMul, oDivW, eXp, eXa, eConsX, eCallX, eCallN, eLstX, eCBX, sDropX, sRetX, sAsgX, sRaise, sRaiseF, List.set_cons_zero, List.set_cons_succ, List.getElem?_cons_zero, List.getElem?_cons_succ, truD_bl, isT])
            exact bad fun x e _ _ => by simp [triD] at e
      · rintro s G' ⟨rfl, pp, r, o1, o2, he, hl, hq, up, rfl⟩
        have : r = [] := by
          have := congrArg List.length he
          simp at this
          exact List.eq_nil_of_length_eq_zero (by omega)
        subst this
        rw [List.append_nil] at he
        subst he
        refine hW2 _ _ ?_
        (try dsimp only [sAsg, sIf, sRet, sRetN, sDrop, sNext, asg, setAll, eT, eOp, eUn, eLst, eTup, eCons, eNil, eVar, eC, eCall, eCB, eNot, eAnd, eOr, eTru, eAndT, eOrT, eNotT, eIf, ePart, eNoPart, eYes, eChain, eChain3, oI, oI0, oLt, oLe, oGt, oGe, oNeg, oSub, oMod, oMul, oDivW, eXp, eXa, eConsX, eCallX, eCallN, eLstX, eCBX, sDropX, sRetX, sAsgX, sRaise, sRaiseF, List.set_cons_zero, List.set_cons_succ, List.getElem?_cons_zero, List.getElem?_cons_succ, truD_bl]); (try simp only [if_true, Bool.false_eq_true, if_false, decide_true, decide_false, Bool.not_true, Bool.not_false, List.length_cons, List.length_nil, sizeLine_eq, Nat.reduceAdd, Nat.reduceLeDiff, true_and, and_true, pw6, pw10, pw11, pw12, pw13, pw30, pw40, pw60]); (try dsimp only [sAsg, sIf, sRet, sRetN, sDrop, sNext, asg, setAll, eT, eOp, eUn, eLst, eTup, eCons, eNil, eVar, eC, eCall, eCB, eNot, eAnd, eOr, eTru, eAndT, eOrT, eNotT, eIf, ePart, eNoPart, eYes, eChain, eChain3, oI, oI0, oLt, oLe, oGt, oGe, oNeg, oSub, oMod, oMul, oDivW, eXp, eXa, eConsX, eCallX, eCallN, eLstX, eCBX, sDropX, sRetX, sAsgX, sRaise, sRaiseF, List.set_cons_zero, List.set_cons_succ, List.getElem?_cons_zero, List.getElem?_cons_succ, truD_bl])
        simp only [List.length_map] at q48
        exact fin_id (k true ⟨fun _ => ⟨pp, rfl, by omega, hq, up⟩, fun _ => rfl⟩)
  | _ =>
    (try dsimp only [sAsg, sIf, sRet, sRetN, sDrop, sNext, asg, setAll, eT, eOp, eUn, eLst, eTup, eCons, eNil, eVar, eC, eCall, eCB, eNot, eAnd, eOr, eTru, eAndT, eOrT, eNotT, eIf, ePart, eNoPart, eYes, eChain, eChain3, oI, oI0, oLt, oLe, oGt, oGe, oNeg, oSub, oMod, oMul, oDivW, eXp, eXa, eConsX, eCallX, eCallN, eLstX, eCBX, sDropX, sRetX, sAsgX, sRaise, sRaiseF, List.set_cons_zero, List.set_cons_succ, List.getElem?_cons_zero, List.getElem?_cons_succ, truD_bl, isL]); (try simp only [if_true, Bool.false_eq_true, if_false, decide_true, decide_false, Bool.not_true, Bool.not_false, List.length_cons, List.length_nil, sizeLine_eq, Nat.reduceAdd, Nat.reduceLeDiff, true_and, and_true, pw6, pw10, pw11, pw12, pw13, pw30, pw40, pw60, isL]); (try dsimp only [sAsg, sIf, sRet, sRetN, sDrop, sNext, asg, setAll, eT, eOp, eUn, eLst, eTup, eCons, eNil, eVar, eC, eCall, eCB, eNot, eAnd, eOr, eTru, eAndT, eOrT, eNotT, eIf, ePart, eNoPart, eYes, eChain, eChain3, oI, oI0, oLt, oLe, oGt, oGe, oNeg, oSub, oMod, oMul, oDivW, eXp, eXa, eConsX, eCallX, eCallN, eLstX, eCBX, sDropX, sRetX, sAsgX, sRaise, sRaiseF, List.set_cons_zero, List.set_cons_succ, List.getElem?_cons_zero, List.getElem?_cons_succ, truD_bl, isL])
    exact no fun ⟨p2, e, _⟩ => by simp at e
theorem thg_b {k n : Nat} {d : D} (h : Thg k n d) (hk : k ≤ 1 := by decide) (hn : n ≤ 1000 := by decide) : Thg 1 1000 d := h.mono hk hn
theorem d__law_other_part (ds : List D) (G : Gp) (Q : DK) (h : F__law_other_part ds G Q) : r__law_other_part (fin G Q) (startD 5 ds) G := by
  obtain ⟨a, x, y, z, part, place, rfl, hG, ok, h1, h2, p0, p3, k⟩ := h
  refine seq_gen fun W hW => ?_
  (try dsimp only [sAsg, sIf, sRet, sRetN, sDrop, sNext, asg, setAll, eT, eOp, eUn, eLst, eTup, eCons, eNil, eVar, eC, eCall, eCB, eNot, eAnd, eOr, eTru, eAndT, eOrT, eNotT, eIf, ePart, eNoPart, eYes, eChain, eChain3, oI, oI0, oLt, oLe, oGt, oGe, oNeg, oSub, oMod, oMul, oDivW, eXp, eXa, eConsX, eCallX, eCallN, eLstX, eCBX, sDropX, sRetX, sAsgX, sRaise, sRaiseF, List.set_cons_zero, List.set_cons_succ, List.getElem?_cons_zero, List.getElem?_cons_succ, truD_bl, startD, List.map_cons, List.map_nil, List.cons_append, List.nil_append, List.replicate]); (try simp only [if_true, Bool.false_eq_true, if_false, decide_true, decide_false, Bool.not_true, Bool.not_false, List.length_cons, List.length_nil, sizeLine_eq, Nat.reduceAdd, Nat.reduceLeDiff, true_and, and_true, pw6, pw10, pw11, pw12, pw13, pw30, pw40, pw60, startD, List.map_cons, List.map_nil, List.cons_append, List.nil_append, List.replicate]); (try dsimp only [sAsg, sIf, sRet, sRetN, sDrop, sNext, asg, setAll, eT, eOp, eUn, eLst, eTup, eCons, eNil, eVar, eC, eCall, eCB, eNot, eAnd, eOr, eTru, eAndT, eOrT, eNotT, eIf, ePart, eNoPart, eYes, eChain, eChain3, oI, oI0, oLt, oLe, oGt, oGe, oNeg, oSub, oMod, oMul, oDivW, eXp, eXa, eConsX, eCallX, eCallN, eLstX, eCBX, sDropX, sRetX, sAsgX, sRaise, sRaiseF, List.set_cons_zero, List.set_cons_succ, List.getElem?_cons_zero, List.getElem?_cons_succ, truD_bl, startD, List.map_cons, List.map_nil, List.cons_append, List.nil_append, List.replicate])
  refine hW _ _ ?_
  refine seq_gen fun W2 hW2 => ?_
  (try dsimp only [sAsg, sIf, sRet, sRetN, sDrop, sNext, asg, setAll, eT, eOp, eUn, eLst, eTup, eCons, eNil, eVar, eC, eCall, eCB, eNot, eAnd, eOr, eTru, eAndT, eOrT, eNotT, eIf, ePart, eNoPart, eYes, eChain, eChain3, oI, oI0, oLt, oLe, oGt, oGe, oNeg, oSub, oMod, oMul, oDivW, eXp, eXa, eConsX, eCallX, eCallN, eLstX, eCBX, sDropX, sRetX, sAsgX, sRaise, sRaiseF, List.set_cons_zero, List.set_cons_succ, List.getElem?_cons_zero, List.getElem?_cons_succ, truD_bl, oNeg]); (try simp only [if_true, Bool.false_eq_true, if_false, decide_true, decide_false, Bool.not_true, Bool.not_false, List.length_cons, List.length_nil, sizeLine_eq, Nat.reduceAdd, Nat.reduceLeDiff, true_and, and_true, pw6, pw10, pw11, pw12, pw13, pw30, pw40, pw60, oNeg]); (try dsimp only [sAsg, sIf, sRet, sRetN, sDrop, sNext, asg, setAll, eT, eOp, eUn, eLst, eTup, eCons, eNil, eVar, eC, eCall, eCB, eNot, eAnd, eOr, eTru, eAndT, eOrT, eNotT, eIf, ePart, eNoPart, eYes, eChain, eChain3, oI, oI0, oLt, oLe, oGt, oGe, oNeg, oSub, oMod, oMul, oDivW, eXp, eXa, eConsX, eCallX, eCallN, eLstX, eCBX, sDropX, sRetX, sAsgX, sRaise, sRaiseF, List.set_cons_zero, List.set_cons_succ, List.getElem?_cons_zero, List.getElem?_cons_succ, truD_bl, oNeg])
  refine ⟨cmul_l (by decide) (by decide), ?_⟩
  refine ⟨cmul_l (by decide) (by decide), ?_⟩
  refine add_ii ?_
  refine hW2 _ _ ?_
  (try dsimp only [sAsg, sIf, sRet, sRetN, sDrop, sNext, asg, setAll, eT, eOp, eUn, eLst, eTup, eCons, eNil, eVar, eC, eCall, eCB, eNot, eAnd, eOr, eTru, eAndT, eOrT, eNotT, eIf, ePart, eNoPart, eYes, eChain, eChain3, oI, oI0, oLt, oLe, oGt, oGe, oNeg, oSub, oMod, oMul, oDivW, eXp, eXa, eConsX, eCallX, eCallN, eLstX, eCBX, sDropX, sRetX, sAsgX, sRaise, sRaiseF, List.set_cons_zero, List.set_cons_succ, List.getElem?_cons_zero, List.getElem?_cons_succ, truD_bl]); (try simp only [if_true, Bool.false_eq_true, if_false, decide_true, decide_false, Bool.not_true, Bool.not_false, List.length_cons, List.length_nil, sizeLine_eq, Nat.reduceAdd, Nat.reduceLeDiff, true_and, and_true, pw6, pw10, pw11, pw12, pw13, pw30, pw40, pw60]); (try dsimp only [sAsg, sIf, sRet, sRetN, sDrop, sNext, asg, setAll, eT, eOp, eUn, eLst, eTup, eCons, eNil, eVar, eC, eCall, eCB, eNot, eAnd, eOr, eTru, eAndT, eOrT, eNotT, eIf, ePart, eNoPart, eYes, eChain, eChain3, oI, oI0, oLt, oLe, oGt, oGe, oNeg, oSub, oMod, oMul, oDivW, eXp, eXa, eConsX, eCallX, eCallN, eLstX, eCBX, sDropX, sRetX, sAsgX, sRaise, sRaiseF, List.set_cons_zero, List.set_cons_succ, List.getElem?_cons_zero, List.getElem?_cons_succ, truD_bl])
  have lg : part.natAbs < 10 ^ 60 := by
    have : (10 : Nat) ^ 60 = 1000000000000000000000000000000000000000000000000000000000000 := by decide
    omega
  have fin4 : ∀ (l : List Int), l.length = 4 → (∀ i ∈ l, -10000000000001 ≤ i ∧ i ≤ 10000000000001) → oAdd (.lst (l.map D.int)) (.lst [.bl true, .non, .str (toString part), .lst [.int part]]) G fun v G1 => F__law_take [.ref a, .int 8] G1 fun w G2 => oIx v w G2 (fin G Q).rt := by
    intro l hl hi
    refine add_ok (by rw [List.length_map, hl]; simp) ?_
    refine take_ok hG ok (wd_of (by decide) (by decide)) fun j x y z ok j0 j1 => ?_
    refine ix_allT (P := Thg 1 1000) (fun d hd => ?_) j0 (by rw [List.length_append, List.length_map, hl]; exact j1) fun d hd => fin_id (k d x y z ok hd)
    rcases List.mem_append.mp hd with q | q
    · obtain ⟨i, hi2, rfl⟩ := List.mem_map.mp q
      have := hi i hi2
      exact thg_b (thg_i (by omega) (by omega))
    · simp only [List.mem_cons, List.not_mem_nil, or_false] at q
      rcases q with rfl | rfl | rfl | rfl
      · exact thg_b (thg_bl true)
      · exact thg_b thg_non
      · have t := tx_int lg
        exact thg_b (thg_str (n := 61) t.asc t.len)
      · exact (thg_lst (k := 0) (n := 61) (m := 1) (fun d hd => by rw [List.mem_singleton.mp hd]; exact thg_int lg) (by simp)).mono (by decide) (by decide)
  have hp : place = 0 ∨ place = 1 ∨ place = 2 := by omega
  have st : ∀ {Q : DK}, Q (.str (toString part)) G → cStrX [.int part] G Q := fun {Q} q => by
    show part.natAbs.log2 < 1920 ∧ Q _ G
    exact ⟨log_small lg, q⟩
  rcases hp with rfl | rfl | rfl
  · refine ix_at (i := 0) (d := .lst ([0, 3, 4, -1].map D.int)) rfl (st ?_)
    exact fin4 _ rfl (by decide)
  · refine ix_at (i := 1) (d := .lst ([0 - 1000000000000, 1000000000000 - 1, 1000000000000, -1 - 1000000000000].map D.int)) rfl (st ?_)
    exact fin4 _ rfl (by decide)
  · refine ix_at (i := 2) (d := .lst ([1, 10 * 1000000000000, 0, 10 * 1000000000000 + 1].map D.int)) rfl (st ?_)
    exact fin4 _ rfl (by decide)
theorem cut_mem3 {L : List D} {a b : Option Int} {d : D} (h : d ∈ cutD L a b) : d ∈ L := by
  unfold cutD at h
  exact List.mem_of_mem_drop (List.mem_of_mem_take h)
theorem cut_len3 (L : List D) (a b : Option Int) : (cutD L a b).length ≤ L.length := by
  unfold cutD
  rw [List.length_take, List.length_drop]
  omega
theorem thg_tri {x : Tri} (h : (-1000000000000000 ≤ x.1 ∧ x.1 ≤ 1000000000000000) ∧ (-1000000000000000 ≤ x.2.1 ∧ x.2.1 ≤ 1000000000000000) ∧ -1000000000000000 ≤ x.2.2 ∧ x.2.2 ≤ 1000000000000000) : Thg 2 5000 (triD x) := (thg_tup (k := 1) (n := 1000) (m := 3) (ds := [.int x.1, .int x.2.1, .int x.2.2]) (fun y hy => by
  simp only [List.mem_cons, List.not_mem_nil, or_false] at hy
  rcases hy with rfl | rfl | rfl
  · exact thg_b (thg_i (by omega) (by omega))
  · exact thg_b (thg_i (by omega) (by omega))
  · exact thg_b (thg_i (by omega) (by omega))) (by simp)).mono (by decide) (by decide)
theorem thg_L {ds : List D} (h : ∀ d ∈ ds, Thg 2 5000 d) (hl : ds.length ≤ 410) : Thg 4 2500000 (.lst ds) := (thg_lst (m := 410) h hl).mono (by decide) (by decide)
theorem d__law_bent (ds : List D) (G : Gp) (Q : DK) (h : F__law_bent ds G Q) : r__law_bent (fin G Q) (startD 8 ds) G := by
  obtain ⟨a, x, y, z, L, rfl, hG, ok, hl, hb, k⟩ := h
  have hT : ∀ d ∈ L.map triD, Thg 2 5000 d := fun d hd => by
    obtain ⟨x, hx, rfl⟩ := List.mem_map.mp hd
    exact thg_tri (hb x hx)
  refine seq_gen fun W hW => ?_
  (try dsimp only [sAsg, sIf, sRet, sRetN, sDrop, sNext, asg, setAll, eT, eOp, eUn, eLst, eTup, eCons, eNil, eVar, eC, eCall, eCB, eNot, eAnd, eOr, eTru, eAndT, eOrT, eNotT, eIf, ePart, eNoPart, eYes, eChain, eChain3, oI, oI0, oLt, oLe, oGt, oGe, oNeg, oSub, oMod, oMul, oDivW, eXp, eXa, eConsX, eCallX, eCallN, eLstX, eCBX, sDropX, sRetX, sAsgX, sRaise, sRaiseF, List.set_cons_zero, List.set_cons_succ, List.getElem?_cons_zero, List.getElem?_cons_succ, truD_bl, startD, List.map_cons, List.map_nil, List.cons_append, List.nil_append, List.replicate]); (try simp only [if_true, Bool.false_eq_true, if_false, decide_true, decide_false, Bool.not_true, Bool.not_false, List.length_cons, List.length_nil, sizeLine_eq, Nat.reduceAdd, Nat.reduceLeDiff, true_and, and_true, pw6, pw10, pw11, pw12, pw13, pw30, pw40, pw60, startD, List.map_cons, List.map_nil, List.cons_append, List.nil_append, List.replicate]); (try dsimp only [sAsg, sIf, sRet, sRetN, sDrop, sNext, asg, setAll, eT, eOp, eUn, eLst, eTup, eCons, eNil, eVar, eC, eCall, eCB, eNot, eAnd, eOr, eTru, eAndT, eOrT, eNotT, eIf, ePart, eNoPart, eYes, eChain, eChain3, oI, oI0, oLt, oLe, oGt, oGe, oNeg, oSub, oMod, oMul, oDivW, eXp, eXa, eConsX, eCallX, eCallN, eLstX, eCBX, sDropX, sRetX, sAsgX, sRaise, sRaiseF, List.set_cons_zero, List.set_cons_succ, List.getElem?_cons_zero, List.getElem?_cons_succ, truD_bl, startD, List.map_cons, List.map_nil, List.cons_append, List.nil_append, List.replicate])
  refine take_ok hG ok (wd_of (by decide) (by decide)) fun w x y z ok w0 w1 => hW _ _ ?_
  generalize hG1 : gput G a (stO x y z) = G1
  have ga : G1 a = some (stO x y z) := by rw [← hG1, gput_same]
  have gg : ∀ x y z, gput G1 a (stO x y z) = gput G a (stO x y z) := fun x y z => by rw [← hG1, gput_gput]
  have k1 : ∀ d, Thg 4 2500000 d → Q d G1 := fun d hd => by
    rw [← hG1]
    exact k d x y z ok hd
  refine seq_gen fun W2 hW2 => ?_
  (try dsimp only [sAsg, sIf, sRet, sRetN, sDrop, sNext, asg, setAll, eT, eOp, eUn, eLst, eTup, eCons, eNil, eVar, eC, eCall, eCB, eNot, eAnd, eOr, eTru, eAndT, eOrT, eNotT, eIf, ePart, eNoPart, eYes, eChain, eChain3, oI, oI0, oLt, oLe, oGt, oGe, oNeg, oSub, oMod, oMul, oDivW, eXp, eXa, eConsX, eCallX, eCallN, eLstX, eCBX, sDropX, sRetX, sAsgX, sRaise, sRaiseF, List.set_cons_zero, List.set_cons_succ, List.getElem?_cons_zero, List.getElem?_cons_succ, truD_bl]); (try simp only [if_true, Bool.false_eq_true, if_false, decide_true, decide_false, Bool.not_true, Bool.not_false, List.length_cons, List.length_nil, sizeLine_eq, Nat.reduceAdd, Nat.reduceLeDiff, true_and, and_true, pw6, pw10, pw11, pw12, pw13, pw30, pw40, pw60]); (try dsimp only [sAsg, sIf, sRet, sRetN, sDrop, sNext, asg, setAll, eT, eOp, eUn, eLst, eTup, eCons, eNil, eVar, eC, eCall, eCB, eNot, eAnd, eOr, eTru, eAndT, eOrT, eNotT, eIf, ePart, eNoPart, eYes, eChain, eChain3, oI, oI0, oLt, oLe, oGt, oGe, oNeg, oSub, oMod, oMul, oDivW, eXp, eXa, eConsX, eCallX, eCallN, eLstX, eCBX, sDropX, sRetX, sAsgX, sRaise, sRaiseF, List.set_cons_zero, List.set_cons_succ, List.getElem?_cons_zero, List.getElem?_cons_succ, truD_bl])
  refine eq_ii ?_
  by_cases cw : w = 0
  · rw [decide_eq_true cw]
    (try dsimp only [sAsg, sIf, sRet, sRetN, sDrop, sNext, asg, setAll, eT, eOp, eUn, eLst, eTup, eCons, eNil, eVar, eC, eCall, eCB, eNot, eAnd, eOr, eTru, eAndT, eOrT, eNotT, eIf, ePart, eNoPart, eYes, eChain, eChain3, oI, oI0, oLt, oLe, oGt, oGe, oNeg, oSub, oMod, oMul, oDivW, eXp, eXa, eConsX, eCallX, eCallN, eLstX, eCBX, sDropX, sRetX, sAsgX, sRaise, sRaiseF, List.set_cons_zero, List.set_cons_succ, List.getElem?_cons_zero, List.getElem?_cons_succ, truD_bl, eDnew0, cTuple, lkQ_lst]); (try simp only [if_true, Bool.false_eq_true, if_false, decide_true, decide_false, Bool.not_true, Bool.not_false, List.length_cons, List.length_nil, sizeLine_eq, Nat.reduceAdd, Nat.reduceLeDiff, true_and, and_true, pw6, pw10, pw11, pw12, pw13, pw30, pw40, pw60, eDnew0, cTuple, lkQ_lst]); (try dsimp only [sAsg, sIf, sRet, sRetN, sDrop, sNext, asg, setAll, eT, eOp, eUn, eLst, eTup, eCons, eNil, eVar, eC, eCall, eCB, eNot, eAnd, eOr, eTru, eAndT, eOrT, eNotT, eIf, ePart, eNoPart, eYes, eChain, eChain3, oI, oI0, oLt, oLe, oGt, oGe, oNeg, oSub, oMod, oMul, oDivW, eXp, eXa, eConsX, eCallX, eCallN, eLstX, eCBX, sDropX, sRetX, sAsgX, sRaise, sRaiseF, List.set_cons_zero, List.set_cons_succ, List.getElem?_cons_zero, List.getElem?_cons_succ, truD_bl, eDnew0, cTuple, lkQ_lst])
    refine take_ok ga ok (wd_of (by decide) (by decide)) fun j x y z ok j0 j1 => ?_
    rw [gg]
    refine ix_allT (P := Thg 4 2500000) (fun d hd => ?_) j0 j1 fun d hd => fin_id (k d x y z ok hd)
    have te : Thg 2 5000 (.tup []) := (thg_tup (k := 0) (n := 0) (m := 0) (ds := []) (fun y hy => by cases hy) (by simp)).mono (by decide) (by decide)
    have le : Thg 2 5000 (.lst []) := (thg_lst (k := 0) (n := 0) (m := 0) (ds := []) (fun y hy => by cases hy) (by simp)).mono (by decide) (by decide)
    simp only [List.mem_cons, List.not_mem_nil, or_false] at hd
    rcases hd with rfl | rfl | rfl | rfl | rfl | rfl | rfl | rfl | rfl | rfl
    · exact thg_non.mono (by decide) (by decide)
    · exact (thg_i (i := 0) (by decide) (by decide)).mono (by decide) (by decide)
    · exact (thg_bl true).mono (by decide) (by decide)
    · exact (thg_str (x := "") (n := 0) (asc_of _) (by decide +kernel)).mono (by decide) (by decide)
    · exact te.mono (by decide) (by decide)
    · exact thg_dnil.mono (by decide) (by decide)
    · exact (thg_tup (m := 410) hT (by rw [List.length_map]; omega)).mono (by decide) (by decide)
    · exact thg_L (fun d hd => by rw [List.mem_singleton.mp hd]; exact te) (by simp)
    · exact thg_L (fun d hd => by rw [List.mem_singleton.mp hd]; exact le) (by simp)
    · refine thg_L (fun d hd => ?_) (by simp)
      simp only [List.mem_cons, List.not_mem_nil, or_false] at hd
      rcases hd with rfl | rfl
      · exact thg_tri (x := (0, 0, 1)) (by simp only; omega)
      · exact thg_non.mono (by decide) (by decide)
  rw [decide_eq_false cw]
  (try dsimp only [sAsg, sIf, sRet, sRetN, sDrop, sNext, asg, setAll, eT, eOp, eUn, eLst, eTup, eCons, eNil, eVar, eC, eCall, eCB, eNot, eAnd, eOr, eTru, eAndT, eOrT, eNotT, eIf, ePart, eNoPart, eYes, eChain, eChain3, oI, oI0, oLt, oLe, oGt, oGe, oNeg, oSub, oMod, oMul, oDivW, eXp, eXa, eConsX, eCallX, eCallN, eLstX, eCBX, sDropX, sRetX, sAsgX, sRaise, sRaiseF, List.set_cons_zero, List.set_cons_succ, List.getElem?_cons_zero, List.getElem?_cons_succ, truD_bl]); (try simp only [if_true, Bool.false_eq_true, if_false, decide_true, decide_false, Bool.not_true, Bool.not_false, List.length_cons, List.length_nil, sizeLine_eq, Nat.reduceAdd, Nat.reduceLeDiff, true_and, and_true, pw6, pw10, pw11, pw12, pw13, pw30, pw40, pw60]); (try dsimp only [sAsg, sIf, sRet, sRetN, sDrop, sNext, asg, setAll, eT, eOp, eUn, eLst, eTup, eCons, eNil, eVar, eC, eCall, eCB, eNot, eAnd, eOr, eTru, eAndT, eOrT, eNotT, eIf, ePart, eNoPart, eYes, eChain, eChain3, oI, oI0, oLt, oLe, oGt, oGe, oNeg, oSub, oMod, oMul, oDivW, eXp, eXa, eConsX, eCallX, eCallN, eLstX, eCBX, sDropX, sRetX, sAsgX, sRaise, sRaiseF, List.set_cons_zero, List.set_cons_succ, List.getElem?_cons_zero, List.getElem?_cons_succ, truD_bl])
  refine hW2 _ _ ?_
  refine seq_gen fun W3 hW3 => ?_
  have own : (fin G Q).rt (.lst (L.map triD)) G1 := fin_id (k1 _ (thg_L hT (by rw [List.length_map]; omega)))
  (try dsimp only [sAsg, sIf, sRet, sRetN, sDrop, sNext, asg, setAll, eT, eOp, eUn, eLst, eTup, eCons, eNil, eVar, eC, eCall, eCB, eNot, eAnd, eOr, eTru, eAndT, eOrT, eNotT, eIf, ePart, eNoPart, eYes, eChain, eChain3, oI, oI0, oLt, oLe, oGt, oGe, oNeg, oSub, oMod, oMul, oDivW, eXp, eXa, eConsX, eCallX, eCallN, eLstX, eCBX, sDropX, sRetX, sAsgX, sRaise, sRaiseF, List.set_cons_zero, List.set_cons_succ, List.getElem?_cons_zero, List.getElem?_cons_succ, truD_bl]); (try simp only [if_true, Bool.false_eq_true, if_false, decide_true, decide_false, Bool.not_true, Bool.not_false, List.length_cons, List.length_nil, sizeLine_eq, Nat.reduceAdd, Nat.reduceLeDiff, true_and, and_true, pw6, pw10, pw11, pw12, pw13, pw30, pw40, pw60]); (try dsimp only [sAsg, sIf, sRet, sRetN, sDrop, sNext, asg, setAll, eT, eOp, eUn, eLst, eTup, eCons, eNil, eVar, eC, eCall, eCB, eNot, eAnd, eOr, eTru, eAndT, eOrT, eNotT, eIf, ePart, eNoPart, eYes, eChain, eChain3, oI, oI0, oLt, oLe, oGt, oGe, oNeg, oSub, oMod, oMul, oDivW, eXp, eXa, eConsX, eCallX, eCallN, eLstX, eCBX, sDropX, sRetX, sAsgX, sRaise, sRaiseF, List.set_cons_zero, List.set_cons_succ, List.getElem?_cons_zero, List.getElem?_cons_succ, truD_bl])
  refine eq_nilL (us := L.map fun x => PyData.tuple [.int x.1, .int x.2.1, .int x.2.2]) (n := 2) (by simp [toPys_triK]) (shp_triK (n := 0) L) ?_
  cases hp : (L.map fun x => PyData.tuple [.int x.1, .int x.2.1, .int x.2.2]).isEmpty with
  | true =>
    (try dsimp only [sAsg, sIf, sRet, sRetN, sDrop, sNext, asg, setAll, eT, eOp, eUn, eLst, eTup, eCons, eNil, eVar, eC, eCall, eCB, eNot, eAnd, eOr, eTru, eAndT, eOrT, eNotT, eIf, ePart, eNoPart, eYes, eChain, eChain3, oI, oI0, oLt, oLe, oGt, oGe, oNeg, oSub, oMod, oMul, oDivW, eXp, eXa, eConsX, eCallX, eCallN, eLstX, eCBX, sDropX, sRetX, sAsgX, sRaise, sRaiseF, List.set_cons_zero, List.set_cons_succ, List.getElem?_cons_zero, List.getElem?_cons_succ, truD_bl]); (try simp only [if_true, Bool.false_eq_true, if_false, decide_true, decide_false, Bool.not_true, Bool.not_false, List.length_cons, List.length_nil, sizeLine_eq, Nat.reduceAdd, Nat.reduceLeDiff, true_and, and_true, pw6, pw10, pw11, pw12, pw13, pw30, pw40, pw60]); (try dsimp only [sAsg, sIf, sRet, sRetN, sDrop, sNext, asg, setAll, eT, eOp, eUn, eLst, eTup, eCons, eNil, eVar, eC, eCall, eCB, eNot, eAnd, eOr, eTru, eAndT, eOrT, eNotT, eIf, ePart, eNoPart, eYes, eChain, eChain3, oI, oI0, oLt, oLe, oGt, oGe, oNeg, oSub, oMod, oMul, oDivW, eXp, eXa, eConsX, eCallX, eCallN, eLstX, eCBX, sDropX, sRetX, sAsgX, sRaise, sRaiseF, List.set_cons_zero, List.set_cons_succ, List.getElem?_cons_zero, List.getElem?_cons_succ, truD_bl])
    exact own
  | false =>
    have ne : L ≠ [] := fun e => by rw [e] at hp; cases hp
    have lp := List.length_pos_iff.mpr ne
    (try dsimp only [sAsg, sIf, sRet, sRetN, sDrop, sNext, asg, setAll, eT, eOp, eUn, eLst, eTup, eCons, eNil, eVar, eC, eCall, eCB, eNot, eAnd, eOr, eTru, eAndT, eOrT, eNotT, eIf, ePart, eNoPart, eYes, eChain, eChain3, oI, oI0, oLt, oLe, oGt, oGe, oNeg, oSub, oMod, oMul, oDivW, eXp, eXa, eConsX, eCallX, eCallN, eLstX, eCBX, sDropX, sRetX, sAsgX, sRaise, sRaiseF, List.set_cons_zero, List.set_cons_succ, List.getElem?_cons_zero, List.getElem?_cons_succ, truD_bl]); (try simp only [if_true, Bool.false_eq_true, if_false, decide_true, decide_false, Bool.not_true, Bool.not_false, List.length_cons, List.length_nil, sizeLine_eq, Nat.reduceAdd, Nat.reduceLeDiff, true_and, and_true, pw6, pw10, pw11, pw12, pw13, pw30, pw40, pw60]); (try dsimp only [sAsg, sIf, sRet, sRetN, sDrop, sNext, asg, setAll, eT, eOp, eUn, eLst, eTup, eCons, eNil, eVar, eC, eCall, eCB, eNot, eAnd, eOr, eTru, eAndT, eOrT, eNotT, eIf, ePart, eNoPart, eYes, eChain, eChain3, oI, oI0, oLt, oLe, oGt, oGe, oNeg, oSub, oMod, oMul, oDivW, eXp, eXa, eConsX, eCallX, eCallN, eLstX, eCBX, sDropX, sRetX, sAsgX, sRaise, sRaiseF, List.set_cons_zero, List.set_cons_succ, List.getElem?_cons_zero, List.getElem?_cons_succ, truD_bl])
    refine eq_ii ?_
    by_cases c1 : w = 1
    · rw [decide_eq_true c1]
      (try dsimp only [sAsg, sIf, sRet, sRetN, sDrop, sNext, asg, setAll, eT, eOp, eUn, eLst, eTup, eCons, eNil, eVar, eC, eCall, eCB, eNot, eAnd, eOr, eTru, eAndT, eOrT, eNotT, eIf, ePart, eNoPart, eYes, eChain, eChain3, oI, oI0, oLt, oLe, oGt, oGe, oNeg, oSub, oMod, oMul, oDivW, eXp, eXa, eConsX, eCallX, eCallN, eLstX, eCBX, sDropX, sRetX, sAsgX, sRaise, sRaiseF, List.set_cons_zero, List.set_cons_succ, List.getElem?_cons_zero, List.getElem?_cons_succ, truD_bl]); (try simp only [if_true, Bool.false_eq_true, if_false, decide_true, decide_false, Bool.not_true, Bool.not_false, List.length_cons, List.length_nil, sizeLine_eq, Nat.reduceAdd, Nat.reduceLeDiff, true_and, and_true, pw6, pw10, pw11, pw12, pw13, pw30, pw40, pw60]); (try dsimp only [sAsg, sIf, sRet, sRetN, sDrop, sNext, asg, setAll, eT, eOp, eUn, eLst, eTup, eCons, eNil, eVar, eC, eCall, eCB, eNot, eAnd, eOr, eTru, eAndT, eOrT, eNotT, eIf, ePart, eNoPart, eYes, eChain, eChain3, oI, oI0, oLt, oLe, oGt, oGe, oNeg, oSub, oMod, oMul, oDivW, eXp, eXa, eConsX, eCallX, eCallN, eLstX, eCBX, sDropX, sRetX, sAsgX, sRaise, sRaiseF, List.set_cons_zero, List.set_cons_succ, List.getElem?_cons_zero, List.getElem?_cons_succ, truD_bl])
      exact own
    rw [decide_eq_false c1]
    (try dsimp only [sAsg, sIf, sRet, sRetN, sDrop, sNext, asg, setAll, eT, eOp, eUn, eLst, eTup, eCons, eNil, eVar, eC, eCall, eCB, eNot, eAnd, eOr, eTru, eAndT, eOrT, eNotT, eIf, ePart, eNoPart, eYes, eChain, eChain3, oI, oI0, oLt, oLe, oGt, oGe, oNeg, oSub, oMod, oMul, oDivW, eXp, eXa, eConsX, eCallX, eCallN, eLstX, eCBX, sDropX, sRetX, sAsgX, sRaise, sRaiseF, List.set_cons_zero, List.set_cons_succ, List.getElem?_cons_zero, List.getElem?_cons_succ, truD_bl]); (try simp only [if_true, Bool.false_eq_true, if_false, decide_true, decide_false, Bool.not_true, Bool.not_false, List.length_cons, List.length_nil, sizeLine_eq, Nat.reduceAdd, Nat.reduceLeDiff, true_and, and_true, pw6, pw10, pw11, pw12, pw13, pw30, pw40, pw60]); (try dsimp only [sAsg, sIf, sRet, sRetN, sDrop, sNext, asg, setAll, eT, eOp, eUn, eLst, eTup, eCons, eNil, eVar, eC, eCall, eCB, eNot, eAnd, eOr, eTru, eAndT, eOrT, eNotT, eIf, ePart, eNoPart, eYes, eChain, eChain3, oI, oI0, oLt, oLe, oGt, oGe, oNeg, oSub, oMod, oMul, oDivW, eXp, eXa, eConsX, eCallX, eCallN, eLstX, eCBX, sDropX, sRetX, sAsgX, sRaise, sRaiseF, List.set_cons_zero, List.set_cons_succ, List.getElem?_cons_zero, List.getElem?_cons_succ, truD_bl])
    refine hW3 _ _ ?_
    refine seq_gen fun W4 hW4 => ?_
    (try dsimp only [sAsg, sIf, sRet, sRetN, sDrop, sNext, asg, setAll, eT, eOp, eUn, eLst, eTup, eCons, eNil, eVar, eC, eCall, eCB, eNot, eAnd, eOr, eTru, eAndT, eOrT, eNotT, eIf, ePart, eNoPart, eYes, eChain, eChain3, oI, oI0, oLt, oLe, oGt, oGe, oNeg, oSub, oMod, oMul, oDivW, eXp, eXa, eConsX, eCallX, eCallN, eLstX, eCBX, sDropX, sRetX, sAsgX, sRaise, sRaiseF, List.set_cons_zero, List.set_cons_succ, List.getElem?_cons_zero, List.getElem?_cons_succ, truD_bl]); (try simp only [if_true, Bool.false_eq_true, if_false, decide_true, decide_false, Bool.not_true, Bool.not_false, List.length_cons, List.length_nil, sizeLine_eq, Nat.reduceAdd, Nat.reduceLeDiff, true_and, and_true, pw6, pw10, pw11, pw12, pw13, pw30, pw40, pw60]); (try dsimp only [sAsg, sIf, sRet, sRetN, sDrop, sNext, asg, setAll, eT, eOp, eUn, eLst, eTup, eCons, eNil, eVar, eC, eCall, eCB, eNot, eAnd, eOr, eTru, eAndT, eOrT, eNotT, eIf, ePart, eNoPart, eYes, eChain, eChain3, oI, oI0, oLt, oLe, oGt, oGe, oNeg, oSub, oMod, oMul, oDivW, eXp, eXa, eConsX, eCallX, eCallN, eLstX, eCBX, sDropX, sRetX, sAsgX, sRaise, sRaiseF, List.set_cons_zero, List.set_cons_succ, List.getElem?_cons_zero, List.getElem?_cons_succ, truD_bl])
    refine len_lst ?_
    rw [List.length_map]
    refine take_ok ga ok (wd_of (by omega) (by omega)) fun j x y z ok j0 j1 => hW4 _ _ ?_
    rw [gg]
    obtain ⟨j, rfl⟩ : ∃ i : Nat, j = (i : Int) := ⟨j.toNat, by omega⟩
    have hj : j < L.length := by omega
    have aj : atI (L.map triD) (j : Int) = some (triD L[j]) := atI_nat (by rw [List.getElem?_map, List.getElem?_eq_getElem hj]; rfl)
    have bj := hb _ (List.getElem_mem hj)
    generalize L[j] = one at aj bj
    have hT1 : Thg 2 5000 (triD one) := thg_tri bj
    refine seq_gen fun W5 hW5 => ?_
    (try dsimp only [sAsg, sIf, sRet, sRetN, sDrop, sNext, asg, setAll, eT, eOp, eUn, eLst, eTup, eCons, eNil, eVar, eC, eCall, eCB, eNot, eAnd, eOr, eTru, eAndT, eOrT, eNotT, eIf, ePart, eNoPart, eYes, eChain, eChain3, oI, oI0, oLt, oLe, oGt, oGe, oNeg, oSub, oMod, oMul, oDivW, eXp, eXa, eConsX, eCallX, eCallN, eLstX, eCBX, sDropX, sRetX, sAsgX, sRaise, sRaiseF, List.set_cons_zero, List.set_cons_succ, List.getElem?_cons_zero, List.getElem?_cons_succ, truD_bl]); (try simp only [if_true, Bool.false_eq_true, if_false, decide_true, decide_false, Bool.not_true, Bool.not_false, List.length_cons, List.length_nil, sizeLine_eq, Nat.reduceAdd, Nat.reduceLeDiff, true_and, and_true, pw6, pw10, pw11, pw12, pw13, pw30, pw40, pw60]); (try dsimp only [sAsg, sIf, sRet, sRetN, sDrop, sNext, asg, setAll, eT, eOp, eUn, eLst, eTup, eCons, eNil, eVar, eC, eCall, eCB, eNot, eAnd, eOr, eTru, eAndT, eOrT, eNotT, eIf, ePart, eNoPart, eYes, eChain, eChain3, oI, oI0, oLt, oLe, oGt, oGe, oNeg, oSub, oMod, oMul, oDivW, eXp, eXa, eConsX, eCallX, eCallN, eLstX, eCBX, sDropX, sRetX, sAsgX, sRaise, sRaiseF, List.set_cons_zero, List.set_cons_succ, List.getElem?_cons_zero, List.getElem?_cons_succ, truD_bl])
    refine ix_at aj (hW5 _ _ ?_)
    refine seq_gen fun W6 hW6 => ?_
    (try dsimp only [sAsg, sIf, sRet, sRetN, sDrop, sNext, asg, setAll, eT, eOp, eUn, eLst, eTup, eCons, eNil, eVar, eC, eCall, eCB, eNot, eAnd, eOr, eTru, eAndT, eOrT, eNotT, eIf, ePart, eNoPart, eYes, eChain, eChain3, oI, oI0, oLt, oLe, oGt, oGe, oNeg, oSub, oMod, oMul, oDivW, eXp, eXa, eConsX, eCallX, eCallN, eLstX, eCBX, sDropX, sRetX, sAsgX, sRaise, sRaiseF, List.set_cons_zero, List.set_cons_succ, List.getElem?_cons_zero, List.getElem?_cons_succ, truD_bl]); (try simp only [if_true, Bool.false_eq_true, if_false, decide_true, decide_false, Bool.not_true, Bool.not_false, List.length_cons, List.length_nil, sizeLine_eq, Nat.reduceAdd, Nat.reduceLeDiff, true_and, and_true, pw6, pw10, pw11, pw12, pw13, pw30, pw40, pw60]); (try dsimp only [sAsg, sIf, sRet, sRetN, sDrop, sNext, asg, setAll, eT, eOp, eUn, eLst, eTup, eCons, eNil, eVar, eC, eCall, eCB, eNot, eAnd, eOr, eTru, eAndT, eOrT, eNotT, eIf, ePart, eNoPart, eYes, eChain, eChain3, oI, oI0, oLt, oLe, oGt, oGe, oNeg, oSub, oMod, oMul, oDivW, eXp, eXa, eConsX, eCallX, eCallN, eLstX, eCBX, sDropX, sRetX, sAsgX, sRaise, sRaiseF, List.set_cons_zero, List.set_cons_succ, List.getElem?_cons_zero, List.getElem?_cons_succ, truD_bl])
    refine take_ok gput_same ok (wd_of (by decide) (by decide)) fun pl x y z ok pl0 pl1 => ?_
    rw [gput_gput]
    refine hW6 _ _ ?_
    refine seq_gen fun W7 hW7 => ?_
    (try dsimp only [sAsg, sIf, sRet, sRetN, sDrop, sNext, asg, setAll, eT, eOp, eUn, eLst, eTup, eCons, eNil, eVar, eC, eCall, eCB, eNot, eAnd, eOr, eTru, eAndT, eOrT, eNotT, eIf, ePart, eNoPart, eYes, eChain, eChain3, oI, oI0, oLt, oLe, oGt, oGe, oNeg, oSub, oMod, oMul, oDivW, eXp, eXa, eConsX, eCallX, eCallN, eLstX, eCBX, sDropX, sRetX, sAsgX, sRaise, sRaiseF, List.set_cons_zero, List.set_cons_succ, List.getElem?_cons_zero, List.getElem?_cons_succ, truD_bl, cListO, triD, lkQ_tup]); (try simp only [if_true, Bool.false_eq_true, if_false, decide_true, decide_false, Bool.not_true, Bool.not_false, List.length_cons, List.length_nil, sizeLine_eq, Nat.reduceAdd, Nat.reduceLeDiff, true_and, and_true, pw6, pw10, pw11, pw12, pw13, pw30, pw40, pw60, cListO, triD, lkQ_tup]); (try dsimp only [sAsg, sIf, sRet, sRetN, sDrop, sNext, asg, setAll, eT, eOp, eUn, eLst, eTup, eCons, eNil, eVar, eC, eCall, eCB, eNot, eAnd, eOr, eTru, eAndT, eOrT, eNotT, eIf, ePart, eNoPart, eYes, eChain, eChain3, oI, oI0, oLt, oLe, oGt, oGe, oNeg, oSub, oMod, oMul, oDivW, eXp, eXa, eConsX, eCallX, eCallN, eLstX, eCBX, sDropX, sRetX, sAsgX, sRaise, sRaiseF, List.set_cons_zero, List.set_cons_succ, List.getElem?_cons_zero, List.getElem?_cons_succ, truD_bl, cListO, triD, lkQ_tup])
    intro q hq
    refine hW7 _ _ ?_
    have qa : q ≠ a := fun e => by rw [e, gput_same] at hq; cases hq
    rw [gput_ne qa] at hq
    obtain ⟨v, hv, v1, v2⟩ : ∃ v : Int, atI [D.int one.1, D.int one.2.1, D.int one.2.2] pl = some (D.int v) ∧ -1000000000000000 ≤ v ∧ v ≤ 1000000000000000 := by
      have : pl = 0 ∨ pl = 1 ∨ pl = 2 := by omega
      rcases this with rfl | rfl | rfl
      · exact ⟨one.1, rfl, by omega, by omega⟩
      · exact ⟨one.2.1, rfl, by omega, by omega⟩
      · exact ⟨one.2.2, rfl, by omega, by omega⟩
    refine seq_gen fun W8 hW8 => ?_
    (try dsimp only [sAsg, sIf, sRet, sRetN, sDrop, sNext, asg, setAll, eT, eOp, eUn, eLst, eTup, eCons, eNil, eVar, eC, eCall, eCB, eNot, eAnd, eOr, eTru, eAndT, eOrT, eNotT, eIf, ePart, eNoPart, eYes, eChain, eChain3, oI, oI0, oLt, oLe, oGt, oGe, oNeg, oSub, oMod, oMul, oDivW, eXp, eXa, eConsX, eCallX, eCallN, eLstX, eCBX, sDropX, sRetX, sAsgX, sRaise, sRaiseF, List.set_cons_zero, List.set_cons_succ, List.getElem?_cons_zero, List.getElem?_cons_succ, truD_bl, sSetIx]); (try simp only [if_true, Bool.false_eq_true, if_false, decide_true, decide_false, Bool.not_true, Bool.not_false, List.length_cons, List.length_nil, sizeLine_eq, Nat.reduceAdd, Nat.reduceLeDiff, true_and, and_true, pw6, pw10, pw11, pw12, pw13, pw30, pw40, pw60, sSetIx]); (try dsimp only [sAsg, sIf, sRet, sRetN, sDrop, sNext, asg, setAll, eT, eOp, eUn, eLst, eTup, eCons, eNil, eVar, eC, eCall, eCB, eNot, eAnd, eOr, eTru, eAndT, eOrT, eNotT, eIf, ePart, eNoPart, eYes, eChain, eChain3, oI, oI0, oLt, oLe, oGt, oGe, oNeg, oSub, oMod, oMul, oDivW, eXp, eXa, eConsX, eCallX, eCallN, eLstX, eCBX, sDropX, sRetX, sAsgX, sRaise, sRaiseF, List.set_cons_zero, List.set_cons_succ, List.getElem?_cons_zero, List.getElem?_cons_succ, truD_bl, sSetIx])
    refine ixt_0 hv ?_
    refine ⟨a, x, y, z, v, pl, rfl, by rw [gput_ne qa.symm, gput_same], ok, v1, v2, pl0, pl1, fun d x y z ok hd => ?_⟩
    rw [gput_swap qa]
    have e3 : ixN 3 pl = some pl.toNat := by
      have : pl = 0 ∨ pl = 1 ∨ pl = 2 := by omega
      rcases this with rfl | rfl | rfl <;> rfl
    (try dsimp only [sAsg, sIf, sRet, sRetN, sDrop, sNext, asg, setAll, eT, eOp, eUn, eLst, eTup, eCons, eNil, eVar, eC, eCall, eCB, eNot, eAnd, eOr, eTru, eAndT, eOrT, eNotT, eIf, ePart, eNoPart, eYes, eChain, eChain3, oI, oI0, oLt, oLe, oGt, oGe, oNeg, oSub, oMod, oMul, oDivW, eXp, eXa, eConsX, eCallX, eCallN, eLstX, eCBX, sDropX, sRetX, sAsgX, sRaise, sRaiseF, List.set_cons_zero, List.set_cons_succ, List.getElem?_cons_zero, List.getElem?_cons_succ, truD_bl, gput_same, e3]); (try simp only [if_true, Bool.false_eq_true, if_false, decide_true, decide_false, Bool.not_true, Bool.not_false, List.length_cons, List.length_nil, sizeLine_eq, Nat.reduceAdd, Nat.reduceLeDiff, true_and, and_true, pw6, pw10, pw11, pw12, pw13, pw30, pw40, pw60, gput_same, e3]); (try dsimp only [sAsg, sIf, sRet, sRetN, sDrop, sNext, asg, setAll, eT, eOp, eUn, eLst, eTup, eCons, eNil, eVar, eC, eCall, eCB, eNot, eAnd, eOr, eTru, eAndT, eOrT, eNotT, eIf, ePart, eNoPart, eYes, eChain, eChain3, oI, oI0, oLt, oLe, oGt, oGe, oNeg, oSub, oMod, oMul, oDivW, eXp, eXa, eConsX, eCallX, eCallN, eLstX, eCBX, sDropX, sRetX, sAsgX, sRaise, sRaiseF, List.set_cons_zero, List.set_cons_succ, List.getElem?_cons_zero, List.getElem?_cons_succ, truD_bl, gput_same, e3])
    refine hW8 _ _ ?_
    rw [gput_gput]
    generalize hP : ([D.int one.1, .int one.2.1, .int one.2.2] : List D).set pl.toNat d = P
    have hPl : P.length = 3 := by rw [← hP]; simp
    have hPT : ∀ e ∈ P, Thg 1 1000 e := fun e he => by
      rw [← hP] at he
      rcases List.mem_or_eq_of_mem_set he with he | rfl
      · simp only [List.mem_cons, List.not_mem_nil, or_false] at he
        rcases he with rfl | rfl | rfl
        · exact thg_b (thg_i (by omega) (by omega))
        · exact thg_b (thg_i (by omega) (by omega))
        · exact thg_b (thg_i (by omega) (by omega))
      · exact hd
    have hPt : Thg 2 5000 (.tup P) := (thg_tup (m := 3) hPT (by omega)).mono (by decide) (by decide)
    generalize hG2 : gput (gput G a (stO x y z)) q (.lst P) = G2
    have g2q : G2 q = some (.lst P) := by rw [← hG2, gput_same]
    have g2a : G2 a = some (stO x y z) := by rw [← hG2, gput_ne qa.symm, gput_same]
    refine seq_gen fun W9 hW9 => ?_
    have lq : lkL G2 (.ref q) = some P := by simp [g2q]
    (try dsimp only [sAsg, sIf, sRet, sRetN, sDrop, sNext, asg, setAll, eT, eOp, eUn, eLst, eTup, eCons, eNil, eVar, eC, eCall, eCB, eNot, eAnd, eOr, eTru, eAndT, eOrT, eNotT, eIf, ePart, eNoPart, eYes, eChain, eChain3, oI, oI0, oLt, oLe, oGt, oGe, oNeg, oSub, oMod, oMul, oDivW, eXp, eXa, eConsX, eCallX, eCallN, eLstX, eCBX, sDropX, sRetX, sAsgX, sRaise, sRaiseF, List.set_cons_zero, List.set_cons_succ, List.getElem?_cons_zero, List.getElem?_cons_succ, truD_bl, cTuple, lq, cList, lkQ_tup, oCatT, eSlT]); (try simp only [if_true, Bool.false_eq_true, if_false, decide_true, decide_false, Bool.not_true, Bool.not_false, List.length_cons, List.length_nil, sizeLine_eq, Nat.reduceAdd, Nat.reduceLeDiff, true_and, and_true, pw6, pw10, pw11, pw12, pw13, pw30, pw40, pw60, cTuple, lq, cList, lkQ_tup, oCatT, eSlT]); (try dsimp only [sAsg, sIf, sRet, sRetN, sDrop, sNext, asg, setAll, eT, eOp, eUn, eLst, eTup, eCons, eNil, eVar, eC, eCall, eCB, eNot, eAnd, eOr, eTru, eAndT, eOrT, eNotT, eIf, ePart, eNoPart, eYes, eChain, eChain3, oI, oI0, oLt, oLe, oGt, oGe, oNeg, oSub, oMod, oMul, oDivW, eXp, eXa, eConsX, eCallX, eCallN, eLstX, eCBX, sDropX, sRetX, sAsgX, sRaise, sRaiseF, List.set_cons_zero, List.set_cons_succ, List.getElem?_cons_zero, List.getElem?_cons_succ, truD_bl, cTuple, lq, cList, lkQ_tup, oCatT, eSlT])
    refine ⟨by show ¬ (HT.sIx 3 0 none = 0 ∧ HT.sIx 3 3 (some 2) = 3); decide, ?_⟩
    refine take_ok g2a ok (wd_of (by decide) (by decide)) fun i x y z ok i0 i1 => ?_
    have finS : ∀ d, Thg 4 2500000 d → (fin G Q).rt d (gput G2 a (stO x y z)) := fun d hd => by
      refine fin_stP hG (fun b u e => ?_) (any_plain hd.1) (k d x y z ok hd)
      by_cases hb : b = a
      · rw [hb, gput_same] at e ⊢; exact e
      · rw [gput_ne hb] at e ⊢
        rw [← hG2, gput_ne (fun z => by rw [z, hq] at e; cases e), gput_ne hb]
        exact e
    refine ix_allT (P := Thg 2 5000) (fun d hd => ?_) i0 i1 fun oth hoth => hW9 _ _ ?_
    · simp only [List.mem_cons, List.not_mem_nil, or_false] at hd
      have tI : ∀ e ∈ [D.int one.1, .int one.2.1, .int one.2.2, .int 0], Thg 1 1000 e := fun e he => by
        simp only [List.mem_cons, List.not_mem_nil, or_false] at he
        rcases he with rfl | rfl | rfl | rfl
        · exact thg_b (thg_i (by omega) (by omega))
        · exact thg_b (thg_i (by omega) (by omega))
        · exact thg_b (thg_i (by omega) (by omega))
        · exact thg_b (thg_i (by omega) (by omega))
      rcases hd with rfl | rfl | rfl | rfl | rfl | rfl
      · exact hPt
      · exact hPt
      · exact hPt
      · exact (thg_lst (m := 3) (fun e he => tI e (by simp only [List.mem_cons, List.not_mem_nil, or_false] at he ⊢; rcases he with h | h | h <;> simp [h])) (by simp)).mono (by decide) (by decide)
      · exact (thg_tup (m := 4) (fun e he => tI e (by simpa using he)) (by simp)).mono (by decide) (by decide)
      · exact (thg_tup (m := 3) (fun e he => tI e (by
          have := cut_mem3 he
          simp only [List.mem_cons, List.not_mem_nil, or_false] at this ⊢
          rcases this with h | h | h <;> simp [h])) (cut_len3 _ _ _)).mono (by decide) (by decide)
    have c1' := cut_len3 (L.map triD) none (some (j : Int))
    have c2' := cut_len3 (L.map triD) (some (j : Int)) none
    have c3' := cut_len3 (L.map triD) (some ((j : Int) + 1)) none
    rw [List.length_map] at c1' c2' c3'
    have mm : ∀ {a b : Option Int} {d : D}, d ∈ cutD (L.map triD) a b → Thg 2 5000 d := fun h => hT _ (cut_mem3 h)
    refine seq_gen fun WA hWA => ?_
    (try dsimp only [sAsg, sIf, sRet, sRetN, sDrop, sNext, asg, setAll, eT, eOp, eUn, eLst, eTup, eCons, eNil, eVar, eC, eCall, eCB, eNot, eAnd, eOr, eTru, eAndT, eOrT, eNotT, eIf, ePart, eNoPart, eYes, eChain, eChain3, oI, oI0, oLt, oLe, oGt, oGe, oNeg, oSub, oMod, oMul, oDivW, eXp, eXa, eConsX, eCallX, eCallN, eLstX, eCBX, sDropX, sRetX, sAsgX, sRaise, sRaiseF, List.set_cons_zero, List.set_cons_succ, List.getElem?_cons_zero, List.getElem?_cons_succ, truD_bl]); (try simp only [if_true, Bool.false_eq_true, if_false, decide_true, decide_false, Bool.not_true, Bool.not_false, List.length_cons, List.length_nil, sizeLine_eq, Nat.reduceAdd, Nat.reduceLeDiff, true_and, and_true, pw6, pw10, pw11, pw12, pw13, pw30, pw40, pw60]); (try dsimp only [sAsg, sIf, sRet, sRetN, sDrop, sNext, asg, setAll, eT, eOp, eUn, eLst, eTup, eCons, eNil, eVar, eC, eCall, eCB, eNot, eAnd, eOr, eTru, eAndT, eOrT, eNotT, eIf, ePart, eNoPart, eYes, eChain, eChain3, oI, oI0, oLt, oLe, oGt, oGe, oNeg, oSub, oMod, oMul, oDivW, eXp, eXa, eConsX, eCallX, eCallN, eLstX, eCBX, sDropX, sRetX, sAsgX, sRaise, sRaiseF, List.set_cons_zero, List.set_cons_succ, List.getElem?_cons_zero, List.getElem?_cons_succ, truD_bl])
    refine eq_ii ?_
    by_cases d2 : w = 2
    · rw [decide_eq_true d2]
      (try dsimp only [sAsg, sIf, sRet, sRetN, sDrop, sNext, asg, setAll, eT, eOp, eUn, eLst, eTup, eCons, eNil, eVar, eC, eCall, eCB, eNot, eAnd, eOr, eTru, eAndT, eOrT, eNotT, eIf, ePart, eNoPart, eYes, eChain, eChain3, oI, oI0, oLt, oLe, oGt, oGe, oNeg, oSub, oMod, oMul, oDivW, eXp, eXa, eConsX, eCallX, eCallN, eLstX, eCBX, sDropX, sRetX, sAsgX, sRaise, sRaiseF, List.set_cons_zero, List.set_cons_succ, List.getElem?_cons_zero, List.getElem?_cons_succ, truD_bl, eSlL, lkL_lst]); (try simp only [if_true, Bool.false_eq_true, if_false, decide_true, decide_false, Bool.not_true, Bool.not_false, List.length_cons, List.length_nil, sizeLine_eq, Nat.reduceAdd, Nat.reduceLeDiff, true_and, and_true, pw6, pw10, pw11, pw12, pw13, pw30, pw40, pw60, eSlL, lkL_lst]); (try dsimp only [sAsg, sIf, sRet, sRetN, sDrop, sNext, asg, setAll, eT, eOp, eUn, eLst, eTup, eCons, eNil, eVar, eC, eCall, eCB, eNot, eAnd, eOr, eTru, eAndT, eOrT, eNotT, eIf, ePart, eNoPart, eYes, eChain, eChain3, oI, oI0, oLt, oLe, oGt, oGe, oNeg, oSub, oMod, oMul, oDivW, eXp, eXa, eConsX, eCallX, eCallN, eLstX, eCBX, sDropX, sRetX, sAsgX, sRaise, sRaiseF, List.set_cons_zero, List.set_cons_succ, List.getElem?_cons_zero, List.getElem?_cons_succ, truD_bl, eSlL, lkL_lst])
      refine add_ok (by simp; omega) ?_
      refine add_ok (by simp; omega) ?_
      refine finS _ (thg_L (fun d hd => ?_) (by simp; omega))
      rcases List.mem_append.mp hd with hd | hd
      · rcases List.mem_append.mp hd with hd | hd
        · exact mm hd
        · rw [List.mem_singleton.mp hd]; exact hT1
      · exact mm hd
    rw [decide_eq_false d2]
    (try dsimp only [sAsg, sIf, sRet, sRetN, sDrop, sNext, asg, setAll, eT, eOp, eUn, eLst, eTup, eCons, eNil, eVar, eC, eCall, eCB, eNot, eAnd, eOr, eTru, eAndT, eOrT, eNotT, eIf, ePart, eNoPart, eYes, eChain, eChain3, oI, oI0, oLt, oLe, oGt, oGe, oNeg, oSub, oMod, oMul, oDivW, eXp, eXa, eConsX, eCallX, eCallN, eLstX, eCBX, sDropX, sRetX, sAsgX, sRaise, sRaiseF, List.set_cons_zero, List.set_cons_succ, List.getElem?_cons_zero, List.getElem?_cons_succ, truD_bl]); (try simp only [if_true, Bool.false_eq_true, if_false, decide_true, decide_false, Bool.not_true, Bool.not_false, List.length_cons, List.length_nil, sizeLine_eq, Nat.reduceAdd, Nat.reduceLeDiff, true_and, and_true, pw6, pw10, pw11, pw12, pw13, pw30, pw40, pw60]); (try dsimp only [sAsg, sIf, sRet, sRetN, sDrop, sNext, asg, setAll, eT, eOp, eUn, eLst, eTup, eCons, eNil, eVar, eC, eCall, eCB, eNot, eAnd, eOr, eTru, eAndT, eOrT, eNotT, eIf, ePart, eNoPart, eYes, eChain, eChain3, oI, oI0, oLt, oLe, oGt, oGe, oNeg, oSub, oMod, oMul, oDivW, eXp, eXa, eConsX, eCallX, eCallN, eLstX, eCBX, sDropX, sRetX, sAsgX, sRaise, sRaiseF, List.set_cons_zero, List.set_cons_succ, List.getElem?_cons_zero, List.getElem?_cons_succ, truD_bl])
    refine hWA _ _ ?_
    refine seq_gen fun WB hWB => ?_
    (try dsimp only [sAsg, sIf, sRet, sRetN, sDrop, sNext, asg, setAll, eT, eOp, eUn, eLst, eTup, eCons, eNil, eVar, eC, eCall, eCB, eNot, eAnd, eOr, eTru, eAndT, eOrT, eNotT, eIf, ePart, eNoPart, eYes, eChain, eChain3, oI, oI0, oLt, oLe, oGt, oGe, oNeg, oSub, oMod, oMul, oDivW, eXp, eXa, eConsX, eCallX, eCallN, eLstX, eCBX, sDropX, sRetX, sAsgX, sRaise, sRaiseF, List.set_cons_zero, List.set_cons_succ, List.getElem?_cons_zero, List.getElem?_cons_succ, truD_bl]); (try simp only [if_true, Bool.false_eq_true, if_false, decide_true, decide_false, Bool.not_true, Bool.not_false, List.length_cons, List.length_nil, sizeLine_eq, Nat.reduceAdd, Nat.reduceLeDiff, true_and, and_true, pw6, pw10, pw11, pw12, pw13, pw30, pw40, pw60]); (try dsimp only [sAsg, sIf, sRet, sRetN, sDrop, sNext, asg, setAll, eT, eOp, eUn, eLst, eTup, eCons, eNil, eVar, eC, eCall, eCB, eNot, eAnd, eOr, eTru, eAndT, eOrT, eNotT, eIf, ePart, eNoPart, eYes, eChain, eChain3, oI, oI0, oLt, oLe, oGt, oGe, oNeg, oSub, oMod, oMul, oDivW, eXp, eXa, eConsX, eCallX, eCallN, eLstX, eCBX, sDropX, sRetX, sAsgX, sRaise, sRaiseF, List.set_cons_zero, List.set_cons_succ, List.getElem?_cons_zero, List.getElem?_cons_succ, truD_bl])
    refine eq_ii ?_
    by_cases d3 : w = 3
    · rw [decide_eq_true d3]
      (try dsimp only [sAsg, sIf, sRet, sRetN, sDrop, sNext, asg, setAll, eT, eOp, eUn, eLst, eTup, eCons, eNil, eVar, eC, eCall, eCB, eNot, eAnd, eOr, eTru, eAndT, eOrT, eNotT, eIf, ePart, eNoPart, eYes, eChain, eChain3, oI, oI0, oLt, oLe, oGt, oGe, oNeg, oSub, oMod, oMul, oDivW, eXp, eXa, eConsX, eCallX, eCallN, eLstX, eCBX, sDropX, sRetX, sAsgX, sRaise, sRaiseF, List.set_cons_zero, List.set_cons_succ, List.getElem?_cons_zero, List.getElem?_cons_succ, truD_bl, eSlL, lkL_lst]); (try simp only [if_true, Bool.false_eq_true, if_false, decide_true, decide_false, Bool.not_true, Bool.not_false, List.length_cons, List.length_nil, sizeLine_eq, Nat.reduceAdd, Nat.reduceLeDiff, true_and, and_true, pw6, pw10, pw11, pw12, pw13, pw30, pw40, pw60, eSlL, lkL_lst]); (try dsimp only [sAsg, sIf, sRet, sRetN, sDrop, sNext, asg, setAll, eT, eOp, eUn, eLst, eTup, eCons, eNil, eVar, eC, eCall, eCB, eNot, eAnd, eOr, eTru, eAndT, eOrT, eNotT, eIf, ePart, eNoPart, eYes, eChain, eChain3, oI, oI0, oLt, oLe, oGt, oGe, oNeg, oSub, oMod, oMul, oDivW, eXp, eXa, eConsX, eCallX, eCallN, eLstX, eCBX, sDropX, sRetX, sAsgX, sRaise, sRaiseF, List.set_cons_zero, List.set_cons_succ, List.getElem?_cons_zero, List.getElem?_cons_succ, truD_bl, eSlL, lkL_lst])
      refine add_ii ?_
      (try dsimp only [sAsg, sIf, sRet, sRetN, sDrop, sNext, asg, setAll, eT, eOp, eUn, eLst, eTup, eCons, eNil, eVar, eC, eCall, eCB, eNot, eAnd, eOr, eTru, eAndT, eOrT, eNotT, eIf, ePart, eNoPart, eYes, eChain, eChain3, oI, oI0, oLt, oLe, oGt, oGe, oNeg, oSub, oMod, oMul, oDivW, eXp, eXa, eConsX, eCallX, eCallN, eLstX, eCBX, sDropX, sRetX, sAsgX, sRaise, sRaiseF, List.set_cons_zero, List.set_cons_succ, List.getElem?_cons_zero, List.getElem?_cons_succ, truD_bl, lkL_lst]); (try simp only [if_true, Bool.false_eq_true, if_false, decide_true, decide_false, Bool.not_true, Bool.not_false, List.length_cons, List.length_nil, sizeLine_eq, Nat.reduceAdd, Nat.reduceLeDiff, true_and, and_true, pw6, pw10, pw11, pw12, pw13, pw30, pw40, pw60, lkL_lst]); (try dsimp only [sAsg, sIf, sRet, sRetN, sDrop, sNext, asg, setAll, eT, eOp, eUn, eLst, eTup, eCons, eNil, eVar, eC, eCall, eCB, eNot, eAnd, eOr, eTru, eAndT, eOrT, eNotT, eIf, ePart, eNoPart, eYes, eChain, eChain3, oI, oI0, oLt, oLe, oGt, oGe, oNeg, oSub, oMod, oMul, oDivW, eXp, eXa, eConsX, eCallX, eCallN, eLstX, eCBX, sDropX, sRetX, sAsgX, sRaise, sRaiseF, List.set_cons_zero, List.set_cons_succ, List.getElem?_cons_zero, List.getElem?_cons_succ, truD_bl, lkL_lst])
      refine add_ok (by omega) ?_
      refine add_ok (by simp; omega) ?_
      refine finS _ (thg_L (fun d hd => ?_) (by simp; omega))
      rcases List.mem_append.mp hd with hd | hd
      · rcases List.mem_append.mp hd with hd | hd
        · exact mm hd
        · exact mm hd
      · rw [List.mem_singleton.mp hd]; exact hT1
    rw [decide_eq_false d3]
    (try dsimp only [sAsg, sIf, sRet, sRetN, sDrop, sNext, asg, setAll, eT, eOp, eUn, eLst, eTup, eCons, eNil, eVar, eC, eCall, eCB, eNot, eAnd, eOr, eTru, eAndT, eOrT, eNotT, eIf, ePart, eNoPart, eYes, eChain, eChain3, oI, oI0, oLt, oLe, oGt, oGe, oNeg, oSub, oMod, oMul, oDivW, eXp, eXa, eConsX, eCallX, eCallN, eLstX, eCBX, sDropX, sRetX, sAsgX, sRaise, sRaiseF, List.set_cons_zero, List.set_cons_succ, List.getElem?_cons_zero, List.getElem?_cons_succ, truD_bl]); (try simp only [if_true, Bool.false_eq_true, if_false, decide_true, decide_false, Bool.not_true, Bool.not_false, List.length_cons, List.length_nil, sizeLine_eq, Nat.reduceAdd, Nat.reduceLeDiff, true_and, and_true, pw6, pw10, pw11, pw12, pw13, pw30, pw40, pw60]); (try dsimp only [sAsg, sIf, sRet, sRetN, sDrop, sNext, asg, setAll, eT, eOp, eUn, eLst, eTup, eCons, eNil, eVar, eC, eCall, eCB, eNot, eAnd, eOr, eTru, eAndT, eOrT, eNotT, eIf, ePart, eNoPart, eYes, eChain, eChain3, oI, oI0, oLt, oLe, oGt, oGe, oNeg, oSub, oMod, oMul, oDivW, eXp, eXa, eConsX, eCallX, eCallN, eLstX, eCBX, sDropX, sRetX, sAsgX, sRaise, sRaiseF, List.set_cons_zero, List.set_cons_succ, List.getElem?_cons_zero, List.getElem?_cons_succ, truD_bl])
    refine hWB _ _ ?_
    (try dsimp only [sAsg, sIf, sRet, sRetN, sDrop, sNext, asg, setAll, eT, eOp, eUn, eLst, eTup, eCons, eNil, eVar, eC, eCall, eCB, eNot, eAnd, eOr, eTru, eAndT, eOrT, eNotT, eIf, ePart, eNoPart, eYes, eChain, eChain3, oI, oI0, oLt, oLe, oGt, oGe, oNeg, oSub, oMod, oMul, oDivW, eXp, eXa, eConsX, eCallX, eCallN, eLstX, eCBX, sDropX, sRetX, sAsgX, sRaise, sRaiseF, List.set_cons_zero, List.set_cons_succ, List.getElem?_cons_zero, List.getElem?_cons_succ, truD_bl, eSlL, lkL_lst]); (try simp only [if_true, Bool.false_eq_true, if_false, decide_true, decide_false, Bool.not_true, Bool.not_false, List.length_cons, List.length_nil, sizeLine_eq, Nat.reduceAdd, Nat.reduceLeDiff, true_and, and_true, pw6, pw10, pw11, pw12, pw13, pw30, pw40, pw60, eSlL, lkL_lst]); (try dsimp only [sAsg, sIf, sRet, sRetN, sDrop, sNext, asg, setAll, eT, eOp, eUn, eLst, eTup, eCons, eNil, eVar, eC, eCall, eCB, eNot, eAnd, eOr, eTru, eAndT, eOrT, eNotT, eIf, ePart, eNoPart, eYes, eChain, eChain3, oI, oI0, oLt, oLe, oGt, oGe, oNeg, oSub, oMod, oMul, oDivW, eXp, eXa, eConsX, eCallX, eCallN, eLstX, eCBX, sDropX, sRetX, sAsgX, sRaise, sRaiseF, List.set_cons_zero, List.set_cons_succ, List.getElem?_cons_zero, List.getElem?_cons_succ, truD_bl, eSlL, lkL_lst])
    refine add_ok (by simp; omega) ?_
    refine add_ii ?_
    (try dsimp only [sAsg, sIf, sRet, sRetN, sDrop, sNext, asg, setAll, eT, eOp, eUn, eLst, eTup, eCons, eNil, eVar, eC, eCall, eCB, eNot, eAnd, eOr, eTru, eAndT, eOrT, eNotT, eIf, ePart, eNoPart, eYes, eChain, eChain3, oI, oI0, oLt, oLe, oGt, oGe, oNeg, oSub, oMod, oMul, oDivW, eXp, eXa, eConsX, eCallX, eCallN, eLstX, eCBX, sDropX, sRetX, sAsgX, sRaise, sRaiseF, List.set_cons_zero, List.set_cons_succ, List.getElem?_cons_zero, List.getElem?_cons_succ, truD_bl, lkL_lst]); (try simp only [if_true, Bool.false_eq_true, if_false, decide_true, decide_false, Bool.not_true, Bool.not_false, List.length_cons, List.length_nil, sizeLine_eq, Nat.reduceAdd, Nat.reduceLeDiff, true_and, and_true, pw6, pw10, pw11, pw12, pw13, pw30, pw40, pw60, lkL_lst]); (try dsimp only [sAsg, sIf, sRet, sRetN, sDrop, sNext, asg, setAll, eT, eOp, eUn, eLst, eTup, eCons, eNil, eVar, eC, eCall, eCB, eNot, eAnd, eOr, eTru, eAndT, eOrT, eNotT, eIf, ePart, eNoPart, eYes, eChain, eChain3, oI, oI0, oLt, oLe, oGt, oGe, oNeg, oSub, oMod, oMul, oDivW, eXp, eXa, eConsX, eCallX, eCallN, eLstX, eCBX, sDropX, sRetX, sAsgX, sRaise, sRaiseF, List.set_cons_zero, List.set_cons_succ, List.getElem?_cons_zero, List.getElem?_cons_succ, truD_bl, lkL_lst])
    refine add_ok (by simp; omega) ?_
    refine finS _ (thg_L (fun d hd => ?_) (by simp; omega))
    rcases List.mem_append.mp hd with hd | hd
    · rcases List.mem_append.mp hd with hd | hd
      · exact mm hd
      · rw [List.mem_singleton.mp hd]; exact hoth
    · exact mm hd
theorem reprX_thg {k n : Nat} {d : D} (h : Thg k n d) (hk : k ≤ 40) (hn : n ≤ 16000000) : ∃ z : Str, Asc z ∧ ∀ (G : Gp) (Q : DK), Q (.str z) G → cReprX [d] G Q := by
  obtain ⟨ha, q, e, g1, g2, g3, g4⟩ := h
  refine ⟨q.shown, g3, fun G Q k => ?_⟩
  show (match toPx G d with
    | some p => p.showable = true ∧ p.depth ≤ 40 ∧ p.shown.length ≤ sizeLine ∧ Q (.str p.shown) G
    | none => False)
  rw [e]
  exact ⟨g1, by omega, Nat.le_trans g4 (Nat.le_trans hn line_ge), k⟩
theorem d_law (ds : List D) (G : Gp) (Q : DK) (h : lawF 63 ds G Q) : r_law (fin G Q) (startD 10 ds) G := by
  obtain ⟨ns, rfl, hl, rfl, k⟩ := h
  have kb : kitB "bool" "bool" = some true := by decide +kernel
  refine seq_gen fun W hW => ?_
  (try dsimp only [sAsg, sIf, sRet, sRetN, sDrop, sNext, asg, setAll, eT, eOp, eUn, eLst, eTup, eCons, eNil, eVar, eC, eCall, eCB, eNot, eAnd, eOr, eTru, eAndT, eOrT, eNotT, eIf, ePart, eNoPart, eYes, eChain, eChain3, oI, oI0, oLt, oLe, oGt, oGe, oNeg, oSub, oMod, oMul, oDivW, eXp, eXa, eConsX, eCallX, eCallN, eLstX, eCBX, sDropX, sRetX, sAsgX, sRaise, sRaiseF, List.set_cons_zero, List.set_cons_succ, List.getElem?_cons_zero, List.getElem?_cons_succ, truD_bl, startD, List.map_cons, List.map_nil, List.cons_append, List.nil_append, List.replicate, sFor, iR1, cLen, cMin2, oAdd]); (try simp only [if_true, Bool.false_eq_true, if_false, decide_true, decide_false, Bool.not_true, Bool.not_false, List.length_cons, List.length_nil, sizeLine_eq, Nat.reduceAdd, Nat.reduceLeDiff, true_and, and_true, pw6, pw10, pw11, pw12, pw13, pw30, pw40, pw60, startD, List.map_cons, List.map_nil, List.cons_append, List.nil_append, List.replicate, sFor, iR1, cLen, cMin2, oAdd]); (try dsimp only [sAsg, sIf, sRet, sRetN, sDrop, sNext, asg, setAll, eT, eOp, eUn, eLst, eTup, eCons, eNil, eVar, eC, eCall, eCB, eNot, eAnd, eOr, eTru, eAndT, eOrT, eNotT, eIf, ePart, eNoPart, eYes, eChain, eChain3, oI, oI0, oLt, oLe, oGt, oGe, oNeg, oSub, oMod, oMul, oDivW, eXp, eXa, eConsX, eCallX, eCallN, eLstX, eCBX, sDropX, sRetX, sAsgX, sRaise, sRaiseF, List.set_cons_zero, List.set_cons_succ, List.getElem?_cons_zero, List.getElem?_cons_succ, truD_bl, startD, List.map_cons, List.map_nil, List.cons_append, List.nil_append, List.replicate, sFor, iR1, cLen, cMin2, oAdd])
  obtain ⟨m, em, hm⟩ : ∃ m : Nat, (if (12 : Int) < (ns.length : Int) then (12 : Int) else (ns.length : Int)) = (m : Int) ∧ m ≤ 12 := by
    by_cases c : (12 : Int) < (ns.length : Int)
    · exact ⟨12, by rw [if_pos c]; rfl, by decide⟩
    · exact ⟨ns.length, by rw [if_neg c], by omega⟩
  have el : lkQ (fun _ => none) (.scr ns) = some (ns.map D.int) := by simp
  simp only [el, List.length_map, em]
  refine ⟨by omega, by omega, ?_⟩
  rw [show ((m : Int) + 1).toNat = m + 1 by omega]
  refine law_loop (m := 0) (fun s G => ∃ o1 o2 o3 o4 o5 o6 o7 o8, s = [some (.scr ns), o1, o2, o3, o4, o5, o6, o7, o8, none]) ?_ (by omega) ⟨_, _, _, _, _, _, _, _, rfl⟩ ?_
  · intro i h0 h1 s G W2 hI hW2
    obtain ⟨o1, o2, o3, o4, o5, o6, o7, o8, rfl⟩ := hI
    (try dsimp only [sAsg, sIf, sRet, sRetN, sDrop, sNext, asg, setAll, eT, eOp, eUn, eLst, eTup, eCons, eNil, eVar, eC, eCall, eCB, eNot, eAnd, eOr, eTru, eAndT, eOrT, eNotT, eIf, ePart, eNoPart, eYes, eChain, eChain3, oI, oI0, oLt, oLe, oGt, oGe, oNeg, oSub, oMod, oMul, oDivW, eXp, eXa, eConsX, eCallX, eCallN, eLstX, eCBX, sDropX, sRetX, sAsgX, sRaise, sRaiseF, List.set_cons_zero, List.set_cons_succ, List.getElem?_cons_zero, List.getElem?_cons_succ, truD_bl]); (try simp only [if_true, Bool.false_eq_true, if_false, decide_true, decide_false, Bool.not_true, Bool.not_false, List.length_cons, List.length_nil, sizeLine_eq, Nat.reduceAdd, Nat.reduceLeDiff, true_and, and_true, pw6, pw10, pw11, pw12, pw13, pw30, pw40, pw60]); (try dsimp only [sAsg, sIf, sRet, sRetN, sDrop, sNext, asg, setAll, eT, eOp, eUn, eLst, eTup, eCons, eNil, eVar, eC, eCall, eCB, eNot, eAnd, eOr, eTru, eAndT, eOrT, eNotT, eIf, ePart, eNoPart, eYes, eChain, eChain3, oI, oI0, oLt, oLe, oGt, oGe, oNeg, oSub, oMod, oMul, oDivW, eXp, eXa, eConsX, eCallX, eCallN, eLstX, eCBX, sDropX, sRetX, sAsgX, sRaise, sRaiseF, List.set_cons_zero, List.set_cons_succ, List.getElem?_cons_zero, List.getElem?_cons_succ, truD_bl])
    unfold r_law_L2
    refine seq_gen fun W3 hW3 => ?_
    (try dsimp only [sAsg, sIf, sRet, sRetN, sDrop, sNext, asg, setAll, eT, eOp, eUn, eLst, eTup, eCons, eNil, eVar, eC, eCall, eCB, eNot, eAnd, eOr, eTru, eAndT, eOrT, eNotT, eIf, ePart, eNoPart, eYes, eChain, eChain3, oI, oI0, oLt, oLe, oGt, oGe, oNeg, oSub, oMod, oMul, oDivW, eXp, eXa, eConsX, eCallX, eCallN, eLstX, eCBX, sDropX, sRetX, sAsgX, sRaise, sRaiseF, List.set_cons_zero, List.set_cons_succ, List.getElem?_cons_zero, List.getElem?_cons_succ, truD_bl]); (try simp only [if_true, Bool.false_eq_true, if_false, decide_true, decide_false, Bool.not_true, Bool.not_false, List.length_cons, List.length_nil, sizeLine_eq, Nat.reduceAdd, Nat.reduceLeDiff, true_and, and_true, pw6, pw10, pw11, pw12, pw13, pw30, pw40, pw60]); (try dsimp only [sAsg, sIf, sRet, sRetN, sDrop, sNext, asg, setAll, eT, eOp, eUn, eLst, eTup, eCons, eNil, eVar, eC, eCall, eCB, eNot, eAnd, eOr, eTru, eAndT, eOrT, eNotT, eIf, ePart, eNoPart, eYes, eChain, eChain3, oI, oI0, oLt, oLe, oGt, oGe, oNeg, oSub, oMod, oMul, oDivW, eXp, eXa, eConsX, eCallX, eCallN, eLstX, eCBX, sDropX, sRetX, sAsgX, sRaise, sRaiseF, List.set_cons_zero, List.set_cons_succ, List.getElem?_cons_zero, List.getElem?_cons_succ, truD_bl])
    refine ⟨ns, i, rfl, h0, by omega, fun p x y z hp ok => hW3 _ _ ?_⟩
    refine seq_gen fun W4 hW4 => ?_
    (try dsimp only [sAsg, sIf, sRet, sRetN, sDrop, sNext, asg, setAll, eT, eOp, eUn, eLst, eTup, eCons, eNil, eVar, eC, eCall, eCB, eNot, eAnd, eOr, eTru, eAndT, eOrT, eNotT, eIf, ePart, eNoPart, eYes, eChain, eChain3, oI, oI0, oLt, oLe, oGt, oGe, oNeg, oSub, oMod, oMul, oDivW, eXp, eXa, eConsX, eCallX, eCallN, eLstX, eCBX, sDropX, sRetX, sAsgX, sRaise, sRaiseF, List.set_cons_zero, List.set_cons_succ, List.getElem?_cons_zero, List.getElem?_cons_succ, truD_bl]); (try simp only [if_true, Bool.false_eq_true, if_false, decide_true, decide_false, Bool.not_true, Bool.not_false, List.length_cons, List.length_nil, sizeLine_eq, Nat.reduceAdd, Nat.reduceLeDiff, true_and, and_true, pw6, pw10, pw11, pw12, pw13, pw30, pw40, pw60]); (try dsimp only [sAsg, sIf, sRet, sRetN, sDrop, sNext, asg, setAll, eT, eOp, eUn, eLst, eTup, eCons, eNil, eVar, eC, eCall, eCB, eNot, eAnd, eOr, eTru, eAndT, eOrT, eNotT, eIf, ePart, eNoPart, eYes, eChain, eChain3, oI, oI0, oLt, oLe, oGt, oGe, oNeg, oSub, oMod, oMul, oDivW, eXp, eXa, eConsX, eCallX, eCallN, eLstX, eCBX, sDropX, sRetX, sAsgX, sRaise, sRaiseF, List.set_cons_zero, List.set_cons_succ, List.getElem?_cons_zero, List.getElem?_cons_succ, truD_bl])
    refine ⟨p, 5, x, y, z, rfl, gput_same, ok, by decide, by decide, fun bk x y z ok hb l5 => hW4 _ _ ?_⟩
    rw [gput_gput]
    refine seq_gen fun W5 hW5 => ?_
    (try dsimp only [sAsg, sIf, sRet, sRetN, sDrop, sNext, asg, setAll, eT, eOp, eUn, eLst, eTup, eCons, eNil, eVar, eC, eCall, eCB, eNot, eAnd, eOr, eTru, eAndT, eOrT, eNotT, eIf, ePart, eNoPart, eYes, eChain, eChain3, oI, oI0, oLt, oLe, oGt, oGe, oNeg, oSub, oMod, oMul, oDivW, eXp, eXa, eConsX, eCallX, eCallN, eLstX, eCBX, sDropX, sRetX, sAsgX, sRaise, sRaiseF, List.set_cons_zero, List.set_cons_succ, List.getElem?_cons_zero, List.getElem?_cons_succ, truD_bl]); (try simp only [if_true, Bool.false_eq_true, if_false, decide_true, decide_false, Bool.not_true, Bool.not_false, List.length_cons, List.length_nil, sizeLine_eq, Nat.reduceAdd, Nat.reduceLeDiff, true_and, and_true, pw6, pw10, pw11, pw12, pw13, pw30, pw40, pw60]); (try dsimp only [sAsg, sIf, sRet, sRetN, sDrop, sNext, asg, setAll, eT, eOp, eUn, eLst, eTup, eCons, eNil, eVar, eC, eCall, eCB, eNot, eAnd, eOr, eTru, eAndT, eOrT, eNotT, eIf, ePart, eNoPart, eYes, eChain, eChain3, oI, oI0, oLt, oLe, oGt, oGe, oNeg, oSub, oMod, oMul, oDivW, eXp, eXa, eConsX, eCallX, eCallN, eLstX, eCBX, sDropX, sRetX, sAsgX, sRaise, sRaiseF, List.set_cons_zero, List.set_cons_succ, List.getElem?_cons_zero, List.getElem?_cons_succ, truD_bl])
    refine ⟨p, x, y, z, bk, 4, 9, rfl, gput_same, ok, hb, by decide, by decide, by decide, by decide, fun L0 x y z ok l9 hT => hW5 _ _ ?_⟩
    rw [gput_gput]
    refine seq_gen fun W6 hW6 => ?_
    have rest : ∀ (L : List Tri) (o5 : Option D) x y z, Ok3 x y z → L.length ≤ 200 → (∀ x ∈ L, (-1000000000000000 ≤ x.1 ∧ x.1 ≤ 1000000000000000) ∧ (-1000000000000000 ≤ x.2.1 ∧ x.2.1 ≤ 1000000000000000) ∧ -1000000000000000 ≤ x.2.2 ∧ x.2.2 ≤ 1000000000000000) →
        W6 [some (.scr ns), some (.int i), some (.ref p), some (.lst (bk.map Stretch.d)), some (.lst (L.map triD)), o5, o6, o7, o8, none] (gput G p (stO x y z)) := by
      intro L o5 x y z ok hl hb
      refine hW6 _ _ ?_
      (try dsimp only [sAsg, sIf, sRet, sRetN, sDrop, sNext, asg, setAll, eT, eOp, eUn, eLst, eTup, eCons, eNil, eVar, eC, eCall, eCB, eNot, eAnd, eOr, eTru, eAndT, eOrT, eNotT, eIf, ePart, eNoPart, eYes, eChain, eChain3, oI, oI0, oLt, oLe, oGt, oGe, oNeg, oSub, oMod, oMul, oDivW, eXp, eXa, eConsX, eCallX, eCallN, eLstX, eCBX, sDropX, sRetX, sAsgX, sRaise, sRaiseF, List.set_cons_zero, List.set_cons_succ, List.getElem?_cons_zero, List.getElem?_cons_succ, truD_bl, sFor, iL]); (try simp only [if_true, Bool.false_eq_true, if_false, decide_true, decide_false, Bool.not_true, Bool.not_false, List.length_cons, List.length_nil, sizeLine_eq, Nat.reduceAdd, Nat.reduceLeDiff, true_and, and_true, pw6, pw10, pw11, pw12, pw13, pw30, pw40, pw60, sFor, iL]); (try dsimp only [sAsg, sIf, sRet, sRetN, sDrop, sNext, asg, setAll, eT, eOp, eUn, eLst, eTup, eCons, eNil, eVar, eC, eCall, eCB, eNot, eAnd, eOr, eTru, eAndT, eOrT, eNotT, eIf, ePart, eNoPart, eYes, eChain, eChain3, oI, oI0, oLt, oLe, oGt, oGe, oNeg, oSub, oMod, oMul, oDivW, eXp, eXa, eConsX, eCallX, eCallN, eLstX, eCBX, sDropX, sRetX, sAsgX, sRaise, sRaiseF, List.set_cons_zero, List.set_cons_succ, List.getElem?_cons_zero, List.getElem?_cons_succ, truD_bl, sFor, iL])
      refine ⟨p, x, y, z, L, rfl, gput_same, ok, hl, hb, fun d x y z ok hd => ?_⟩
      rw [gput_gput]
      have hT : ∀ d ∈ L.map triD, Thg 2 5000 d := fun d hd => by
        obtain ⟨x, hx, rfl⟩ := List.mem_map.mp hd
        exact thg_tri (hb x hx)
      have hL : Thg 4 2500000 (.lst (L.map triD)) := thg_L hT (by rw [List.length_map]; omega)
      simp only [lkL_lst]
      refine forW_all (fun s G' => ∃ o6 o7 o8, s = [some (.scr ns), some (.int i), some (.ref p), some (.lst (bk.map Stretch.d)), some (.lst (L.map triD)), o5, o6, o7, o8, none]) (fun _ _ _ => stays_of lkL_lst) _ _ _ ?_ ⟨_, _, _, rfl⟩ ?_
      · rintro e he s G' W ⟨o6, o7, o8, rfl⟩ hW'
        have he : Thg 4 2500000 e := by
          simp only [List.mem_cons, List.not_mem_nil, or_false] at he
          rcases he with rfl | rfl
          · exact hL
          · exact hd
        obtain ⟨zz, az, hz⟩ := reprX_thg he (by decide) (by decide)
        (try dsimp only [sAsg, sIf, sRet, sRetN, sDrop, sNext, asg, setAll, eT, eOp, eUn, eLst, eTup, eCons, eNil, eVar, eC, eCall, eCB, eNot, eAnd, eOr, eTru, eAndT, eOrT, eNotT, eIf, ePart, eNoPart, eYes, eChain, eChain3, oI, oI0, oLt, oLe, oGt, oGe, oNeg, oSub, oMod, oMul, oDivW, eXp, eXa, eConsX, eCallX, eCallN, eLstX, eCBX, sDropX, sRetX, sAsgX, sRaise, sRaiseF, List.set_cons_zero, List.set_cons_succ, List.getElem?_cons_zero, List.getElem?_cons_succ, truD_bl]); (try simp only [if_true, Bool.false_eq_true, if_false, decide_true, decide_false, Bool.not_true, Bool.not_false, List.length_cons, List.length_nil, sizeLine_eq, Nat.reduceAdd, Nat.reduceLeDiff, true_and, and_true, pw6, pw10, pw11, pw12, pw13, pw30, pw40, pw60]); (try dsimp only [sAsg, sIf, sRet, sRetN, sDrop, sNext, asg, setAll, eT, eOp, eUn, eLst, eTup, eCons, eNil, eVar, eC, eCall, eCB, eNot, eAnd, eOr, eTru, eAndT, eOrT, eNotT, eIf, ePart, eNoPart, eYes, eChain, eChain3, oI, oI0, oLt, oLe, oGt, oGe, oNeg, oSub, oMod, oMul, oDivW, eXp, eXa, eConsX, eCallX, eCallN, eLstX, eCBX, sDropX, sRetX, sAsgX, sRaise, sRaiseF, List.set_cons_zero, List.set_cons_succ, List.getElem?_cons_zero, List.getElem?_cons_succ, truD_bl])
        unfold r_law_L1
        refine seq_gen fun W7 hW7 => ?_
        (try dsimp only [sAsg, sIf, sRet, sRetN, sDrop, sNext, asg, setAll, eT, eOp, eUn, eLst, eTup, eCons, eNil, eVar, eC, eCall, eCB, eNot, eAnd, eOr, eTru, eAndT, eOrT, eNotT, eIf, ePart, eNoPart, eYes, eChain, eChain3, oI, oI0, oLt, oLe, oGt, oGe, oNeg, oSub, oMod, oMul, oDivW, eXp, eXa, eConsX, eCallX, eCallN, eLstX, eCBX, sDropX, sRetX, sAsgX, sRaise, sRaiseF, List.set_cons_zero, List.set_cons_succ, List.getElem?_cons_zero, List.getElem?_cons_succ, truD_bl]); (try simp only [if_true, Bool.false_eq_true, if_false, decide_true, decide_false, Bool.not_true, Bool.not_false, List.length_cons, List.length_nil, sizeLine_eq, Nat.reduceAdd, Nat.reduceLeDiff, true_and, and_true, pw6, pw10, pw11, pw12, pw13, pw30, pw40, pw60]); (try dsimp only [sAsg, sIf, sRet, sRetN, sDrop, sNext, asg, setAll, eT, eOp, eUn, eLst, eTup, eCons, eNil, eVar, eC, eCall, eCB, eNot, eAnd, eOr, eTru, eAndT, eOrT, eNotT, eIf, ePart, eNoPart, eYes, eChain, eChain3, oI, oI0, oLt, oLe, oGt, oGe, oNeg, oSub, oMod, oMul, oDivW, eXp, eXa, eConsX, eCallX, eCallN, eLstX, eCBX, sDropX, sRetX, sAsgX, sRaise, sRaiseF, List.set_cons_zero, List.set_cons_succ, List.getElem?_cons_zero, List.getElem?_cons_succ, truD_bl])
        refine hz _ _ (hW7 _ _ ?_)
        refine seq_gen fun W8 hW8 => ?_
        (try dsimp only [sAsg, sIf, sRet, sRetN, sDrop, sNext, asg, setAll, eT, eOp, eUn, eLst, eTup, eCons, eNil, eVar, eC, eCall, eCB, eNot, eAnd, eOr, eTru, eAndT, eOrT, eNotT, eIf, ePart, eNoPart, eYes, eChain, eChain3, oI, oI0, oLt, oLe, oGt, oGe, oNeg, oSub, oMod, oMul, oDivW, eXp, eXa, eConsX, eCallX, eCallN, eLstX, eCBX, sDropX, sRetX, sAsgX, sRaise, sRaiseF, List.set_cons_zero, List.set_cons_succ, List.getElem?_cons_zero, List.getElem?_cons_succ, truD_bl]); (try simp only [if_true, Bool.false_eq_true, if_false, decide_true, decide_false, Bool.not_true, Bool.not_false, List.length_cons, List.length_nil, sizeLine_eq, Nat.reduceAdd, Nat.reduceLeDiff, true_and, and_true, pw6, pw10, pw11, pw12, pw13, pw30, pw40, pw60]); (try dsimp only [sAsg, sIf, sRet, sRetN, sDrop, sNext, asg, setAll, eT, eOp, eUn, eLst, eTup, eCons, eNil, eVar, eC, eCall, eCB, eNot, eAnd, eOr, eTru, eAndT, eOrT, eNotT, eIf, ePart, eNoPart, eYes, eChain, eChain3, oI, oI0, oLt, oLe, oGt, oGe, oNeg, oSub, oMod, oMul, oDivW, eXp, eXa, eConsX, eCallX, eCallN, eLstX, eCBX, sDropX, sRetX, sAsgX, sRaise, sRaiseF, List.set_cons_zero, List.set_cons_succ, List.getElem?_cons_zero, List.getElem?_cons_succ, truD_bl])
        refine ⟨e, rfl, he.1, fun b hb => hW8 _ _ ?_⟩
        (try dsimp only [sAsg, sIf, sRet, sRetN, sDrop, sNext, asg, setAll, eT, eOp, eUn, eLst, eTup, eCons, eNil, eVar, eC, eCall, eCB, eNot, eAnd, eOr, eTru, eAndT, eOrT, eNotT, eIf, ePart, eNoPart, eYes, eChain, eChain3, oI, oI0, oLt, oLe, oGt, oGe, oNeg, oSub, oMod, oMul, oDivW, eXp, eXa, eConsX, eCallX, eCallN, eLstX, eCBX, sDropX, sRetX, sAsgX, sRaise, sRaiseF, List.set_cons_zero, List.set_cons_succ, List.getElem?_cons_zero, List.getElem?_cons_succ, truD_bl, cIsi, tyD, Option.bind_some, kb]); (try simp only [if_true, Bool.false_eq_true, if_false, decide_true, decide_false, Bool.not_true, Bool.not_false, List.length_cons, List.length_nil, sizeLine_eq, Nat.reduceAdd, Nat.reduceLeDiff, true_and, and_true, pw6, pw10, pw11, pw12, pw13, pw30, pw40, pw60, cIsi, tyD, Option.bind_some, kb]); (try dsimp only [sAsg, sIf, sRet, sRetN, sDrop, sNext, asg, setAll, eT, eOp, eUn, eLst, eTup, eCons, eNil, eVar, eC, eCall, eCB, eNot, eAnd, eOr, eTru, eAndT, eOrT, eNotT, eIf, ePart, eNoPart, eYes, eChain, eChain3, oI, oI0, oLt, oLe, oGt, oGe, oNeg, oSub, oMod, oMul, oDivW, eXp, eXa, eConsX, eCallX, eCallN, eLstX, eCBX, sDropX, sRetX, sAsgX, sRaise, sRaiseF, List.set_cons_zero, List.set_cons_succ, List.getElem?_cons_zero, List.getElem?_cons_succ, truD_bl, cIsi, tyD, Option.bind_some, kb])
        refine ⟨e, rfl, he.1, fun b2 hb2 => ?_⟩
        have : b = b2 := by
          rw [Bool.eq_iff_iff]
          exact hb.trans hb2.symm
        subst this
        refine ne_bb ?_
        rw [show (!(b == b)) = false by cases b <;> rfl]
        (try dsimp only [sAsg, sIf, sRet, sRetN, sDrop, sNext, asg, setAll, eT, eOp, eUn, eLst, eTup, eCons, eNil, eVar, eC, eCall, eCB, eNot, eAnd, eOr, eTru, eAndT, eOrT, eNotT, eIf, ePart, eNoPart, eYes, eChain, eChain3, oI, oI0, oLt, oLe, oGt, oGe, oNeg, oSub, oMod, oMul, oDivW, eXp, eXa, eConsX, eCallX, eCallN, eLstX, eCBX, sDropX, sRetX, sAsgX, sRaise, sRaiseF, List.set_cons_zero, List.set_cons_succ, List.getElem?_cons_zero, List.getElem?_cons_succ, truD_bl]); (try simp only [if_true, Bool.false_eq_true, if_false, decide_true, decide_false, Bool.not_true, Bool.not_false, List.length_cons, List.length_nil, sizeLine_eq, Nat.reduceAdd, Nat.reduceLeDiff, true_and, and_true, pw6, pw10, pw11, pw12, pw13, pw30, pw40, pw60]); (try dsimp only [sAsg, sIf, sRet, sRetN, sDrop, sNext, asg, setAll, eT, eOp, eUn, eLst, eTup, eCons, eNil, eVar, eC, eCall, eCB, eNot, eAnd, eOr, eTru, eAndT, eOrT, eNotT, eIf, ePart, eNoPart, eYes, eChain, eChain3, oI, oI0, oLt, oLe, oGt, oGe, oNeg, oSub, oMod, oMul, oDivW, eXp, eXa, eConsX, eCallX, eCallN, eLstX, eCBX, sDropX, sRetX, sAsgX, sRaise, sRaiseF, List.set_cons_zero, List.set_cons_succ, List.getElem?_cons_zero, List.getElem?_cons_succ, truD_bl])
        refine hz _ _ (ne_ss az az ?_)
        rw [decide_eq_true rfl]
        (try dsimp only [sAsg, sIf, sRet, sRetN, sDrop, sNext, asg, setAll, eT, eOp, eUn, eLst, eTup, eCons, eNil, eVar, eC, eCall, eCB, eNot, eAnd, eOr, eTru, eAndT, eOrT, eNotT, eIf, ePart, eNoPart, eYes, eChain, eChain3, oI, oI0, oLt, oLe, oGt, oGe, oNeg, oSub, oMod, oMul, oDivW, eXp, eXa, eConsX, eCallX, eCallN, eLstX, eCBX, sDropX, sRetX, sAsgX, sRaise, sRaiseF, List.set_cons_zero, List.set_cons_succ, List.getElem?_cons_zero, List.getElem?_cons_succ, truD_bl]); (try simp only [if_true, Bool.false_eq_true, if_false, decide_true, decide_false, Bool.not_true, Bool.not_false, List.length_cons, List.length_nil, sizeLine_eq, Nat.reduceAdd, Nat.reduceLeDiff, true_and, and_true, pw6, pw10, pw11, pw12, pw13, pw30, pw40, pw60]); (try dsimp only [sAsg, sIf, sRet, sRetN, sDrop, sNext, asg, setAll, eT, eOp, eUn, eLst, eTup, eCons, eNil, eVar, eC, eCall, eCB, eNot, eAnd, eOr, eTru, eAndT, eOrT, eNotT, eIf, ePart, eNoPart, eYes, eChain, eChain3, oI, oI0, oLt, oLe, oGt, oGe, oNeg, oSub, oMod, oMul, oDivW, eXp, eXa, eConsX, eCallX, eCallN, eLstX, eCBX, sDropX, sRetX, sAsgX, sRaise, sRaiseF, List.set_cons_zero, List.set_cons_succ, List.getElem?_cons_zero, List.getElem?_cons_succ, truD_bl])
        exact hW' _ _ ⟨_, _, _, rfl⟩
      · rintro s G' ⟨o6, o7, o8, rfl⟩
        exact hW2 _ _ ⟨_, _, _, _, _, _, _, _, rfl⟩
    (try dsimp only [sAsg, sIf, sRet, sRetN, sDrop, sNext, asg, setAll, eT, eOp, eUn, eLst, eTup, eCons, eNil, eVar, eC, eCall, eCB, eNot, eAnd, eOr, eTru, eAndT, eOrT, eNotT, eIf, ePart, eNoPart, eYes, eChain, eChain3, oI, oI0, oLt, oLe, oGt, oGe, oNeg, oSub, oMod, oMul, oDivW, eXp, eXa, eConsX, eCallX, eCallN, eLstX, eCBX, sDropX, sRetX, sAsgX, sRaise, sRaiseF, List.set_cons_zero, List.set_cons_succ, List.getElem?_cons_zero, List.getElem?_cons_succ, truD_bl]); (try simp only [if_true, Bool.false_eq_true, if_false, decide_true, decide_false, Bool.not_true, Bool.not_false, List.length_cons, List.length_nil, sizeLine_eq, Nat.reduceAdd, Nat.reduceLeDiff, true_and, and_true, pw6, pw10, pw11, pw12, pw13, pw30, pw40, pw60]); (try dsimp only [sAsg, sIf, sRet, sRetN, sDrop, sNext, asg, setAll, eT, eOp, eUn, eLst, eTup, eCons, eNil, eVar, eC, eCall, eCB, eNot, eAnd, eOr, eTru, eAndT, eOrT, eNotT, eIf, ePart, eNoPart, eYes, eChain, eChain3, oI, oI0, oLt, oLe, oGt, oGe, oNeg, oSub, oMod, oMul, oDivW, eXp, eXa, eConsX, eCallX, eCallN, eLstX, eCBX, sDropX, sRetX, sAsgX, sRaise, sRaiseF, List.set_cons_zero, List.set_cons_succ, List.getElem?_cons_zero, List.getElem?_cons_succ, truD_bl])
    refine take_ok gput_same ok (wd_of (by decide) (by decide)) fun v x y z ok v0 v1 => ?_
    rw [gput_gput]
    refine eq_ii ?_
    by_cases c : v = 0
    · rw [decide_eq_true c]
      (try dsimp only [sAsg, sIf, sRet, sRetN, sDrop, sNext, asg, setAll, eT, eOp, eUn, eLst, eTup, eCons, eNil, eVar, eC, eCall, eCB, eNot, eAnd, eOr, eTru, eAndT, eOrT, eNotT, eIf, ePart, eNoPart, eYes, eChain, eChain3, oI, oI0, oLt, oLe, oGt, oGe, oNeg, oSub, oMod, oMul, oDivW, eXp, eXa, eConsX, eCallX, eCallN, eLstX, eCBX, sDropX, sRetX, sAsgX, sRaise, sRaiseF, List.set_cons_zero, List.set_cons_succ, List.getElem?_cons_zero, List.getElem?_cons_succ, truD_bl]); (try simp only [if_true, Bool.false_eq_true, if_false, decide_true, decide_false, Bool.not_true, Bool.not_false, List.length_cons, List.length_nil, sizeLine_eq, Nat.reduceAdd, Nat.reduceLeDiff, true_and, and_true, pw6, pw10, pw11, pw12, pw13, pw30, pw40, pw60]); (try dsimp only [sAsg, sIf, sRet, sRetN, sDrop, sNext, asg, setAll, eT, eOp, eUn, eLst, eTup, eCons, eNil, eVar, eC, eCall, eCB, eNot, eAnd, eOr, eTru, eAndT, eOrT, eNotT, eIf, ePart, eNoPart, eYes, eChain, eChain3, oI, oI0, oLt, oLe, oGt, oGe, oNeg, oSub, oMod, oMul, oDivW, eXp, eXa, eConsX, eCallX, eCallN, eLstX, eCBX, sDropX, sRetX, sAsgX, sRaise, sRaiseF, List.set_cons_zero, List.set_cons_succ, List.getElem?_cons_zero, List.getElem?_cons_succ, truD_bl])
      refine seq_gen fun W7 hW7 => ?_
      (try dsimp only [sAsg, sIf, sRet, sRetN, sDrop, sNext, asg, setAll, eT, eOp, eUn, eLst, eTup, eCons, eNil, eVar, eC, eCall, eCB, eNot, eAnd, eOr, eTru, eAndT, eOrT, eNotT, eIf, ePart, eNoPart, eYes, eChain, eChain3, oI, oI0, oLt, oLe, oGt, oGe, oNeg, oSub, oMod, oMul, oDivW, eXp, eXa, eConsX, eCallX, eCallN, eLstX, eCBX, sDropX, sRetX, sAsgX, sRaise, sRaiseF, List.set_cons_zero, List.set_cons_succ, List.getElem?_cons_zero, List.getElem?_cons_succ, truD_bl]); (try simp only [if_true, Bool.false_eq_true, if_false, decide_true, decide_false, Bool.not_true, Bool.not_false, List.length_cons, List.length_nil, sizeLine_eq, Nat.reduceAdd, Nat.reduceLeDiff, true_and, and_true, pw6, pw10, pw11, pw12, pw13, pw30, pw40, pw60]); (try dsimp only [sAsg, sIf, sRet, sRetN, sDrop, sNext, asg, setAll, eT, eOp, eUn, eLst, eTup, eCons, eNil, eVar, eC, eCall, eCB, eNot, eAnd, eOr, eTru, eAndT, eOrT, eNotT, eIf, ePart, eNoPart, eYes, eChain, eChain3, oI, oI0, oLt, oLe, oGt, oGe, oNeg, oSub, oMod, oMul, oDivW, eXp, eXa, eConsX, eCallX, eCallN, eLstX, eCBX, sDropX, sRetX, sAsgX, sRaise, sRaiseF, List.set_cons_zero, List.set_cons_succ, List.getElem?_cons_zero, List.getElem?_cons_succ, truD_bl])
      refine take_ok gput_same ok (wd_of (by decide) (by decide)) fun u x y z ok u0 u1 => ?_
      rw [gput_gput]
      refine add_ii (hW7 _ _ ?_)
      (try dsimp only [sAsg, sIf, sRet, sRetN, sDrop, sNext, asg, setAll, eT, eOp, eUn, eLst, eTup, eCons, eNil, eVar, eC, eCall, eCB, eNot, eAnd, eOr, eTru, eAndT, eOrT, eNotT, eIf, ePart, eNoPart, eYes, eChain, eChain3, oI, oI0, oLt, oLe, oGt, oGe, oNeg, oSub, oMod, oMul, oDivW, eXp, eXa, eConsX, eCallX, eCallN, eLstX, eCBX, sDropX, sRetX, sAsgX, sRaise, sRaiseF, List.set_cons_zero, List.set_cons_succ, List.getElem?_cons_zero, List.getElem?_cons_succ, truD_bl, eLc, iR1]); (try simp only [if_true, Bool.false_eq_true, if_false, decide_true, decide_false, Bool.not_true, Bool.not_false, List.length_cons, List.length_nil, sizeLine_eq, Nat.reduceAdd, Nat.reduceLeDiff, true_and, and_true, pw6, pw10, pw11, pw12, pw13, pw30, pw40, pw60, eLc, iR1]); (try dsimp only [sAsg, sIf, sRet, sRetN, sDrop, sNext, asg, setAll, eT, eOp, eUn, eLst, eTup, eCons, eNil, eVar, eC, eCall, eCB, eNot, eAnd, eOr, eTru, eAndT, eOrT, eNotT, eIf, ePart, eNoPart, eYes, eChain, eChain3, oI, oI0, oLt, oLe, oGt, oGe, oNeg, oSub, oMod, oMul, oDivW, eXp, eXa, eConsX, eCallX, eCallN, eLstX, eCBX, sDropX, sRetX, sAsgX, sRaise, sRaiseF, List.set_cons_zero, List.set_cons_succ, List.getElem?_cons_zero, List.getElem?_cons_succ, truD_bl, eLc, iR1])
      refine ⟨by omega, by omega, ?_⟩
      refine compW_all (g := fun i : Nat => D.int (0 + (i : Int))) (f := fun i : Nat => triD ((i : Int) / 49, 7 * (i : Int) - 1000000000000 * (if (i : Int) % 49 = 0 then 1 else 0), 1 + (i : Int))) True.intro (List.range (190 + u).toNat) [] (fun i hi => ⟨_, rfl, fun R q => ?_⟩) ?_
      · (try dsimp only [sAsg, sIf, sRet, sRetN, sDrop, sNext, asg, setAll, eT, eOp, eUn, eLst, eTup, eCons, eNil, eVar, eC, eCall, eCB, eNot, eAnd, eOr, eTru, eAndT, eOrT, eNotT, eIf, ePart, eNoPart, eYes, eChain, eChain3, oI, oI0, oLt, oLe, oGt, oGe, oNeg, oSub, oMod, oMul, oDivW, eXp, eXa, eConsX, eCallX, eCallN, eLstX, eCBX, sDropX, sRetX, sAsgX, sRaise, sRaiseF, List.set_cons_zero, List.set_cons_succ, List.getElem?_cons_zero, List.getElem?_cons_succ, truD_bl, wipeD, List.foldl_cons, List.foldl_nil]); (try simp only [if_true, Bool.false_eq_true, if_false, decide_true, decide_false, Bool.not_true, Bool.not_false, List.length_cons, List.length_nil, sizeLine_eq, Nat.reduceAdd, Nat.reduceLeDiff, true_and, and_true, pw6, pw10, pw11, pw12, pw13, pw30, pw40, pw60, wipeD, List.foldl_cons, List.foldl_nil]); (try dsimp only [sAsg, sIf, sRet, sRetN, sDrop, sNext, asg, setAll, eT, eOp, eUn, eLst, eTup, eCons, eNil, eVar, eC, eCall, eCB, eNot, eAnd, eOr, eTru, eAndT, eOrT, eNotT, eIf, ePart, eNoPart, eYes, eChain, eChain3, oI, oI0, oLt, oLe, oGt, oGe, oNeg, oSub, oMod, oMul, oDivW, eXp, eXa, eConsX, eCallX, eCallN, eLstX, eCBX, sDropX, sRetX, sAsgX, sRaise, sRaiseF, List.set_cons_zero, List.set_cons_succ, List.getElem?_cons_zero, List.getElem?_cons_succ, truD_bl, wipeD, List.foldl_cons, List.foldl_nil])
        rw [Int.zero_add]
        have hi := List.mem_range.mp hi
        have e49 : (49 : Int).natAbs.log2 = 5 := by decide
        refine ⟨by unfold CDivW; omega, ?_⟩
        refine ⟨cmul_l (by decide) (by decide), ?_⟩
        refine ⟨by decide, ?_⟩
        refine eq_ii ?_
        by_cases c49 : (i : Int) % 49 = 0
        · rw [decide_eq_true c49]
          (try dsimp only [sAsg, sIf, sRet, sRetN, sDrop, sNext, asg, setAll, eT, eOp, eUn, eLst, eTup, eCons, eNil, eVar, eC, eCall, eCB, eNot, eAnd, eOr, eTru, eAndT, eOrT, eNotT, eIf, ePart, eNoPart, eYes, eChain, eChain3, oI, oI0, oLt, oLe, oGt, oGe, oNeg, oSub, oMod, oMul, oDivW, eXp, eXa, eConsX, eCallX, eCallN, eLstX, eCBX, sDropX, sRetX, sAsgX, sRaise, sRaiseF, List.set_cons_zero, List.set_cons_succ, List.getElem?_cons_zero, List.getElem?_cons_succ, truD_bl, cInt1]); (try simp only [if_true, Bool.false_eq_true, if_false, decide_true, decide_false, Bool.not_true, Bool.not_false, List.length_cons, List.length_nil, sizeLine_eq, Nat.reduceAdd, Nat.reduceLeDiff, true_and, and_true, pw6, pw10, pw11, pw12, pw13, pw30, pw40, pw60, cInt1]); (try dsimp only [sAsg, sIf, sRet, sRetN, sDrop, sNext, asg, setAll, eT, eOp, eUn, eLst, eTup, eCons, eNil, eVar, eC, eCall, eCB, eNot, eAnd, eOr, eTru, eAndT, eOrT, eNotT, eIf, ePart, eNoPart, eYes, eChain, eChain3, oI, oI0, oLt, oLe, oGt, oGe, oNeg, oSub, oMod, oMul, oDivW, eXp, eXa, eConsX, eCallX, eCallN, eLstX, eCBX, sDropX, sRetX, sAsgX, sRaise, sRaiseF, List.set_cons_zero, List.set_cons_succ, List.getElem?_cons_zero, List.getElem?_cons_succ, truD_bl, cInt1])
          refine ⟨cmul_l (by decide) (by decide), add_ii ?_⟩
          rw [if_pos c49] at q
          exact q
        · rw [decide_eq_false c49]
          (try dsimp only [sAsg, sIf, sRet, sRetN, sDrop, sNext, asg, setAll, eT, eOp, eUn, eLst, eTup, eCons, eNil, eVar, eC, eCall, eCB, eNot, eAnd, eOr, eTru, eAndT, eOrT, eNotT, eIf, ePart, eNoPart, eYes, eChain, eChain3, oI, oI0, oLt, oLe, oGt, oGe, oNeg, oSub, oMod, oMul, oDivW, eXp, eXa, eConsX, eCallX, eCallN, eLstX, eCBX, sDropX, sRetX, sAsgX, sRaise, sRaiseF, List.set_cons_zero, List.set_cons_succ, List.getElem?_cons_zero, List.getElem?_cons_succ, truD_bl, cInt1]); (try simp only [if_true, Bool.false_eq_true, if_false, decide_true, decide_false, Bool.not_true, Bool.not_false, List.length_cons, List.length_nil, sizeLine_eq, Nat.reduceAdd, Nat.reduceLeDiff, true_and, and_true, pw6, pw10, pw11, pw12, pw13, pw30, pw40, pw60, cInt1]); (try dsimp only [sAsg, sIf, sRet, sRetN, sDrop, sNext, asg, setAll, eT, eOp, eUn, eLst, eTup, eCons, eNil, eVar, eC, eCall, eCB, eNot, eAnd, eOr, eTru, eAndT, eOrT, eNotT, eIf, ePart, eNoPart, eYes, eChain, eChain3, oI, oI0, oLt, oLe, oGt, oGe, oNeg, oSub, oMod, oMul, oDivW, eXp, eXa, eConsX, eCallX, eCallN, eLstX, eCBX, sDropX, sRetX, sAsgX, sRaise, sRaiseF, List.set_cons_zero, List.set_cons_succ, List.getElem?_cons_zero, List.getElem?_cons_succ, truD_bl, cInt1])
          refine ⟨cmul_l (by decide) (by decide), add_ii ?_⟩
          rw [if_neg c49] at q
          exact q
      rw [List.nil_append]
      have eM : (List.range (190 + u).toNat).map (fun i : Nat => triD ((i : Int) / 49, 7 * (i : Int) - 1000000000000 * (if (i : Int) % 49 = 0 then 1 else 0), 1 + (i : Int))) = ((List.range (190 + u).toNat).map fun i : Nat => (((i : Int) / 49, 7 * (i : Int) - 1000000000000 * (if (i : Int) % 49 = 0 then 1 else 0), 1 + (i : Int)) : Tri)).map triD := by rw [List.map_map]; rfl
      rw [eM]
      refine rest _ _ _ _ _ ok (by simp; omega) fun x hx => ?_
      obtain ⟨i, hi, rfl⟩ := List.mem_map.mp hx
      have hi := List.mem_range.mp hi
      simp only
      split <;> omega
    · rw [decide_eq_false c]
      (try dsimp only [sAsg, sIf, sRet, sRetN, sDrop, sNext, asg, setAll, eT, eOp, eUn, eLst, eTup, eCons, eNil, eVar, eC, eCall, eCB, eNot, eAnd, eOr, eTru, eAndT, eOrT, eNotT, eIf, ePart, eNoPart, eYes, eChain, eChain3, oI, oI0, oLt, oLe, oGt, oGe, oNeg, oSub, oMod, oMul, oDivW, eXp, eXa, eConsX, eCallX, eCallN, eLstX, eCBX, sDropX, sRetX, sAsgX, sRaise, sRaiseF, List.set_cons_zero, List.set_cons_succ, List.getElem?_cons_zero, List.getElem?_cons_succ, truD_bl]); (try simp only [if_true, Bool.false_eq_true, if_false, decide_true, decide_false, Bool.not_true, Bool.not_false, List.length_cons, List.length_nil, sizeLine_eq, Nat.reduceAdd, Nat.reduceLeDiff, true_and, and_true, pw6, pw10, pw11, pw12, pw13, pw30, pw40, pw60]); (try dsimp only [sAsg, sIf, sRet, sRetN, sDrop, sNext, asg, setAll, eT, eOp, eUn, eLst, eTup, eCons, eNil, eVar, eC, eCall, eCB, eNot, eAnd, eOr, eTru, eAndT, eOrT, eNotT, eIf, ePart, eNoPart, eYes, eChain, eChain3, oI, oI0, oLt, oLe, oGt, oGe, oNeg, oSub, oMod, oMul, oDivW, eXp, eXa, eConsX, eCallX, eCallN, eLstX, eCBX, sDropX, sRetX, sAsgX, sRaise, sRaiseF, List.set_cons_zero, List.set_cons_succ, List.getElem?_cons_zero, List.getElem?_cons_succ, truD_bl])
      exact rest L0 _ _ _ _ ok (by omega) fun x hx => by have := hT.all x hx; omega
  · rintro s G ⟨o1, o2, o3, o4, o5, o6, o7, o8, rfl⟩
    refine hW _ _ ?_
    (try dsimp only [sAsg, sIf, sRet, sRetN, sDrop, sNext, asg, setAll, eT, eOp, eUn, eLst, eTup, eCons, eNil, eVar, eC, eCall, eCB, eNot, eAnd, eOr, eTru, eAndT, eOrT, eNotT, eIf, ePart, eNoPart, eYes, eChain, eChain3, oI, oI0, oLt, oLe, oGt, oGe, oNeg, oSub, oMod, oMul, oDivW, eXp, eXa, eConsX, eCallX, eCallN, eLstX, eCBX, sDropX, sRetX, sAsgX, sRaise, sRaiseF, List.set_cons_zero, List.set_cons_succ, List.getElem?_cons_zero, List.getElem?_cons_succ, truD_bl]); (try simp only [if_true, Bool.false_eq_true, if_false, decide_true, decide_false, Bool.not_true, Bool.not_false, List.length_cons, List.length_nil, sizeLine_eq, Nat.reduceAdd, Nat.reduceLeDiff, true_and, and_true, pw6, pw10, pw11, pw12, pw13, pw30, pw40, pw60]); (try dsimp only [sAsg, sIf, sRet, sRetN, sDrop, sNext, asg, setAll, eT, eOp, eUn, eLst, eTup, eCons, eNil, eVar, eC, eCall, eCB, eNot, eAnd, eOr, eTru, eAndT, eOrT, eNotT, eIf, ePart, eNoPart, eYes, eChain, eChain3, oI, oI0, oLt, oLe, oGt, oGe, oNeg, oSub, oMod, oMul, oDivW, eXp, eXa, eConsX, eCallX, eCallN, eLstX, eCBX, sDropX, sRetX, sAsgX, sRaise, sRaiseF, List.set_cons_zero, List.set_cons_succ, List.getElem?_cons_zero, List.getElem?_cons_succ, truD_bl])
    exact fin_id (k _)
end DL
set_option Elab.async false
set_option linter.all false
set_option maxRecDepth 100000
set_option maxHeartbeats 0
namespace Row
open PySem PySem.Spec PyProof.Rows L2 DL
def top (i : Nat) : Stmt := PySem.Challenge.pw_benchworth_k63_bench_papers.main.body.getD i (.Pass ⟨0, 0, 0, 0⟩)
abbrev s__law_begun : Stmt := top 10
theorem sc__law_begun : FnScope ["_law_script", "_law_k", "_law_cell", "_law_number", "_law_seed"] ["_law_script", "_law_k"] (defScope s__law_begun) := ⟨rfl, rfl, rfl, by decide +kernel, rfl, by decide +kernel, by decide +kernel⟩
abbrev s__law_take : Stmt := top 11
theorem sc__law_take : FnScope ["_law_state", "_law_many", "_law_found", "_law_made", "_law_turn"] ["_law_state", "_law_many"] (defScope s__law_take) := ⟨rfl, rfl, rfl, by decide +kernel, rfl, by decide +kernel, by decide +kernel⟩
abbrev s__law_name : Stmt := top 12
theorem sc__law_name : FnScope ["_law_state", "_law_k", "_law_letters", "_law_spelt", "_law_j"] ["_law_state", "_law_k"] (defScope s__law_name) := ⟨rfl, rfl, rfl, by decide +kernel, rfl, by decide +kernel, by decide +kernel⟩
abbrev s__law_book : Stmt := top 13
theorem sc__law_book : FnScope ["_law_state", "_law_most", "_law_size", "_law_unit", "_law_low", "_law_book_here", "_law_k", "_law_begin", "_law_end", "_law_worth", "_law_span"] ["_law_state", "_law_most"] (defScope s__law_book) := ⟨rfl, rfl, rfl, by decide +kernel, rfl, by decide +kernel, by decide +kernel⟩
abbrev s__law_bench_paper : Stmt := top 14
theorem sc__law_bench_paper : FnScope ["_law_state", "_law_book_here", "_law_benches", "_law_most", "_law_moments", "_law_name_here", "_law_begin", "_law_end", "_law_worth", "_law_prices", "_law_turn", "_law_spot"] ["_law_state", "_law_book_here", "_law_benches", "_law_most"] (defScope s__law_bench_paper) := ⟨rfl, rfl, rfl, by decide +kernel, rfl, by decide +kernel, by decide +kernel⟩
abbrev s__law_other_part : Stmt := top 17
theorem sc__law_other_part : FnScope ["_law_state", "_law_part", "_law_place", "_law_far", "_law_ends"] ["_law_state", "_law_part", "_law_place"] (defScope s__law_other_part) := ⟨rfl, rfl, rfl, by decide +kernel, rfl, by decide +kernel, by decide +kernel⟩
abbrev s__law_bent : Stmt := top 18
theorem sc__law_bent : FnScope ["_law_state", "_law_paper", "_law_way", "_law_at", "_law_one", "_law_place", "_law_parts", "_law_other"] ["_law_state", "_law_paper"] (defScope s__law_bent) := ⟨rfl, rfl, rfl, by decide +kernel, rfl, by decide +kernel, by decide +kernel⟩
abbrev s_is_whole : Stmt := top 1
theorem sc_is_whole : FnScope ["thing"] ["thing"] (defScope s_is_whole) := ⟨rfl, rfl, rfl, by decide +kernel, rfl, by decide +kernel, by decide +kernel⟩
abbrev s_is_bench_price : Stmt := top 7
theorem sc_is_bench_price : FnScope ["thing"] ["thing"] (defScope s_is_bench_price) := ⟨rfl, rfl, rfl, by decide +kernel, rfl, by decide +kernel, by decide +kernel⟩
abbrev s_is_bench_paper : Stmt := top 8
theorem sc_is_bench_paper : FnScope ["thing", "last", "one"] ["thing"] (defScope s_is_bench_paper) := ⟨rfl, rfl, rfl, by decide +kernel, rfl, by decide +kernel, by decide +kernel⟩
abbrev s__law_whole : Stmt := top 15
theorem sc__law_whole : FnScope ["_law_found"] ["_law_found"] (defScope s__law_whole) := ⟨rfl, rfl, rfl, by decide +kernel, rfl, by decide +kernel, by decide +kernel⟩
abbrev s__law_due : Stmt := top 16
theorem sc__law_due : FnScope ["_law_thing", "_law_k", "_law_one", "_law_part"] ["_law_thing"] (defScope s__law_due) := ⟨rfl, rfl, rfl, by decide +kernel, rfl, by decide +kernel, by decide +kernel⟩
abbrev s_law : Stmt := top 19
theorem sc_law : FnScope ["_law_script", "_law_k", "_law_state", "_law_book_here", "_law_paper", "_law_many", "_law_thing", "_law_spelt", "_law_found", "_law_j"] ["_law_script"] (defScope s_law) := ⟨rfl, rfl, rfl, by decide +kernel, rfl, by decide +kernel, by decide +kernel⟩
section
variable {P : Program} {w : World} {K : PySem.W.Frag} {mg : Str → Option Value} {base : Heap}
theorem ok__law_begun (Df_ : Df K mg "_law_begun" s__law_begun) (b_len : mg "len" = none) (b_max : mg "max" = none) : Cal P w K mg base 1 "_law_begun" ["_law_script", "_law_k"] (F__law_begun) := by
  refine cal_ok (N := ["_law_script", "_law_k", "_law_cell", "_law_number", "_law_seed"]) (es := r__law_begun) Df_ sc__law_begun (fun _ _ _ _ _ _ us hl => match us, hl with | [_, _], _ => rfl) (fun f cdv A outer s H E hr => ?_) d__law_begun
  exact (jss_cons (js_set (i := 2) sc__law_begun.nd rfl (by first | exact Or.inl rfl | exact Or.inr rfl) j_int)
      (jss_cons (js_if (jt_cmp op_lt lo_lt (jv 1) (j_cb call_len lc_len rfl b_len PySem.boot_len (ja_cons (jv 0) ja_nil)) (nomark _)) (jss_one (js_set (i := 2) sc__law_begun.nd rfl (by first | exact Or.inl rfl | exact Or.inr rfl) (j_ix (jv 0) (jv 1)))) jss_nil)
      (jss_cons (js_set (i := 3) sc__law_begun.nd rfl (by first | exact Or.inl rfl | exact Or.inr rfl) (j_cb (call_max2 rfl) lc_max2 rfl b_max (by decide +kernel) (ja_cons (jv 2) (ja_cons (j_sub (j_neg j_int) (jv 2)) ja_nil))))
      (jss_cons (js_set (i := 4) sc__law_begun.nd rfl (by first | exact Or.inl rfl | exact Or.inr rfl) (j_mod (j_add (j_add (jv 3) (j_mul (j_mul j_int (jv 1)) (jv 1))) j_int) j_int))
      (jss_cons (js_if (jt_cmp op_lt lo_lt (jv 3) (j_pow j_int j_int) (nomark _)) (jss_one (js_set (i := 3) sc__law_begun.nd rfl (by first | exact Or.inl rfl | exact Or.inr rfl) j_int)) jss_nil)
      (jss_one (js_ret (j_lstO (ja_cons (jv 3) (ja_cons (jv 4) (ja_cons j_int ja_nil)))))))))))
theorem ok__law_take (Df_ : Df K mg "_law_take" s__law_take) (b_range : mg "range" = none) (b_int : mg "int" = none) : Cal P w K mg base 1 "_law_take" ["_law_state", "_law_many"] (F__law_take) := by
  refine cal_ok (N := ["_law_state", "_law_many", "_law_found", "_law_made", "_law_turn"]) (es := r__law_take) Df_ sc__law_take (fun _ _ _ _ _ _ us hl => match us, hl with | [_, _], _ => rfl) (fun f cdv A outer s H E hr => ?_) d__law_take
  exact (jss_cons (js_if (jt_cmp op_gt lo_gt (j_ix (jv 0) j_int) j_int (nomark _)) (jss_cons (js_set (i := 2) sc__law_take.nd rfl (by first | exact Or.inl rfl | exact Or.inr rfl) (j_mod (j_ix (jv 0) j_int) (jv 1)))
      (jss_cons (js_setI (j_div (j_ix (jv 0) j_int) (jv 1)) (jv 0) j_int)
      (jss_one (js_ret (jv 2))))) jss_nil)
      (jss_cons (js_set (i := 3) sc__law_take.nd rfl (by first | exact Or.inl rfl | exact Or.inr rfl) j_int)
      (jss_cons (js_for PassesOwn.never rfl (ji_range1 rfl b_range (ja_cons (j_add j_int (j_ct call_int1 lc_int1 rfl b_int (by decide +kernel) (ja_cons (j_cmp op_gt lo_gt (jv 1) (j_pow j_int j_int) (nomark _)) ja_nil))) ja_nil)) (jg_name (i := 4) sc__law_take.nd rfl (by first | exact Or.inl rfl | exact Or.inr rfl))
      (jss_cons (js_setI (j_add (j_ix (jv 0) j_int) j_int) (jv 0) j_int)
      (jss_cons (js_setI (j_mod (j_add (j_mul (j_ix (jv 0) j_int) j_int) (j_mul j_int (j_ix (jv 0) j_int))) j_int) (jv 0) j_int)
      (jss_one (js_set (i := 3) sc__law_take.nd rfl (by first | exact Or.inl rfl | exact Or.inr rfl) (j_add (j_mul (jv 3) j_int) (j_mod (j_mul (j_ix (jv 0) j_int) (j_ix (jv 0) j_int)) j_int)))))))
      (jss_one (js_ret (j_mod (j_div (jv 3) j_int) (jv 1)))))))
theorem ok__law_name (Df_ : Df K mg "_law_name" s__law_name) (b_range : mg "range" = none) (c__law_take : Cal P w K mg base 1 "_law_take" ["_law_state", "_law_many"] F__law_take) : Cal P w K mg base 2 "_law_name" ["_law_state", "_law_k"] (F__law_name) := by
  refine cal_ok (N := ["_law_state", "_law_k", "_law_letters", "_law_spelt", "_law_j"]) (es := r__law_name) Df_ sc__law_name (fun _ _ _ _ _ _ us hl => match us, hl with | [_, _], _ => rfl) (fun f cdv A outer s H E hr => ?_) d__law_name
  exact (jss_cons (js_set (i := 2) sc__law_name.nd rfl (by first | exact Or.inl rfl | exact Or.inr rfl) j_str)
      (jss_cons (js_set (i := 3) sc__law_name.nd rfl (by first | exact Or.inl rfl | exact Or.inr rfl) j_str)
      (jss_cons (js_for PassesOwn.never rfl (ji_range1 rfl b_range (ja_cons (j_cal c__law_take (hr.mono (by decide)) rfl (ja_cons (jv 0) (ja_cons j_int ja_nil))) ja_nil)) (jg_name (i := 4) sc__law_name.nd rfl (by first | exact Or.inl rfl | exact Or.inr rfl))
      (jss_one (js_set (i := 3) sc__law_name.nd rfl (by first | exact Or.inl rfl | exact Or.inr rfl) (j_add (jv 3) (j_ix (jv 2) (j_cal c__law_take (hr.mono (by decide)) rfl (ja_cons (jv 0) (ja_cons j_int ja_nil))))))))
      (jss_one (js_ret (j_add (jv 3) (j_ix (jv 2) (jv 1))))))))
theorem ok__law_book (Df_ : Df K mg "_law_book" s__law_book) (b_range : mg "range" = none) (c__law_take : Cal P w K mg base 1 "_law_take" ["_law_state", "_law_many"] F__law_take) (c__law_name : Cal P w K mg base 2 "_law_name" ["_law_state", "_law_k"] F__law_name) : Cal P w K mg base 3 "_law_book" ["_law_state", "_law_most"] (F__law_book) := by
  refine cal_ok (N := ["_law_state", "_law_most", "_law_size", "_law_unit", "_law_low", "_law_book_here", "_law_k", "_law_begin", "_law_end", "_law_worth", "_law_span"]) (es := r__law_book) Df_ sc__law_book (fun _ _ _ _ _ _ us hl => match us, hl with | [_, _], _ => rfl) (fun f cdv A outer s H E hr => ?_) d__law_book
  have hu := hr.units
  exact (jss_cons (js_set (i := 2) sc__law_book.nd rfl (by first | exact Or.inl rfl | exact Or.inr rfl) (j_ix (j_lst (ja_cons j_int (ja_cons j_int (ja_cons j_int (ja_cons j_int ja_nil))))) (j_cal c__law_take (hr.mono (by decide)) rfl (ja_cons (jv 0) (ja_cons j_int ja_nil)))))
      (jss_cons (js_set (i := 3) sc__law_book.nd rfl (by first | exact Or.inl rfl | exact Or.inr rfl) (j_add j_int (j_cal c__law_take (hr.mono (by decide)) rfl (ja_cons (jv 0) (ja_cons (j_ix (j_lst (ja_cons j_int (ja_cons j_int (ja_cons j_int (ja_cons (j_pow j_int j_int) ja_nil))))) (j_cal c__law_take (hr.mono (by decide)) rfl (ja_cons (jv 0) (ja_cons j_int ja_nil)))) ja_nil)))))
      (jss_cons (js_set (i := 4) sc__law_book.nd rfl (by first | exact Or.inl rfl | exact Or.inr rfl) (j_ix (j_lst (ja_cons j_int (ja_cons (j_neg j_int) (ja_cons (j_neg (j_pow j_int j_int)) (ja_cons (j_sub (j_pow j_int j_int) (j_mul j_int (jv 3))) ja_nil))))) (j_cal c__law_take (hr.mono (by decide)) rfl (ja_cons (jv 0) (ja_cons j_int ja_nil)))))
      (jss_cons (js_set (i := 5) sc__law_book.nd rfl (by first | exact Or.inl rfl | exact Or.inr rfl) (j_lstO ja_nil))
      (jss_cons (js_for PassesOwn.never rfl (ji_range1 rfl b_range (ja_cons (j_cal c__law_take (hr.mono (by decide)) rfl (ja_cons (jv 0) (ja_cons (j_add (jv 1) j_int) ja_nil))) ja_nil)) (jg_name (i := 6) sc__law_book.nd rfl (by first | exact Or.inl rfl | exact Or.inr rfl))
      (jss_cons (js_set (i := 7) sc__law_book.nd rfl (by first | exact Or.inl rfl | exact Or.inr rfl) (j_cal c__law_take (hr.mono (by decide)) rfl (ja_cons (jv 0) (ja_cons (jv 2) ja_nil))))
      (jss_cons (js_set (i := 8) sc__law_book.nd rfl (by first | exact Or.inl rfl | exact Or.inr rfl) (j_add (j_add (jv 7) j_int) (j_cal c__law_take (hr.mono (by decide)) rfl (ja_cons (jv 0) (ja_cons (jv 2) ja_nil)))))
      (jss_cons (js_set (i := 9) sc__law_book.nd rfl (by first | exact Or.inl rfl | exact Or.inr rfl) (j_cal c__law_take (hr.mono (by decide)) rfl (ja_cons (jv 0) (ja_cons (j_ix (j_lst (ja_cons j_int (ja_cons j_int (ja_cons j_int (ja_cons (j_add (j_pow j_int j_int) j_int) ja_nil))))) (j_cal c__law_take (hr.mono (by decide)) rfl (ja_cons (jv 0) (ja_cons j_int ja_nil)))) ja_nil))))
      (jss_cons (js_set (i := 10) sc__law_book.nd rfl (by first | exact Or.inl rfl | exact Or.inr rfl) (j_tup (ja_cons (j_add (jv 4) (j_mul (jv 3) (jv 7))) (ja_cons (j_add (jv 4) (j_mul (jv 3) (jv 8))) ja_nil))))
      (jss_cons (js_if (JW.jt (jw_and (jt_cmp op_gt lo_gt (jv 6) j_int (nomark _)) (jw_and1 (jt_cmp (op_eqD hu) lo_eq (j_cal c__law_take (hr.mono (by decide)) rfl (ja_cons (jv 0) (ja_cons j_int ja_nil))) j_int (nomark _))))) (jss_one (js_set (i := 10) sc__law_book.nd rfl (by first | exact Or.inl rfl | exact Or.inr rfl) (j_slT (j_ix (jv 5) (j_neg j_int)) (jo_some j_int) (jo_some j_int)))) jss_nil)
      (jss_one (js_expr (j_bm PySem.F.plainAttrs_list PySem.F.slot_list_append PySem.F.type_list_append mt_append lm_app (jv 5) (ja_cons (j_tup (ja_cons (j_cal c__law_name (hr.mono (by decide)) rfl (ja_cons (jv 0) (ja_cons (jv 6) ja_nil))) (ja_cons (j_ix (jv 10) j_int) (ja_cons (j_ix (jv 10) j_int) (ja_cons (jv 9) ja_nil))))) ja_nil))))))))))
      (jss_one (js_ret (jv 5))))))))
theorem ok__law_bench_paper (Df_ : Df K mg "_law_bench_paper" s__law_bench_paper) (b_range : mg "range" = none) (b_len : mg "len" = none) (b_sorted : mg "sorted" = none) (c__law_take : Cal P w K mg base 1 "_law_take" ["_law_state", "_law_many"] F__law_take) : Cal P w K mg base 2 "_law_bench_paper" ["_law_state", "_law_book_here", "_law_benches", "_law_most"] (F__law_bench_paper) := by
  refine cal_ok (N := ["_law_state", "_law_book_here", "_law_benches", "_law_most", "_law_moments", "_law_name_here", "_law_begin", "_law_end", "_law_worth", "_law_prices", "_law_turn", "_law_spot"]) (es := r__law_bench_paper) Df_ sc__law_bench_paper (fun _ _ _ _ _ _ us hl => match us, hl with | [_, _, _, _], _ => rfl) (fun f cdv A outer s H E hr => ?_) d__law_bench_paper
  have hu1 := DL.hu_of hr
  exact (jss_cons (js_set (i := 4) sc__law_bench_paper.nd rfl (by first | exact Or.inl rfl | exact Or.inr rfl) (j_lst (ja_cons j_int (ja_cons (j_neg (JE.imp (j_pow j_int j_int) (pwK (v := 1000000000000) (by decide +kernel)))) (ja_cons (j_sub (JE.imp (j_pow j_int j_int) (pwK (v := 1000000000000) (by decide +kernel))) j_int) ja_nil)))))
      (jss_cons (js_for PassesOwn.never rfl (ji_list (jv 1)) (jg_tup rfl (jgs_cons (jg_name (i := 5) sc__law_bench_paper.nd rfl (by first | exact Or.inl rfl | exact Or.inr rfl)) (jgs_cons (jg_name (i := 6) sc__law_bench_paper.nd rfl (by first | exact Or.inl rfl | exact Or.inr rfl)) (jgs_cons (jg_name (i := 7) sc__law_bench_paper.nd rfl (by first | exact Or.inl rfl | exact Or.inr rfl)) (jgs_cons (jg_name (i := 8) sc__law_bench_paper.nd rfl (by first | exact Or.inl rfl | exact Or.inr rfl)) jgs_nil)))))
      (jss_one (js_set (i := 4) sc__law_bench_paper.nd rfl (by first | exact Or.inl rfl | exact Or.inr rfl) (j_add (jv 4) (j_lst (ja_cons (jv 6) (ja_cons (j_sub (jv 7) j_int) ja_nil)))))))
      (jss_cons (js_set (i := 9) sc__law_bench_paper.nd rfl (by first | exact Or.inl rfl | exact Or.inr rfl) j_dnewTri)
      (jss_cons (js_for PassesOwn.never rfl (ji_range1 rfl b_range (ja_cons (j_cal c__law_take (hr.mono (by decide)) rfl (ja_cons (jv 0) (ja_cons (j_add (jv 3) j_int) ja_nil))) ja_nil)) (jg_name (i := 10) sc__law_bench_paper.nd rfl (by first | exact Or.inl rfl | exact Or.inr rfl))
      (jss_cons (js_set (i := 11) sc__law_bench_paper.nd rfl (by first | exact Or.inl rfl | exact Or.inr rfl) (j_tup (ja_cons (j_cal c__law_take (hr.mono (by decide)) rfl (ja_cons (jv 0) (ja_cons (jv 2) ja_nil))) (ja_cons (j_ix (jv 4) (j_cal c__law_take (hr.mono (by decide)) rfl (ja_cons (jv 0) (ja_cons (j_cb call_len lc_len rfl b_len PySem.boot_len (ja_cons (jv 4) ja_nil)) ja_nil)))) ja_nil))))
      (jss_one (js_putTri hu1 (j_add j_int (j_cal c__law_take (hr.mono (by decide)) rfl (ja_cons (jv 0) (ja_cons (j_ix (j_lst (ja_cons j_int (ja_cons j_int (ja_cons j_int (ja_cons (JE.imp (j_pow j_int j_int) (pwK (v := 1000000000000) (by decide +kernel))) ja_nil))))) (j_cal c__law_take (hr.mono (by decide)) rfl (ja_cons (jv 0) (ja_cons j_int ja_nil)))) ja_nil)))) (jv 9) (jv 11)))))
      (jss_one (js_ret (j_lc (own := [("_law_spot", 11)]) rfl sc__law_bench_paper.nd (ji_list (j_cb (cr_sortedDT rfl) lc_sortTri rfl b_sorted (by decide +kernel) (ja_cons (jv 9) ja_nil))) (blkOk_by (own := [("_law_spot", 11)]) (N := ["_law_state", "_law_book_here", "_law_benches", "_law_most", "_law_moments", "_law_name_here", "_law_begin", "_law_end", "_law_worth", "_law_prices", "_law_turn", "_law_spot"]) (sc := defScope s__law_bench_paper) (by decide +kernel)) (fun _ _ _ _ _ => (jg_name (i := 11) sc__law_bench_paper.nd rfl (by first | exact Or.inl rfl | exact Or.inr rfl))) (fun _ _ _ _ _ => jts_nil) (fun _ _ _ _ _ => (j_tup (ja_cons (j_ix (jv 11) j_int) (ja_cons (j_ix (jv 11) j_int) (ja_cons (j_getTri hu1 (jv 9) (jv 11)) ja_nil))))))))))))
theorem ok__law_other_part (Df_ : Df K mg "_law_other_part" s__law_other_part) (b_str : mg "str" = none) (c__law_take : Cal P w K mg base 1 "_law_take" ["_law_state", "_law_many"] F__law_take) (hsy : ∃ m, base.Ns sysModules m) : CalG P w K mg base 2 "_law_other_part" ["_law_state", "_law_part", "_law_place"] (F__law_other_part) := by
  refine calG_ok (N := ["_law_state", "_law_part", "_law_place", "_law_far", "_law_ends"]) (es := r__law_other_part) Df_ sc__law_other_part (fun _ _ _ _ _ _ us hl => match us, hl with | [_, _, _], _ => rfl) (fun f cdv A outer s H E hr gd => ?_) d__law_other_part
  have hu := hr.units
  exact (jss_cons (js_set (i := 3) sc__law_other_part.nd rfl (by first | exact Or.inl rfl | exact Or.inr rfl) (JE.imp (j_pow j_int j_int) (pwK (v := 1000000000000) (by decide +kernel))))
      (jss_cons (js_set (i := 4) sc__law_other_part.nd rfl (by first | exact Or.inl rfl | exact Or.inr rfl) (j_lst (ja_cons (j_lst (ja_cons j_int (ja_cons j_int (ja_cons j_int (ja_cons (j_neg j_int) ja_nil))))) (ja_cons (j_lst (ja_cons (j_sub j_int (jv 3)) (ja_cons (j_sub (jv 3) j_int) (ja_cons (jv 3) (ja_cons (j_sub (j_neg j_int) (jv 3)) ja_nil))))) (ja_cons (j_lst (ja_cons j_int (ja_cons (j_mul j_int (jv 3)) (ja_cons j_int (ja_cons (j_add (j_mul j_int (jv 3)) j_int) ja_nil))))) ja_nil)))))
      (jss_one (js_ret (j_ix (j_add (j_ix (jv 4) (jv 2)) (j_lst (ja_cons j_bl (ja_cons j_non (ja_cons (j_ct (cr_strX gd hu hsy) lc_strX rfl b_str (by decide +kernel) (ja_cons (jv 1) ja_nil)) (ja_cons (j_lst (ja_cons (jv 1) ja_nil)) ja_nil)))))) (j_cal c__law_take (hr.mono (by decide)) rfl (ja_cons (jv 0) (ja_cons j_int ja_nil))))))))
theorem ok__law_bent (Df_ : Df K mg "_law_bent" s__law_bent) (b_tuple : mg "tuple" = none) (b_len : mg "len" = none) (b_list : mg "list" = none) (c__law_take : Cal P w K mg base 1 "_law_take" ["_law_state", "_law_many"] F__law_take) (c__law_other_part : CalG P w K mg base 2 "_law_other_part" ["_law_state", "_law_part", "_law_place"] F__law_other_part) (hsy : ∃ m, base.Ns sysModules m) : CalG P w K mg base 3 "_law_bent" ["_law_state", "_law_paper"] (F__law_bent) := by
  refine calG_ok (N := ["_law_state", "_law_paper", "_law_way", "_law_at", "_law_one", "_law_place", "_law_parts", "_law_other"]) (es := r__law_bent) Df_ sc__law_bent (fun _ _ _ _ _ _ us hl => match us, hl with | [_, _], _ => rfl) (fun f cdv A outer s H E hr gd => ?_) d__law_bent
  have hu := hr.units
  exact (jss_cons (js_set (i := 2) sc__law_bent.nd rfl (by first | exact Or.inl rfl | exact Or.inr rfl) (j_cal c__law_take (hr.mono (by decide)) rfl (ja_cons (jv 0) (ja_cons j_int ja_nil))))
      (jss_cons (js_if (jt_cmp (op_eqD hu) lo_eq (jv 2) j_int (nomark _)) (jss_one (js_ret (j_ix (j_lst (ja_cons j_non (ja_cons j_int (ja_cons j_bl (ja_cons j_str (ja_cons (j_tup ja_nil) (ja_cons j_dnew0 (ja_cons (j_ct call_tuple_of lc_tuple rfl b_tuple (by decide +kernel) (ja_cons (jv 1) ja_nil)) (ja_cons (j_lst (ja_cons (j_tup ja_nil) ja_nil)) (ja_cons (j_lst (ja_cons (j_lst ja_nil) ja_nil)) (ja_cons (j_lst (ja_cons (j_tup (ja_cons j_int (ja_cons j_int (ja_cons j_int ja_nil)))) (ja_cons j_non ja_nil))) ja_nil))))))))))) (j_cal c__law_take (hr.mono (by decide)) rfl (ja_cons (jv 0) (ja_cons j_int ja_nil)))))) jss_nil)
      (jss_cons (js_if (JW.jt (jw_or (jt_cmp (op_eqD hu) lo_eq (jv 1) (j_lst ja_nil) (nomark _)) (jw_or1 (jt_cmp (op_eqD hu) lo_eq (jv 2) j_int (nomark _))))) (jss_one (js_ret (jv 1))) jss_nil)
      (jss_cons (js_set (i := 3) sc__law_bent.nd rfl (by first | exact Or.inl rfl | exact Or.inr rfl) (j_cal c__law_take (hr.mono (by decide)) rfl (ja_cons (jv 0) (ja_cons (j_cb call_len lc_len rfl b_len PySem.boot_len (ja_cons (jv 1) ja_nil)) ja_nil))))
      (jss_cons (js_set (i := 4) sc__law_bent.nd rfl (by first | exact Or.inl rfl | exact Or.inr rfl) (j_ix (jv 1) (jv 3)))
      (jss_cons (js_set (i := 5) sc__law_bent.nd rfl (by first | exact Or.inl rfl | exact Or.inr rfl) (j_cal c__law_take (hr.mono (by decide)) rfl (ja_cons (jv 0) (ja_cons j_int ja_nil))))
      (jss_cons (js_set (i := 6) sc__law_bent.nd rfl (by first | exact Or.inl rfl | exact Or.inr rfl) (j_ct call_list_of lc_listO rfl b_list (by decide +kernel) (ja_cons (jv 4) ja_nil)))
      (jss_cons (js_setI (j_calG c__law_other_part (hr.mono (by decide)) gd rfl (ja_cons (jv 0) (ja_cons (j_ix (jv 4) (jv 5)) (ja_cons (jv 5) ja_nil)))) (jv 6) (jv 5))
      (jss_cons (js_set (i := 7) sc__law_bent.nd rfl (by first | exact Or.inl rfl | exact Or.inr rfl) (j_ix (j_lst (ja_cons (j_ct call_tuple_of lc_tuple rfl b_tuple (by decide +kernel) (ja_cons (jv 6) ja_nil)) (ja_cons (j_ct call_tuple_of lc_tuple rfl b_tuple (by decide +kernel) (ja_cons (jv 6) ja_nil)) (ja_cons (j_ct call_tuple_of lc_tuple rfl b_tuple (by decide +kernel) (ja_cons (jv 6) ja_nil)) (ja_cons (j_ct call_list_of lc_list rfl b_list (by decide +kernel) (ja_cons (jv 4) ja_nil)) (ja_cons (j_catT (jv 4) (j_tup (ja_cons j_int ja_nil))) (ja_cons (j_slT (jv 4) jo_none (jo_some j_int)) ja_nil))))))) (j_cal c__law_take (hr.mono (by decide)) rfl (ja_cons (jv 0) (ja_cons j_int ja_nil)))))
      (jss_cons (js_if (jt_cmp (op_eqD hu) lo_eq (jv 2) j_int (nomark _)) (jss_one (js_ret (j_add (j_add (j_slL (jv 1) jo_none (jo_some (jv 3))) (j_lst (ja_cons (jv 4) ja_nil))) (j_slL (jv 1) (jo_some (jv 3)) jo_none)))) jss_nil)
      (jss_cons (js_if (jt_cmp (op_eqD hu) lo_eq (jv 2) j_int (nomark _)) (jss_one (js_ret (j_add (j_add (j_slL (jv 1) jo_none (jo_some (jv 3))) (j_slL (jv 1) (jo_some (j_add (jv 3) j_int)) jo_none)) (j_lst (ja_cons (jv 4) ja_nil))))) jss_nil)
      (jss_one (js_ret (j_add (j_add (j_slL (jv 1) jo_none (jo_some (jv 3))) (j_lst (ja_cons (jv 7) ja_nil))) (j_slL (jv 1) (jo_some (j_add (jv 3) j_int)) jo_none)))))))))))))))
theorem ok_is_whole (Df_ : Df K mg "is_whole" s_is_whole) (b_isinstance : mg "isinstance" = none) (b_int : mg "int" = none) (b_bool : mg "bool" = none) : Cal P w K mg base 1 "is_whole" ["thing"] (F_is_whole) := by
  refine cal_ok (N := ["thing"]) (es := r_is_whole) Df_ sc_is_whole (fun _ _ _ _ _ _ us hl => match us, hl with | [_], _ => rfl) (fun f cdv A outer s H E hr => ?_) d_is_whole
  exact (jss_one (js_ret (j_and (j_cb call_isi lc_isi rfl b_isinstance (by decide +kernel) (ja_cons (jv 0) (ja_cons (j_ty rfl b_int (by decide +kernel)) ja_nil))) (j_one (j_not (j_cb call_isi lc_isi rfl b_isinstance (by decide +kernel) (ja_cons (jv 0) (ja_cons (j_ty rfl b_bool (by decide +kernel)) ja_nil))))))))
theorem ok_is_bench_price (Df_ : Df K mg "is_bench_price" s_is_bench_price) (b_isinstance : mg "isinstance" = none) (b_tuple : mg "tuple" = none) (b_len : mg "len" = none) (z_MOST_BENCHES : ∃ t, mg "MOST_BENCHES" = some (.int 4 t)) (z_FARTHEST : ∃ t, mg "FARTHEST" = some (.int 1000000000000 t)) (z_DEAREST : ∃ t, mg "DEAREST" = some (.int 10000000000000 t)) (c_is_whole : Cal P w K mg base 1 "is_whole" ["thing"] F_is_whole) : Cal P w K mg base 2 "is_bench_price" ["thing"] (F_is_bench_price) := by
  refine cal_ok (N := ["thing"]) (es := r_is_bench_price) Df_ sc_is_bench_price (fun _ _ _ _ _ _ us hl => match us, hl with | [_], _ => rfl) (fun f cdv A outer s H E hr => ?_) d_is_bench_price
  have hu := hr.units
  exact (jss_cons (js_if (JW.jt (jw_or (jt_not (jt_tru (j_cb call_isi lc_isi rfl b_isinstance (by decide +kernel) (ja_cons (jv 0) (ja_cons (j_ty rfl b_tuple (by decide +kernel)) ja_nil))))) (jw_or1 (jt_cmp (op_neD hu) lo_ne (j_cb call_len lc_len rfl b_len PySem.boot_len (ja_cons (jv 0) ja_nil)) j_int (nomark _))))) (jss_one (js_ret j_bl)) jss_nil)
      (jss_cons (js_if (JW.jt (jw_or (jt_not (jt_tru (j_cal c_is_whole (hr.mono (by decide)) rfl (ja_cons (j_ix (jv 0) j_int) ja_nil)))) (jw_or (jt_not (jt_tru (j_cal c_is_whole (hr.mono (by decide)) rfl (ja_cons (j_ix (jv 0) j_int) ja_nil)))) (jw_or1 (jt_not (jt_tru (j_cal c_is_whole (hr.mono (by decide)) rfl (ja_cons (j_ix (jv 0) j_int) ja_nil)))))))) (jss_one (js_ret j_bl)) jss_nil)
      (jss_cons (js_if (JW.jt (jw_or (jt_cmp op_lt lo_lt (j_ix (jv 0) j_int) j_int (nomark _)) (jw_or (jt_cmp op_ge lo_ge (j_ix (jv 0) j_int) (j_gint rfl z_MOST_BENCHES) (nomark _)) (jw_or (jt_cmp op_lt lo_lt (j_ix (jv 0) j_int) (j_sub j_int (j_gint rfl z_FARTHEST)) (nomark _)) (jw_or1 (jt_cmp op_ge lo_ge (j_ix (jv 0) j_int) (j_gint rfl z_FARTHEST) (nomark _))))))) (jss_one (js_ret j_bl)) jss_nil)
      (jss_one (js_ret (j_chain op_le lo_le op_le lo_le j_int (j_ix (jv 0) j_int) (j_gint rfl z_DEAREST)))))))
theorem ok_is_bench_paper (Df_ : Df K mg "is_bench_paper" s_is_bench_paper) (b_isinstance : mg "isinstance" = none) (b_list : mg "list" = none) (b_len : mg "len" = none) (z_MOST_PRICES : ∃ t, mg "MOST_PRICES" = some (.int 192 t)) (c_is_bench_price : Cal P w K mg base 2 "is_bench_price" ["thing"] F_is_bench_price) : Cal P w K mg base 3 "is_bench_paper" ["thing"] (F_is_bench_paper) := by
  refine cal_ok (N := ["thing", "last", "one"]) (es := r_is_bench_paper) Df_ sc_is_bench_paper (fun _ _ _ _ _ _ us hl => match us, hl with | [_], _ => rfl) (fun f cdv A outer s H E hr => ?_) d_is_bench_paper
  have hu := hr.units
  exact (jss_cons (js_if (JW.jt (jw_or (jt_not (jt_tru (j_cb call_isi lc_isi rfl b_isinstance (by decide +kernel) (ja_cons (jv 0) (ja_cons (j_ty rfl b_list (by decide +kernel)) ja_nil))))) (jw_or1 (jt_cmp op_gt lo_gt (j_cb call_len lc_len rfl b_len PySem.boot_len (ja_cons (jv 0) ja_nil)) (j_gint rfl z_MOST_PRICES) (nomark _))))) (jss_one (js_ret j_bl)) jss_nil)
      (jss_cons (js_set (i := 1) sc_is_bench_paper.nd rfl (by first | exact Or.inl rfl | exact Or.inr rfl) (j_tup (ja_cons (j_neg j_int) (ja_cons j_int ja_nil))))
      (jss_cons (js_for PassesOwn.never rfl (ji_list (jv 0)) (jg_name (i := 2) sc_is_bench_paper.nd rfl (by first | exact Or.inl rfl | exact Or.inr rfl))
      (jss_cons (js_if (JW.jt (jw_or (jt_not (jt_tru (j_cal c_is_bench_price (hr.mono (by decide)) rfl (ja_cons (jv 2) ja_nil)))) (jw_or1 (jt_cmp (op_leD hu) lo_leD (j_slT (jv 2) jo_none (jo_some j_int)) (jv 1) (nomark _))))) (jss_one (js_ret j_bl)) jss_nil)
      (jss_one (js_set (i := 1) sc_is_bench_paper.nd rfl (by first | exact Or.inl rfl | exact Or.inr rfl) (j_slT (jv 2) jo_none (jo_some j_int))))))
      (jss_one (js_ret j_bl)))))
theorem ok__law_whole (Df_ : Df K mg "_law_whole" s__law_whole) (b_isinstance : mg "isinstance" = none) (b_int : mg "int" = none) (b_bool : mg "bool" = none) : Cal P w K mg base 1 "_law_whole" ["_law_found"] (F__law_whole) := by
  refine cal_ok (N := ["_law_found"]) (es := r__law_whole) Df_ sc__law_whole (fun _ _ _ _ _ _ us hl => match us, hl with | [_], _ => rfl) (fun f cdv A outer s H E hr => ?_) d__law_whole
  exact (jss_one (js_ret (j_and (j_cb call_isi lc_isi rfl b_isinstance (by decide +kernel) (ja_cons (jv 0) (ja_cons (j_ty rfl b_int (by decide +kernel)) ja_nil))) (j_one (j_not (j_cb call_isi lc_isi rfl b_isinstance (by decide +kernel) (ja_cons (jv 0) (ja_cons (j_ty rfl b_bool (by decide +kernel)) ja_nil))))))))
theorem ok__law_due (Df_ : Df K mg "_law_due" s__law_due) (b_isinstance : mg "isinstance" = none) (b_list : mg "list" = none) (b_len : mg "len" = none) (b_range : mg "range" = none) (b_tuple : mg "tuple" = none) (c__law_whole : Cal P w K mg base 1 "_law_whole" ["_law_found"] F__law_whole) : Cal P w K mg base 2 "_law_due" ["_law_thing"] (F__law_due) := by
  refine cal_ok (N := ["_law_thing", "_law_k", "_law_one", "_law_part"]) (es := r__law_due) Df_ sc__law_due (fun _ _ _ _ _ _ us hl => match us, hl with | [_], _ => rfl) (fun f cdv A outer s H E hr => ?_) d__law_due
  have hu := hr.units
  exact (jss_cons (js_if (JW.jt (jw_or (jt_not (jt_tru (j_cb call_isi lc_isi rfl b_isinstance (by decide +kernel) (ja_cons (jv 0) (ja_cons (j_ty rfl b_list (by decide +kernel)) ja_nil))))) (jw_or1 (jt_cmp op_gt lo_gt (j_cb call_len lc_len rfl b_len PySem.boot_len (ja_cons (jv 0) ja_nil)) j_int (nomark _))))) (jss_one (js_ret j_bl)) jss_nil)
      (jss_cons (js_for PassesOwn.never rfl (ji_range1 rfl b_range (ja_cons (j_cb call_len lc_len rfl b_len PySem.boot_len (ja_cons (jv 0) ja_nil)) ja_nil)) (jg_name (i := 1) sc__law_due.nd rfl (by first | exact Or.inl rfl | exact Or.inr rfl))
      (jss_cons (js_set (i := 2) sc__law_due.nd rfl (by first | exact Or.inl rfl | exact Or.inr rfl) (j_ix (jv 0) (jv 1)))
      (jss_cons (js_if (JW.jt (jw_or (jt_not (jt_tru (j_cb call_isi lc_isi rfl b_isinstance (by decide +kernel) (ja_cons (jv 2) (ja_cons (j_ty rfl b_tuple (by decide +kernel)) ja_nil))))) (jw_or1 (jt_cmp (op_neD hu) lo_ne (j_cb call_len lc_len rfl b_len PySem.boot_len (ja_cons (jv 2) ja_nil)) j_int (nomark _))))) (jss_one (js_ret j_bl)) jss_nil)
      (jss_cons (js_if (jt_cmp (op_neNil hu) lo_neNil (j_lc (own := [("_law_part", 3)]) rfl sc__law_due.nd (ji_tup (jv 2)) (blkOk_by (own := [("_law_part", 3)]) (N := ["_law_thing", "_law_k", "_law_one", "_law_part"]) (sc := defScope s__law_due) (by decide +kernel)) (fun _ _ _ _ _ => (jg_name (i := 3) sc__law_due.nd rfl (by first | exact Or.inl rfl | exact Or.inr rfl))) (fun _ _ _ _ _ => (jts_one (jt_not (jt_tru (j_cal c__law_whole (hr.mono (by decide)) rfl (ja_cons (jv 3) ja_nil)))))) (fun _ _ _ _ _ => (jv 3))) (j_lst ja_nil) (nomark _)) (jss_one (js_ret j_bl)) jss_nil)
      (jss_cons (js_if (JW.jt (jw_or (jt_cmp op_lt lo_lt (j_ix (jv 2) j_int) j_int (nomark _)) (jw_or (jt_cmp op_gt lo_gt (j_ix (jv 2) j_int) j_int (nomark _)) (jw_or (jt_cmp op_lt lo_lt (j_ix (jv 2) j_int) j_int (nomark _)) (jw_or1 (jt_cmp op_gt lo_gt (j_ix (jv 2) j_int) (JE.imp (j_pow j_int j_int) (pwK (v := 10000000000000) (by decide +kernel))) (nomark _))))))) (jss_one (js_ret j_bl)) jss_nil)
      (jss_cons (js_if (JW.jt (jw_or (jt_cmp op_lt lo_lt (j_ix (jv 2) j_int) (j_neg (JE.imp (j_pow j_int j_int) (pwK (v := 1000000000000) (by decide +kernel)))) (nomark _)) (jw_or1 (jt_cmp op_gt lo_gt (j_ix (jv 2) j_int) (j_sub (JE.imp (j_pow j_int j_int) (pwK (v := 1000000000000) (by decide +kernel))) j_int) (nomark _))))) (jss_one (js_ret j_bl)) jss_nil)
      (jss_one (js_if (JW.jt (jw_and (jt_cmp op_gt lo_gt (jv 1) j_int (nomark _)) (jw_and1 (jt_cmp (op_leD hu) lo_leD (j_tup (ja_cons (j_ix (jv 2) j_int) (ja_cons (j_ix (jv 2) j_int) ja_nil))) (j_tup (ja_cons (j_ix (j_ix (jv 0) (j_sub (jv 1) j_int)) j_int) (ja_cons (j_ix (j_ix (jv 0) (j_sub (jv 1) j_int)) j_int) ja_nil))) (nomark _))))) (jss_one (js_ret j_bl)) jss_nil))))))))
      (jss_one (js_ret j_bl))))
theorem ok_law {f : Addr} {fd : FuncData} (FD : FunD K "law" "law" (defArgs s_law) (defBody s_law) (defScope s_law) [] [] f fd) (b_range : mg "range" = none) (b_min : mg "min" = none) (b_len : mg "len" = none) (b_int : mg "int" = none) (b_repr : mg "repr" = none) (b_isinstance : mg "isinstance" = none) (b_bool : mg "bool" = none) (c__law_begun : Cal P w K mg base 1 "_law_begun" ["_law_script", "_law_k"] F__law_begun) (c__law_book : Cal P w K mg base 3 "_law_book" ["_law_state", "_law_most"] F__law_book) (c__law_bench_paper : Cal P w K mg base 2 "_law_bench_paper" ["_law_state", "_law_book_here", "_law_benches", "_law_most"] F__law_bench_paper) (c__law_take : Cal P w K mg base 1 "_law_take" ["_law_state", "_law_many"] F__law_take) (c__law_bent : CalG P w K mg base 3 "_law_bent" ["_law_state", "_law_paper"] F__law_bent) (c_is_bench_paper : Cal P w K mg base 3 "is_bench_paper" ["thing"] F_is_bench_paper) (c__law_due : Cal P w K mg base 2 "_law_due" ["_law_thing"] F__law_due) (hsy : ∃ m, base.Ns sysModules m) : FKG P w K mg base 4 f fd ["_law_script"] (lawF 63) := by
  refine fkG_ok (N := ["_law_script", "_law_k", "_law_state", "_law_book_here", "_law_paper", "_law_many", "_law_thing", "_law_spelt", "_law_found", "_law_j"]) (es := r_law) FD sc_law (fun cdv A outer s H E hr gd => ?_) d_law
  have hu := hr.units
  exact (jss_cons (js_for PassesOwn.never rfl (ji_range1 rfl b_range (ja_cons (j_add (j_cb (call_min2 rfl) lc_min2 rfl b_min (by decide +kernel) (ja_cons (j_cb call_len lc_len rfl b_len PySem.boot_len (ja_cons (jv 0) ja_nil)) (ja_cons j_int ja_nil))) j_int) ja_nil)) (jg_name (i := 1) sc_law.nd rfl (by first | exact Or.inl rfl | exact Or.inr rfl))
      (jss_cons (js_set (i := 2) sc_law.nd rfl (by first | exact Or.inl rfl | exact Or.inr rfl) (j_cal c__law_begun (hr.mono (by decide)) rfl (ja_cons (jv 0) (ja_cons (jv 1) ja_nil))))
      (jss_cons (js_set (i := 3) sc_law.nd rfl (by first | exact Or.inl rfl | exact Or.inr rfl) (j_cal c__law_book (hr.mono (by decide)) rfl (ja_cons (jv 2) (ja_cons j_int ja_nil))))
      (jss_cons (js_set (i := 4) sc_law.nd rfl (by first | exact Or.inl rfl | exact Or.inr rfl) (j_cal c__law_bench_paper (hr.mono (by decide)) rfl (ja_cons (jv 2) (ja_cons (jv 3) (ja_cons j_int (ja_cons j_int ja_nil))))))
      (jss_cons (js_if (jt_cmp (op_eqD hu) lo_eq (j_cal c__law_take (hr.mono (by decide)) rfl (ja_cons (jv 2) (ja_cons j_int ja_nil))) j_int (nomark _)) (jss_cons (js_set (i := 5) sc_law.nd rfl (by first | exact Or.inl rfl | exact Or.inr rfl) (j_add j_int (j_cal c__law_take (hr.mono (by decide)) rfl (ja_cons (jv 2) (ja_cons j_int ja_nil)))))
      (jss_one (js_setLc (i := 4) (own := [("_law_j", 9)]) rfl sc_law.nd rfl rfl (sw_true rfl rfl rfl (by decide +kernel)) (ji_range1 rfl b_range (ja_cons (jv 5) ja_nil)) (blkOk_by (own := [("_law_j", 9)]) (N := ["_law_script", "_law_k", "_law_state", "_law_book_here", "_law_paper", "_law_many", "_law_thing", "_law_spelt", "_law_found", "_law_j"]) (sc := defScope s_law) (by decide +kernel)) (fun _ _ _ _ _ => (jg_name (i := 9) sc_law.nd rfl (by first | exact Or.inl rfl | exact Or.inr rfl))) (fun _ _ _ _ _ => jts_nil) (fun _ _ _ _ _ => (j_tup (ja_cons (j_div (jv 9) j_int) (ja_cons (j_sub (j_mul j_int (jv 9)) (j_mul (JE.imp (j_pow j_int j_int) (pwK (v := 1000000000000) (by decide +kernel))) (j_ct call_int1 lc_int1 rfl b_int (by decide +kernel) (ja_cons (j_cmp (op_eqD hu) lo_eq (j_mod (jv 9) j_int) j_int (nomark _)) ja_nil)))) (ja_cons (j_add j_int (jv 9)) ja_nil)))))))) jss_nil)
      (jss_one (js_for PassesOwn.never rfl (ji_list (j_lst (ja_cons (jv 4) (ja_cons (j_calG c__law_bent (hr.mono (by decide)) gd rfl (ja_cons (jv 2) (ja_cons (jv 4) ja_nil))) ja_nil)))) (jg_name (i := 6) sc_law.nd rfl (by first | exact Or.inl rfl | exact Or.inr rfl))
      (jss_cons (js_set (i := 7) sc_law.nd rfl (by first | exact Or.inl rfl | exact Or.inr rfl) (j_cb (cr_reprX gd hu hsy) lc_reprX rfl b_repr (by decide +kernel) (ja_cons (jv 6) ja_nil)))
      (jss_cons (js_set (i := 8) sc_law.nd rfl (by first | exact Or.inl rfl | exact Or.inr rfl) (j_cal c_is_bench_paper (hr.mono (by decide)) rfl (ja_cons (jv 6) ja_nil)))
      (jss_one (js_if (JW.jt (jw_or (jt_not (jt_tru (j_cb call_isi lc_isi rfl b_isinstance (by decide +kernel) (ja_cons (jv 8) (ja_cons (j_ty rfl b_bool (by decide +kernel)) ja_nil))))) (jw_or (jt_cmp (op_neD hu) lo_ne (jv 8) (j_cal c__law_due (hr.mono (by decide)) rfl (ja_cons (jv 6) ja_nil)) (nomark _)) (jw_or1 (jt_cmp (op_neD hu) lo_ne (j_cb (cr_reprX gd hu hsy) lc_reprX rfl b_repr (by decide +kernel) (ja_cons (jv 6) ja_nil)) (jv 7) (nomark _)))))) (jss_one (js_ret j_bl)) jss_nil)))))))))))
      (jss_one (js_ret j_bl)))
end
def dd__law_begun : He.DefD := ⟨("_law_begun", none), "_law_begun", "_law_begun", defArgs s__law_begun, defBody s__law_begun, defScope s__law_begun, [], []⟩
def dd__law_take : He.DefD := ⟨("_law_take", none), "_law_take", "_law_take", defArgs s__law_take, defBody s__law_take, defScope s__law_take, [], []⟩
def dd__law_name : He.DefD := ⟨("_law_name", none), "_law_name", "_law_name", defArgs s__law_name, defBody s__law_name, defScope s__law_name, [], []⟩
def dd__law_book : He.DefD := ⟨("_law_book", none), "_law_book", "_law_book", defArgs s__law_book, defBody s__law_book, defScope s__law_book, [], []⟩
def dd__law_bench_paper : He.DefD := ⟨("_law_bench_paper", none), "_law_bench_paper", "_law_bench_paper", defArgs s__law_bench_paper, defBody s__law_bench_paper, defScope s__law_bench_paper, [], []⟩
def dd__law_other_part : He.DefD := ⟨("_law_other_part", none), "_law_other_part", "_law_other_part", defArgs s__law_other_part, defBody s__law_other_part, defScope s__law_other_part, [], []⟩
def dd__law_bent : He.DefD := ⟨("_law_bent", none), "_law_bent", "_law_bent", defArgs s__law_bent, defBody s__law_bent, defScope s__law_bent, [], []⟩
def dd_is_whole : He.DefD := ⟨("is_whole", none), "is_whole", "is_whole", defArgs s_is_whole, defBody s_is_whole, defScope s_is_whole, [], []⟩
def dd_is_bench_price : He.DefD := ⟨("is_bench_price", none), "is_bench_price", "is_bench_price", defArgs s_is_bench_price, defBody s_is_bench_price, defScope s_is_bench_price, [], []⟩
def dd_is_bench_paper : He.DefD := ⟨("is_bench_paper", none), "is_bench_paper", "is_bench_paper", defArgs s_is_bench_paper, defBody s_is_bench_paper, defScope s_is_bench_paper, [], []⟩
def dd__law_whole : He.DefD := ⟨("_law_whole", none), "_law_whole", "_law_whole", defArgs s__law_whole, defBody s__law_whole, defScope s__law_whole, [], []⟩
def dd__law_due : He.DefD := ⟨("_law_due", none), "_law_due", "_law_due", defArgs s__law_due, defBody s__law_due, defScope s__law_due, [], []⟩
def dd_law : He.DefD := ⟨("law", none), "law", "law", defArgs s_law, defBody s_law, defScope s_law, [], []⟩
def fn : List He.DefD := [dd__law_begun, dd__law_take, dd__law_name, dd__law_book, dd__law_bench_paper, dd__law_other_part, dd__law_bent, dd_is_whole, dd_is_bench_price, dd_is_bench_paper, dd__law_whole, dd__law_due, dd_law]
def fa : List He.Fa := [.glo "_law_begun", .glo "_law_take", .glo "_law_name", .glo "_law_book", .glo "_law_bench_paper", .glo "_law_other_part", .glo "_law_bent", .glo "is_whole", .glo "is_bench_price", .glo "is_bench_paper", .glo "_law_whole", .glo "_law_due", .glo "law", .free "bool", .free "int", .free "isinstance", .free "len", .free "list", .free "max", .free "min", .free "range", .free "repr", .free "sorted", .free "str", .free "tuple", .int "MOST_BENCHES" 4, .int "MOST_PRICES" 192, .int "FARTHEST" 1000000000000, .int "DEAREST" 10000000000000]
abbrev R : PySem.W.OpenRow := PySem.W.OpenLaw.row PySem.Challenge.rw_benchworth_k63_bench_papers
abbrev hk : PySem.W.Hook := He.hookD 4 fa fn
def ob (s : PySem.W.SharedT) : He.AlD := He.obsDG 4 fa fn (HandSHeadRun.getT s)
theorem ob_eq (s : PySem.W.SharedT) : ob s = hk.obs s.abs := He.obsDG_eq (HandSHeadRun.getT_eq s)
def loose : List Str := (["is_whole", "is_bench_price", "is_bench_paper", "_law_begun", "_law_take", "_law_name", "_law_book", "_law_bench_paper", "_law_whole", "_law_due", "_law_other_part", "_law_bent", "MOST_BENCHES", "MOST_PRICES", "FARTHEST", "DEAREST"] : List Str)
theorem run (w : World) : HandSHeadRun.RunEq R (PySem.W.view R.prog [19]) hk ob 1600 loose w := by
  intro os
  kernel_rfl
theorem facts {P : Program} {w : World} {K : PySem.W.Frag} {h : Heap} {mg : Str → Option Value} {f : Addr} (X : K.In h) (G : h.Ns mainGlobals mg) (hfa : mg ("law" : Str) = some (.ref f)) (c : He.SaysD fa fn K) :
    ∃ fd : FuncData, (∀ (s : Shared) (v : Value), BindsTo s fd ⟨[v], []⟩ [("_law_script", v)]) ∧ ∀ base : Heap, K.In base → base.Ns mainGlobals mg → (∃ m, base.Ns sysModules m) → FKG P w K mg base 4 f fd ["_law_script"] (lawF 63) := by
  have g__law_begun := He.glo_ok X G (c.fact 0 (f := .glo "_law_begun") rfl)
  have g__law_take := He.glo_ok X G (c.fact 1 (f := .glo "_law_take") rfl)
  have g__law_name := He.glo_ok X G (c.fact 2 (f := .glo "_law_name") rfl)
  have g__law_book := He.glo_ok X G (c.fact 3 (f := .glo "_law_book") rfl)
  have g__law_bench_paper := He.glo_ok X G (c.fact 4 (f := .glo "_law_bench_paper") rfl)
  have g__law_other_part := He.glo_ok X G (c.fact 5 (f := .glo "_law_other_part") rfl)
  have g__law_bent := He.glo_ok X G (c.fact 6 (f := .glo "_law_bent") rfl)
  have g_is_whole := He.glo_ok X G (c.fact 7 (f := .glo "is_whole") rfl)
  have g_is_bench_price := He.glo_ok X G (c.fact 8 (f := .glo "is_bench_price") rfl)
  have g_is_bench_paper := He.glo_ok X G (c.fact 9 (f := .glo "is_bench_paper") rfl)
  have g__law_whole := He.glo_ok X G (c.fact 10 (f := .glo "_law_whole") rfl)
  have g__law_due := He.glo_ok X G (c.fact 11 (f := .glo "_law_due") rfl)
  have g_law := He.glo_ok X G (c.fact 12 (f := .glo "law") rfl)
  have b_bool := He.free_ok X G (c.fact 13 (f := .free "bool") rfl)
  have b_int := He.free_ok X G (c.fact 14 (f := .free "int") rfl)
  have b_isinstance := He.free_ok X G (c.fact 15 (f := .free "isinstance") rfl)
  have b_len := He.free_ok X G (c.fact 16 (f := .free "len") rfl)
  have b_list := He.free_ok X G (c.fact 17 (f := .free "list") rfl)
  have b_max := He.free_ok X G (c.fact 18 (f := .free "max") rfl)
  have b_min := He.free_ok X G (c.fact 19 (f := .free "min") rfl)
  have b_range := He.free_ok X G (c.fact 20 (f := .free "range") rfl)
  have b_repr := He.free_ok X G (c.fact 21 (f := .free "repr") rfl)
  have b_sorted := He.free_ok X G (c.fact 22 (f := .free "sorted") rfl)
  have b_str := He.free_ok X G (c.fact 23 (f := .free "str") rfl)
  have b_tuple := He.free_ok X G (c.fact 24 (f := .free "tuple") rfl)
  have z_MOST_BENCHES := He.int_ok X G (c.fact 25 (f := .int "MOST_BENCHES" 4) rfl)
  have z_MOST_PRICES := He.int_ok X G (c.fact 26 (f := .int "MOST_PRICES" 192) rfl)
  have z_FARTHEST := He.int_ok X G (c.fact 27 (f := .int "FARTHEST" 1000000000000) rfl)
  have z_DEAREST := He.int_ok X G (c.fact 28 (f := .int "DEAREST" 10000000000000) rfl)
  obtain ⟨fd__law_begun, FD__law_begun⟩ := c.def_ 0 (d := dd__law_begun) rfl
  have D__law_begun : Df K mg "_law_begun" s__law_begun := ⟨_, _, FD__law_begun, g__law_begun⟩
  obtain ⟨fd__law_take, FD__law_take⟩ := c.def_ 1 (d := dd__law_take) rfl
  have D__law_take : Df K mg "_law_take" s__law_take := ⟨_, _, FD__law_take, g__law_take⟩
  obtain ⟨fd__law_name, FD__law_name⟩ := c.def_ 2 (d := dd__law_name) rfl
  have D__law_name : Df K mg "_law_name" s__law_name := ⟨_, _, FD__law_name, g__law_name⟩
  obtain ⟨fd__law_book, FD__law_book⟩ := c.def_ 3 (d := dd__law_book) rfl
  have D__law_book : Df K mg "_law_book" s__law_book := ⟨_, _, FD__law_book, g__law_book⟩
  obtain ⟨fd__law_bench_paper, FD__law_bench_paper⟩ := c.def_ 4 (d := dd__law_bench_paper) rfl
  have D__law_bench_paper : Df K mg "_law_bench_paper" s__law_bench_paper := ⟨_, _, FD__law_bench_paper, g__law_bench_paper⟩
  obtain ⟨fd__law_other_part, FD__law_other_part⟩ := c.def_ 5 (d := dd__law_other_part) rfl
  have D__law_other_part : Df K mg "_law_other_part" s__law_other_part := ⟨_, _, FD__law_other_part, g__law_other_part⟩
  obtain ⟨fd__law_bent, FD__law_bent⟩ := c.def_ 6 (d := dd__law_bent) rfl
  have D__law_bent : Df K mg "_law_bent" s__law_bent := ⟨_, _, FD__law_bent, g__law_bent⟩
  obtain ⟨fd_is_whole, FD_is_whole⟩ := c.def_ 7 (d := dd_is_whole) rfl
  have D_is_whole : Df K mg "is_whole" s_is_whole := ⟨_, _, FD_is_whole, g_is_whole⟩
  obtain ⟨fd_is_bench_price, FD_is_bench_price⟩ := c.def_ 8 (d := dd_is_bench_price) rfl
  have D_is_bench_price : Df K mg "is_bench_price" s_is_bench_price := ⟨_, _, FD_is_bench_price, g_is_bench_price⟩
  obtain ⟨fd_is_bench_paper, FD_is_bench_paper⟩ := c.def_ 9 (d := dd_is_bench_paper) rfl
  have D_is_bench_paper : Df K mg "is_bench_paper" s_is_bench_paper := ⟨_, _, FD_is_bench_paper, g_is_bench_paper⟩
  obtain ⟨fd__law_whole, FD__law_whole⟩ := c.def_ 10 (d := dd__law_whole) rfl
  have D__law_whole : Df K mg "_law_whole" s__law_whole := ⟨_, _, FD__law_whole, g__law_whole⟩
  obtain ⟨fd__law_due, FD__law_due⟩ := c.def_ 11 (d := dd__law_due) rfl
  have D__law_due : Df K mg "_law_due" s__law_due := ⟨_, _, FD__law_due, g__law_due⟩
  obtain ⟨fd_law, FD_law⟩ := c.def_ 12 (d := dd_law) rfl
  have D_law : Df K mg "law" s_law := ⟨_, _, FD_law, g_law⟩
  have e := hfa.symm.trans g_law
  cases e
  have b := FunD.bindsA (ps := ["_law_script"]) FD_law fun _ _ _ _ _ _ us hl => match us, hl with | [_], _ => rfl
  refine ⟨fd_law, fun s v => b s [v] rfl, fun base _ _ hsy => ?_⟩
  have c__law_begun : Cal P w K mg base 1 "_law_begun" ["_law_script", "_law_k"] F__law_begun := ok__law_begun D__law_begun b_len b_max
  have c__law_take : Cal P w K mg base 1 "_law_take" ["_law_state", "_law_many"] F__law_take := ok__law_take D__law_take b_range b_int
  have c__law_name : Cal P w K mg base 2 "_law_name" ["_law_state", "_law_k"] F__law_name := ok__law_name D__law_name b_range c__law_take
  have c__law_book : Cal P w K mg base 3 "_law_book" ["_law_state", "_law_most"] F__law_book := ok__law_book D__law_book b_range c__law_take c__law_name
  have c__law_bench_paper : Cal P w K mg base 2 "_law_bench_paper" ["_law_state", "_law_book_here", "_law_benches", "_law_most"] F__law_bench_paper := ok__law_bench_paper D__law_bench_paper b_range b_len b_sorted c__law_take
  have c__law_other_part : CalG P w K mg base 2 "_law_other_part" ["_law_state", "_law_part", "_law_place"] F__law_other_part := ok__law_other_part D__law_other_part b_str c__law_take hsy
  have c__law_bent : CalG P w K mg base 3 "_law_bent" ["_law_state", "_law_paper"] F__law_bent := ok__law_bent D__law_bent b_tuple b_len b_list c__law_take c__law_other_part hsy
  have c_is_whole : Cal P w K mg base 1 "is_whole" ["thing"] F_is_whole := ok_is_whole D_is_whole b_isinstance b_int b_bool
  have c_is_bench_price : Cal P w K mg base 2 "is_bench_price" ["thing"] F_is_bench_price := ok_is_bench_price D_is_bench_price b_isinstance b_tuple b_len z_MOST_BENCHES z_FARTHEST z_DEAREST c_is_whole
  have c_is_bench_paper : Cal P w K mg base 3 "is_bench_paper" ["thing"] F_is_bench_paper := ok_is_bench_paper D_is_bench_paper b_isinstance b_list b_len z_MOST_PRICES c_is_bench_price
  have c__law_whole : Cal P w K mg base 1 "_law_whole" ["_law_found"] F__law_whole := ok__law_whole D__law_whole b_isinstance b_int b_bool
  have c__law_due : Cal P w K mg base 2 "_law_due" ["_law_thing"] F__law_due := ok__law_due D__law_due b_isinstance b_list b_len b_range b_tuple c__law_whole
  exact ok_law FD_law b_range b_min b_len b_int b_repr b_isinstance b_bool c__law_begun c__law_book c__law_bench_paper c__law_take c__law_bent c_is_bench_paper c__law_due hsy
end Row
open PySem PySem.W PySem.Calls PyProof.Rows
theorem PySem.Challenge.cw_benchworth_k63_bench_papers_holds : PySem.Challenge.rw_benchworth_k63_bench_papers.Holds := by
  w_on; o_law
  refine HandSHeadRun.head_any (r := OpenLaw.row PySem.Challenge.rw_benchworth_k63_bench_papers) (q := view (OpenLaw.row PySem.Challenge.rw_benchworth_k63_bench_papers).prog [19]) (H := Row.hk) (ob := Row.ob) (M := 1600) (loose := Row.loose) (d := HandSHeadRun.topDef (OpenLaw.row PySem.Challenge.rw_benchworth_k63_bench_papers).prog 19) (kwd := []) Row.ob_eq
    (by kernel_rfl) (fun s => by kernel_rfl) Row.run (by kernel_rfl) (by kernel_rfl) (by kernel_rfl) (by rfl) (by first | assumption | decide +kernel) (by decide +kernel) ⟨rfl, rfl, rfl, rfl, rfl, by decide +kernel⟩ ?hw ?hc
  case hw => w_witness2
  case hc =>
    refine DL.walkG (l := PySem.Challenge.rw_benchworth_k63_bench_papers) (n := 63) (k := 4) (x := "_law_script") rfl (by decide) (by kernel_rfl) ⟨rfl, by decide, by decide⟩ ?F (by kernel_rfl)
    intro w mg fa h Y G hmg0
    obtain ⟨K, KX, c⟩ := Y
    have hmg : mg ("law" : PySem.Str) = some (.ref fa) := by
      have e : (HandSHeadRun.topDef (OpenLaw.row PySem.Challenge.rw_benchworth_k63_bench_papers).prog 19).name = ("law" : PySem.Str) := by kernel_rfl
      rw [← e]
      exact hmg0
    obtain ⟨fd, hb, hF⟩ := Row.facts (P := (PySem.Challenge.rw_benchworth_k63_bench_papers).prog) (w := w) KX G hmg c
    exact ⟨K, fd, KX, hb, hF⟩
