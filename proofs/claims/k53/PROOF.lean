import PyProof.Rows.All
import Wide.All
import OpenK.AllK
import Wide.FinOn
import HandS.ForMost
import HandS.Exc
import HandS.IsInst
import HandS.Wide
import HandS.Defaults
import HandS.HeadHook1
import HandS.Lambda
import HandS.HeadHook4
import HandS.Flow
import HandS.Conv
import HandS.SetFor
import HandS.Strs
import HandS.SortInts
import HandS.Style
import HandS.More
import HandS.Rev
import HandS.Codes
import HandS.TupAny
import PyProof.StrOps2
import HandS.SortKw
import PyProof.MinMaxWalk
import KE.DataMinMax
import KE.SortData
import HandS.HeadHook2
import HandS.Deep
import HandS.NoneIn
import PyProof.ListStr
import PyProof.TupleOfStr
import HandS.ExcValue
import HandS.HeadEnd
import HandS.RaiseMore
import PyProof.ReprRoads
import PyProof.StrLawsRepr
import PyProof.FitsInt
import PyProof.CallFns
import PyProof.RowDictHeap
import HandS.ExcOwn
import HandS.ExcInit
import HandS.ExcField
import HandS.ExcIs
import HandS.TryOnly
import HandS.WordsExc
import KE.KExcIs
import HandS.Sort
import KE.SortKeyHeap
import HandS.Nested
import HandS.HeadWalk
import HandS.FStr
import HandS.Text
import HandS.StrMore
import HandS.Flt
import PyProof.StrLawsTight
import PyProof.StrLawsReplace
import KE.IntTextLaws
import HandS.RaiseFrom
import HandS.SuiteRaise
import HandS.ExcInitHot
import KE.DataCmp
import KE.KStateDown
import Lean
import HandS.Head0
import HandS.Head1
import HandS.Head2
import PySem.Challenge.RW_benchworth_k53_what_is_a_ring
set_option Elab.async false
set_option linter.all false
set_option maxRecDepth 100000
set_option maxHeartbeats 4000000
namespace DL
open PySem L2
/-- data by value; .ref: an owned object of the ghost heap -/
inductive D where
  | non | bl (b : Bool) | int (i : Int) | str (x : Str) | ty (n : String) | ref (a : Addr) | cl (a : Addr)
  | lst (ds : List D) | tup (ds : List D) | dct (ks : List Key) (ds : List D) | scr (ns : List Int) | exc (a dd : Addr) (f : Str) (e : D)
inductive GO where
  | lst (ds : List D) | dct (ks : List Key) (ds : List D) | ins (C : Str) (dx : Addr) (ks : List Str) (ds : List D) | own (x : Addr) | set (S : Int → Bool) (n : Nat) | tbl (f q : Str) (a : Addr) | gen (r : List V → HO → Prop) (ds : List D)
abbrev Gp := Addr → Option GO
def gput (G : Gp) (a : Addr) (o : GO) : Gp := fun b => if b = a then some o else G b
theorem gput_same {G : Gp} {a : Addr} {o : GO} : gput G a o a = some o := by unfold gput; rw [if_pos rfl]
theorem gput_ne {G : Gp} {a b : Addr} {o : GO} (h : b ≠ a) : gput G a o b = G b := by unfold gput; rw [if_neg h]
theorem gput_gput {G : Gp} {a : Addr} {o u : GO} : gput (gput G a o) a u = gput G a u := by
  funext b; unfold gput; split <;> rfl
/-- the script: locked, or written -/
def SqS (K : PySem.W.Frag) (H : Hp) (G : Gp) (P : Addr → Prop) (a : Addr) (xs : List V) : Prop :=
  ((∃ o, H a = some (.frz o (.lst xs))) ∧ G a = none) ∨ (H a = some (.lst xs) ∧ G a = none ∧ ¬ P a) ∨
    ∃ (o : Obj) (its : Array Value) (n : Nat), K.lookup a = some o ∧ o.cls = .type "list" ∧ o.dict = none ∧ o.data = .seq its n ∧ its.size ≤ sizeLine ∧ Vals xs its.toList
theorem SqS.sq {K : PySem.W.Frag} {H : Hp} {G : Gp} {P : Addr → Prop} {a : Addr} {xs : List V} (h : SqS K H G P a xs) : SqL K H a xs := by
  rcases h with ⟨⟨o, h⟩, _⟩ | ⟨h, _, _⟩ | h
  · exact .inl (.inr ⟨o, h⟩)
  · exact .inl (.inl h)
  · exact .inr h
mutual
def Rep (K : PySem.W.Frag) (H : Hp) (G : Gp) (P : Addr → Prop) : D → V → Prop
  | .non, v => v = .non
  | .bl b, v => v = .bl b
  | .int i, v => v = .int i
  | .str x, v => v = .str x
  | .ty n, v => v = .ty n
  | .cl a, v => v = .ref a
  | .ref a, v => v = .ref a ∧ ∃ o, G a = some o
  | .exc a dd f e, v => v = .ref a ∧ G dd = none ∧ ¬ P dd ∧ ∃ u, H dd = some (.xd [(f, u)]) ∧ Rep K H G P e u
  | .scr ns, v => ∃ a, v = .ref a ∧ ns.length ≤ sizeLine ∧ SqS K H G P a (ns.map V.int)
  | .lst ds, v => ∃ a xs, v = .ref a ∧ G a = none ∧ ¬ P a ∧ H a = some (.lst xs) ∧ ds.length ≤ sizeLine ∧ Reps K H G P ds xs
  | .tup ds, v => ∃ a xs, v = .ref a ∧ G a = none ∧ ¬ P a ∧ H a = some (.tup xs) ∧ ds.length ≤ sizeLine ∧ Reps K H G P ds xs
  | .dct ks ds, v => ∃ a xs, v = .ref a ∧ G a = none ∧ ¬ P a ∧ H a = some (.dK (ks.zip xs)) ∧ ks.length = ds.length ∧ Reps K H G P ds xs
def Reps (K : PySem.W.Frag) (H : Hp) (G : Gp) (P : Addr → Prop) : List D → List V → Prop
  | [], xs => xs = []
  | d :: ds, xs => ∃ x r, xs = x :: r ∧ Rep K H G P d x ∧ Reps K H G P ds r
end
def RelO (K : PySem.W.Frag) (H : Hp) (G : Gp) (P : Addr → Prop) : GO → HO → Prop
  | .lst ds, ho => ∃ xs, ho = .lst xs ∧ ds.length ≤ sizeLine ∧ Reps K H G P ds xs
  | .dct ks ds, ho => ∃ xs, ho = .dK (ks.zip xs) ∧ ks.length = ds.length ∧ Reps K H G P ds xs
  | .ins C dx ks ds, ho => ∃ xs, ho = .ins (He.ga K C) dx (ks.zip xs) ∧ ks.length = ds.length ∧ Reps K H G P ds xs
  | .own x, ho => ho = .own x
  | .set S n, ho => ho = .set S n
  | .gen r ds, ho => ∃ xs, r xs ho ∧ (∀ ys, ho ≠ .tup ys) ∧ Reps K H G P ds xs
  | .tbl f q a, ho => a = (He.cT K (f, none)).2 ∧ ∃ ps, ho = .tbl ps ∧ TriplesOk ps.toList ∧ ∀ (pos : Pos) (cv : Value), codeAmong pos ps.toList = some cv → ∃ c, cv = .ref c ∧ H c = some (LamX.CodeO c q) ∧ G c = none ∧ ¬ P c
/-- the world is held: owned objects as told, private ones apart -/
structure Wo (K : PySem.W.Frag) (P : Addr → Prop) (G : Gp) (H : Hp) : Prop where
  own : ∀ a o, G a = some o → ∃ ho, H a = some ho ∧ RelO K H G P o ho
  prv : ∀ a, P a → G a = none ∧ ∃ ho, H a = some ho ∧ ∀ ys, ho ≠ .tup ys
/-- what a step keeps: what is not owned stands; what is owned stays owned -/
structure Step (G : Gp) (H : Hp) (G' : Gp) (H' : Hp) : Prop where
  keep : ∀ a o, H a = some o → G a = none → H' a = some o ∧ G' a = none
  own : ∀ a o, G a = some o → ∃ o', G' a = some o'
theorem Step.refl (G : Gp) (H : Hp) : Step G H G H := ⟨fun _ _ h g => ⟨h, g⟩, fun _ o h => ⟨o, h⟩⟩
theorem Step.trans {G G1 G2 : Gp} {H H1 H2 : Hp} (a : Step G H G1 H1) (b : Step G1 H1 G2 H2) : Step G H G2 H2 :=
  ⟨fun c o h g => let ⟨h1, g1⟩ := a.keep c o h g; b.keep c o h1 g1, fun c o h => let ⟨o1, h1⟩ := a.own c o h; b.own c o1 h1⟩
mutual
theorem Rep.mono {K : PySem.W.Frag} {P P' : Addr → Prop} {G G' : Gp} {H H' : Hp} (s : Step G H G' H') (hP : ∀ a, (∃ ho, H a = some ho) → P' a → P a) : ∀ {d : D} {v : V}, Rep K H G P d v → Rep K H' G' P' d v
  | .non, _, h => by unfold Rep at h ⊢; exact h
  | .bl _, _, h => by unfold Rep at h ⊢; exact h
  | .int _, _, h => by unfold Rep at h ⊢; exact h
  | .str _, _, h => by unfold Rep at h ⊢; exact h
  | .ty _, _, h => by unfold Rep at h ⊢; exact h
  | .cl _, _, h => by unfold Rep at h ⊢; exact h
  | .ref a, _, h => by
    unfold Rep at h ⊢
    obtain ⟨rfl, o, ho⟩ := h
    exact ⟨rfl, s.own _ _ ho⟩
  | .exc a dd f e, _, h => by
    unfold Rep at h ⊢
    obtain ⟨rfl, g, p, u, r, q⟩ := h
    exact ⟨rfl, (s.keep _ _ r g).2, fun x => p (hP dd ⟨_, r⟩ x), u, (s.keep _ _ r g).1, Rep.mono s hP q⟩
  | .scr ns, _, h => by
    unfold Rep at h ⊢
    obtain ⟨a, rfl, z, ⟨⟨o, h⟩, g⟩ | ⟨h, g, pp⟩ | h⟩ := h
    · exact ⟨a, rfl, z, .inl ⟨⟨o, (s.keep _ _ h g).1⟩, (s.keep _ _ h g).2⟩⟩
    · exact ⟨a, rfl, z, .inr (.inl ⟨(s.keep _ _ h g).1, (s.keep _ _ h g).2, fun x => pp (hP a ⟨_, h⟩ x)⟩)⟩
    · exact ⟨a, rfl, z, .inr (.inr h)⟩
  | .lst ds, _, h => by
    unfold Rep at h ⊢
    obtain ⟨a, xs, rfl, g, p, r, z, q⟩ := h
    exact ⟨a, xs, rfl, (s.keep _ _ r g).2, fun x => p (hP a ⟨_, r⟩ x), (s.keep _ _ r g).1, z, Reps.mono s hP q⟩
  | .tup ds, _, h => by
    unfold Rep at h ⊢
    obtain ⟨a, xs, rfl, g, p, r, z, q⟩ := h
    exact ⟨a, xs, rfl, (s.keep _ _ r g).2, fun x => p (hP a ⟨_, r⟩ x), (s.keep _ _ r g).1, z, Reps.mono s hP q⟩
  | .dct ks ds, _, h => by
    unfold Rep at h ⊢
    obtain ⟨a, xs, rfl, g, p, r, z, q⟩ := h
    exact ⟨a, xs, rfl, (s.keep _ _ r g).2, fun x => p (hP a ⟨_, r⟩ x), (s.keep _ _ r g).1, z, Reps.mono s hP q⟩
theorem Reps.mono {K : PySem.W.Frag} {P P' : Addr → Prop} {G G' : Gp} {H H' : Hp} (s : Step G H G' H') (hP : ∀ a, (∃ ho, H a = some ho) → P' a → P a) : ∀ {ds : List D} {vs : List V}, Reps K H G P ds vs → Reps K H' G' P' ds vs
  | [], _, h => by unfold Reps at h ⊢; exact h
  | d :: ds, _, h => by
    unfold Reps at h ⊢
    obtain ⟨x, r, rfl, h1, h2⟩ := h
    exact ⟨x, r, rfl, Rep.mono s hP h1, Reps.mono s hP h2⟩
end
section
variable {K : PySem.W.Frag} {P : Addr → Prop} {G G' : Gp} {H H' : Hp}
theorem Rep.step {d : D} {v : V} (s : Step G H G' H') (h : Rep K H G P d v) : Rep K H' G' P d v := Rep.mono s (fun _ _ x => x) h
theorem Reps.step {ds : List D} {vs : List V} (s : Step G H G' H') (h : Reps K H G P ds vs) : Reps K H' G' P ds vs := Reps.mono s (fun _ _ x => x) h
theorem reps_nil : Reps K H G P [] [] := by unfold Reps; rfl
theorem reps_cons {d : D} {ds : List D} {v : V} {vs : List V} (h : Rep K H G P d v) (t : Reps K H G P ds vs) : Reps K H G P (d :: ds) (v :: vs) := by
  rw [Reps]; exact ⟨v, vs, rfl, h, t⟩
theorem Reps.length : ∀ {ds : List D} {vs : List V}, Reps K H G P ds vs → ds.length = vs.length
  | [], _, h => by unfold Reps at h; subst h; rfl
  | d :: ds, _, h => by
    unfold Reps at h
    obtain ⟨x, r, rfl, _, h2⟩ := h
    simp [Reps.length h2]
theorem Reps.get : ∀ {ds : List D} {vs : List V} {i : Nat} {d : D}, Reps K H G P ds vs → ds[i]? = some d → ∃ v, vs[i]? = some v ∧ Rep K H G P d v
  | [], _, _, _, _, e => by simp at e
  | d :: ds, _, i, d', h, e => by
    unfold Reps at h
    obtain ⟨x, r, rfl, h1, h2⟩ := h
    cases i with
    | zero => simp at e; subst e; exact ⟨x, by simp, h1⟩
    | succ i =>
      obtain ⟨v, e1, e2⟩ := Reps.get (i := i) (d := d') h2 (by simpa using e)
      exact ⟨v, by simpa using e1, e2⟩
theorem Reps.append : ∀ {ds es : List D} {vs ws : List V}, Reps K H G P ds vs → Reps K H G P es ws → Reps K H G P (ds ++ es) (vs ++ ws)
  | [], es, _, ws, h, k => by unfold Reps at h; subst h; exact k
  | d :: ds, es, _, ws, h, k => by
    unfold Reps at h
    obtain ⟨x, r, rfl, h1, h2⟩ := h
    exact reps_cons h1 (Reps.append h2 k)
theorem Reps.set {d : D} {v : V} (hd : Rep K H G P d v) : ∀ {ds : List D} {vs : List V} (i : Nat), Reps K H G P ds vs → Reps K H G P (ds.set i d) (vs.set i v)
  | [], _, _, h => by unfold Reps at h; subst h; exact reps_nil
  | e :: ds, _, i, h => by
    unfold Reps at h
    obtain ⟨x, r, rfl, h1, h2⟩ := h
    cases i with
    | zero => exact reps_cons hd h2
    | succ i => exact reps_cons h1 (Reps.set hd i h2)
theorem Reps.drop : ∀ {ds : List D} {vs : List V} (n : Nat), Reps K H G P ds vs → Reps K H G P (ds.drop n) (vs.drop n)
  | _, _, 0, h => h
  | [], _, n + 1, h => by unfold Reps at h; subst h; exact reps_nil
  | e :: ds, _, n + 1, h => by
    unfold Reps at h
    obtain ⟨x, r, rfl, h1, h2⟩ := h
    exact Reps.drop n h2
theorem Reps.take : ∀ {ds : List D} {vs : List V} (n : Nat), Reps K H G P ds vs → Reps K H G P (ds.take n) (vs.take n)
  | _, _, 0, h => reps_nil
  | [], _, n + 1, h => by unfold Reps at h; subst h; exact reps_nil
  | e :: ds, _, n + 1, h => by
    unfold Reps at h
    obtain ⟨x, r, rfl, h1, h2⟩ := h
    exact reps_cons h1 (Reps.take n h2)
theorem reps_of_ints : ∀ {ns : List Int}, Reps K H G P (ns.map D.int) (ns.map V.int)
  | [] => reps_nil
  | n :: ns => reps_cons (by unfold Rep; rfl) reps_of_ints
theorem rep_int {i : Int} : Rep K H G P (.int i) (.int i) := by unfold Rep; rfl
theorem rep_bl {i : Bool} : Rep K H G P (.bl i) (.bl i) := by unfold Rep; rfl
theorem rep_str {i : Str} : Rep K H G P (.str i) (.str i) := by unfold Rep; rfl
theorem rep_non : Rep K H G P .non .non := by unfold Rep; rfl
theorem rep_lst {a : Addr} {xs : List V} {ds : List D} (g : G a = none) (p : ¬ P a) (r : H a = some (.lst xs)) (z : ds.length ≤ sizeLine) (q : Reps K H G P ds xs) : Rep K H G P (.lst ds) (.ref a) := by
  unfold Rep; exact ⟨a, xs, rfl, g, p, r, z, q⟩
theorem rep_tup {a : Addr} {xs : List V} {ds : List D} (g : G a = none) (p : ¬ P a) (r : H a = some (.tup xs)) (z : ds.length ≤ sizeLine) (q : Reps K H G P ds xs) : Rep K H G P (.tup ds) (.ref a) := by
  unfold Rep; exact ⟨a, xs, rfl, g, p, r, z, q⟩
theorem RelO.step {P' : Addr → Prop} {o : GO} {ho : HO} (s : Step G H G' H') (hP : ∀ a, (∃ ho, H a = some ho) → P' a → P a) (h : RelO K H G P o ho) : RelO K H' G' P' o ho := by
  cases o with
  | lst ds => obtain ⟨xs, e, z, q⟩ := h; exact ⟨xs, e, z, q.mono s hP⟩
  | dct ks ds => obtain ⟨xs, e, z, q⟩ := h; exact ⟨xs, e, z, q.mono s hP⟩
  | ins C dx ks ds => obtain ⟨xs, e, z, q⟩ := h; exact ⟨xs, e, z, q.mono s hP⟩
  | own x => exact h
  | set S n => exact h
  | gen r ds => obtain ⟨xs, e, z, q⟩ := h; exact ⟨xs, e, z, q.mono s hP⟩
  | tbl f q a =>
    obtain ⟨ea, ps, e, z, q⟩ := h
    refine ⟨ea, ps, e, z, fun pos cv hc => ?_⟩
    obtain ⟨c, e1, e2, e3, e4⟩ := q pos cv hc
    exact ⟨c, e1, (s.keep c _ e2 e3).1, (s.keep c _ e2 e3).2, fun x => e4 (hP c ⟨_, e2⟩ x)⟩
theorem Wo.fresh (w : Wo K P G H) {p : Addr} (h : H p = none) : G p = none ∧ ¬ P p := by
  refine ⟨?_, fun q => ?_⟩
  · cases e : G p with
    | none => rfl
    | some o => obtain ⟨ho, q, _⟩ := w.own p o e; rw [h] at q; cases q
  · obtain ⟨_, ho, e, _⟩ := w.prv p q; rw [h] at e; cases e
/-- a new object, not owned -/
theorem Step.new {p : Addr} {o : HO} (h : H p = none) : Step G H G (upd H p o) :=
  ⟨fun a u e g => ⟨by rw [upd_ne (ne_of_none e h)]; exact e, g⟩, fun _ u e => ⟨u, e⟩⟩
theorem Wo.new (w : Wo K P G H) {p : Addr} {o : HO} (h : H p = none) : Wo K P G (upd H p o) := by
  refine ⟨fun a u e => ?_, fun a q => ?_⟩
  · obtain ⟨ho, e1, r⟩ := w.own a u e
    exact ⟨ho, by rw [upd_ne (ne_of_none e1 h)]; exact e1, r.step (Step.new h) fun _ _ x => x⟩
  · obtain ⟨g, ho, e, nt⟩ := w.prv a q
    exact ⟨g, ho, by rw [upd_ne (ne_of_none e h)]; exact e, nt⟩
/-- a new object, owned -/
theorem Step.newOwn {p : Addr} {o : HO} {g : GO} (w : Wo K P G H) (h : H p = none) : Step G H (gput G p g) (upd H p o) := by
  refine ⟨fun a u e q => ?_, fun a u e => ?_⟩
  · have ne : a ≠ p := ne_of_none e h
    exact ⟨by rw [upd_ne ne]; exact e, by rw [gput_ne ne]; exact q⟩
  · by_cases ne : a = p
    · subst ne; exact ⟨g, gput_same⟩
    · exact ⟨u, by rw [gput_ne ne]; exact e⟩
theorem Wo.newOwn (w : Wo K P G H) {p : Addr} {o : HO} {g : GO} (h : H p = none) (r : RelO K (upd H p o) (gput G p g) P g o) : Wo K P (gput G p g) (upd H p o) := by
  refine ⟨fun a u e => ?_, fun a q => ?_⟩
  · by_cases ne : a = p
    · subst ne; rw [gput_same] at e; cases e; exact ⟨o, upd_same, r⟩
    · rw [gput_ne ne] at e
      obtain ⟨ho, e1, r1⟩ := w.own a u e
      exact ⟨ho, by rw [upd_ne ne]; exact e1, r1.step (Step.newOwn w h) fun _ _ x => x⟩
  · obtain ⟨g1, ho, e, nt⟩ := w.prv a q
    have ne : a ≠ p := ne_of_none e h
    exact ⟨by rw [gput_ne ne]; exact g1, ho, by rw [upd_ne ne]; exact e, nt⟩
/-- an owned object changed -/
theorem Step.chg {p : Addr} {o : HO} {g g0 : GO} (h : G p = some g0) : Step G H (gput G p g) (upd H p o) := by
  refine ⟨fun a u e q => ?_, fun a u e => ?_⟩
  · have ne : a ≠ p := fun z => by subst z; rw [h] at q; cases q
    exact ⟨by rw [upd_ne ne]; exact e, by rw [gput_ne ne]; exact q⟩
  · by_cases ne : a = p
    · subst ne; exact ⟨g, gput_same⟩
    · exact ⟨u, by rw [gput_ne ne]; exact e⟩
theorem Wo.chg (w : Wo K P G H) {p : Addr} {o : HO} {g g0 : GO} (h : G p = some g0) (r : RelO K (upd H p o) (gput G p g) P g o) : Wo K P (gput G p g) (upd H p o) := by
  refine ⟨fun a u e => ?_, fun a q => ?_⟩
  · by_cases ne : a = p
    · subst ne; rw [gput_same] at e; cases e; exact ⟨o, upd_same, r⟩
    · rw [gput_ne ne] at e
      obtain ⟨ho, e1, r1⟩ := w.own a u e
      exact ⟨ho, by rw [upd_ne ne]; exact e1, r1.step (Step.chg h) fun _ _ x => x⟩
  · obtain ⟨g1, ho, e, nt⟩ := w.prv a q
    have ne : a ≠ p := fun z => by subst z; rw [h] at g1; cases g1
    exact ⟨by rw [gput_ne ne]; exact g1, ho, by rw [upd_ne ne]; exact e, nt⟩
end
end DL
set_option Elab.async false
set_option linter.all false
set_option maxRecDepth 100000
set_option maxHeartbeats 4000000
namespace DL
open PySem L2
abbrev DK := D → Gp → Prop
abbrev Sd := List (Option D)
abbrev EE := Sd → Gp → DK → Prop
abbrev ET := Sd → Gp → (Bool → Gp → Prop) → Prop
abbrev EA := Sd → Gp → (List D → Gp → Prop) → Prop
/-- an exception: its class by name, its field -/
structure Xd where
  c : Str
  f : Option (Str × D)
structure En where
  nx : Sd → Gp → Prop
  rt : DK
  bk : Sd → Gp → Prop := fun _ _ => False
  ct : Sd → Gp → Prop := fun _ _ => False
  xr : Xd → Sd → Gp → Prop := fun _ _ _ => False
abbrev ES := En → Sd → Gp → Prop
/-- the slots and the world told -/
structure Rl (K : PySem.W.Frag) (P : Addr → Prop) (s : Sd) (G : Gp) (σ : St) (H : Hp) : Prop where
  wo : Wo K P G H
  len : s.length = σ.length
  at_ : ∀ (i : Nat) (d : D), s[i]? = some (some d) → ∃ v, σ[i]? = some (some v) ∧ Rep K H G P d v
section
variable {K : PySem.W.Frag} {P : Addr → Prop} {s : Sd} {G G' : Gp} {σ : St} {H H' : Hp}
theorem Rl.step (r : Rl K P s G σ H) (st : Step G H G' H') (w : Wo K P G' H') : Rl K P s G' σ H' :=
  ⟨w, r.len, fun i d e => let ⟨v, e1, e2⟩ := r.at_ i d e; ⟨v, e1, e2.step st⟩⟩
theorem Rl.set (r : Rl K P s G σ H) {i : Nat} {d : D} {v : V} (h : Rep K H G P d v) : Rl K P (s.set i (some d)) G (σ.set i (some v)) H := by
  refine ⟨r.wo, by rw [List.length_set, List.length_set]; exact r.len, fun j e q => ?_⟩
  by_cases hj : i = j
  · subst hj
    by_cases hi : i < s.length
    · rw [List.getElem?_set_self hi] at q
      cases q
      exact ⟨v, List.getElem?_set_self (by rw [← r.len]; exact hi), h⟩
    · rw [List.getElem?_eq_none (by rw [List.length_set]; omega)] at q; cases q
  · rw [List.getElem?_set_ne hj] at q
    obtain ⟨w, e1, e2⟩ := r.at_ j e q
    exact ⟨w, by rw [List.getElem?_set_ne hj]; exact e1, e2⟩
end
/-- a reading over the heap keeps one over data -/
def LE (K : PySem.W.Frag) (te : TE) (t : EE) : Prop := ∀ (P : Addr → Prop) (s : Sd) (G : Gp) (Q : DK) (σ : St) (H : Hp) (R : VK), t s G Q → Rl K P s G σ H →
  (∀ d G' v H', Step G H G' H' → Wo K P G' H' → Rep K H' G' P d v → Q d G' → R v H') → te σ H R
def LT (K : PySem.W.Frag) (te : TT) (t : ET) : Prop := ∀ (P : Addr → Prop) (s : Sd) (G : Gp) (Q : Bool → Gp → Prop) (σ : St) (H : Hp) (R : Bool → Hp → Prop), t s G Q → Rl K P s G σ H →
  (∀ b G' H', Step G H G' H' → Wo K P G' H' → Q b G' → R b H') → te σ H R
def LA (K : PySem.W.Frag) (n : Nat) (te : TA) (t : EA) : Prop := ∀ (P : Addr → Prop) (s : Sd) (G : Gp) (Q : List D → Gp → Prop) (σ : St) (H : Hp) (R : List V → Hp → Prop), t s G Q → Rl K P s G σ H →
  (∀ ds G' vs H', Step G H G' H' → Wo K P G' H' → Reps K H' G' P ds vs → ds.length = n → Q ds G' → R vs H') → te σ H R
/-- what is raised, over the heap; the classes' addresses -/
structure Wx where
  w : WX
def RepX (K : PySem.W.Frag) (H : Hp) (G : Gp) (P : Addr → Prop) (x : Xd) (cls : Value) (d : Option Addr) : Prop := cls = .ref (He.ga K x.c) ∧ match x.f with
  | none => d = none
  | some (n, e) => ∃ a v, d = some a ∧ G a = none ∧ ¬ P a ∧ H a = some (.xd [(n, v)]) ∧ Rep K H G P e v
theorem RepX.step {K : PySem.W.Frag} {P : Addr → Prop} {G G' : Gp} {H H' : Hp} {x : Xd} {cls : Value} {d : Option Addr} (s : Step G H G' H') (h : RepX K H G P x cls d) : RepX K H' G' P x cls d := by
  obtain ⟨e, h⟩ := h
  refine ⟨e, ?_⟩
  split
  · rename_i q; rw [q] at h; exact h
  · rename_i n e q
    rw [q] at h
    obtain ⟨a, v, e1, g, p, e2, r⟩ := h
    exact ⟨a, v, e1, (s.keep a _ e2 g).2, p, (s.keep a _ e2 g).1, r.step s⟩
/-- what follows a statement, over the heap and over data -/
structure Co (K : PySem.W.Frag) (Y : Wx) (P : Addr → Prop) (G : Gp) (H : Hp) (N : En) (M : Ends) : Prop where
  nx : ∀ s' G' σ' H', Step G H G' H' → Rl K P s' G' σ' H' → N.nx s' G' → M.nx σ' H'
  rt : ∀ d G' v H', Step G H G' H' → Wo K P G' H' → Rep K H' G' P d v → N.rt d G' → M.rt v H'
  bk : ∀ s' G' σ' H', Step G H G' H' → Rl K P s' G' σ' H' → N.bk s' G' → M.bk σ' H'
  ct : ∀ s' G' σ' H', Step G H G' H' → Rl K P s' G' σ' H' → N.ct s' G' → M.ct σ' H'
  xr : ∀ x s' G' cls d σ' H', Step G H G' H' → Rl K P s' G' σ' H' → RepX K H' G' P x cls d → N.xr x s' G' → Y.w cls d σ' H'
theorem Co.step {K : PySem.W.Frag} {Y : Wx} {P : Addr → Prop} {G G' : Gp} {H H' : Hp} {N : En} {M : Ends} (c : Co K Y P G H N M) (st : Step G H G' H') : Co K Y P G' H' N M :=
  ⟨fun a b e d x y z => c.nx a b e d (st.trans x) y z, fun a b e d x y z w => c.rt a b e d (st.trans x) y z w, fun a b e d x y z => c.bk a b e d (st.trans x) y z, fun a b e d x y z => c.ct a b e d (st.trans x) y z, fun a b e d f g h x y z w => c.xr a b e d f g h (st.trans x) y z w⟩
def LS (K : PySem.W.Frag) (Y : Wx) (ts : TS) (t : ES) : Prop := ∀ (P : Addr → Prop) (s : Sd) (G : Gp) (N : En) (σ : St) (H : Hp) (M : Ends), t N s G → Rl K P s G σ H → Co K Y P G H N M → ts M σ H
def upE (K : PySem.W.Frag) (t : EE) : TE := fun σ H R => ∃ (P : Addr → Prop) (s : Sd) (G : Gp) (Q : DK), t s G Q ∧ Rl K P s G σ H ∧ ∀ d G' v H', Step G H G' H' → Wo K P G' H' → Rep K H' G' P d v → Q d G' → R v H'
def upT (K : PySem.W.Frag) (t : ET) : TT := fun σ H R => ∃ (P : Addr → Prop) (s : Sd) (G : Gp) (Q : Bool → Gp → Prop), t s G Q ∧ Rl K P s G σ H ∧ ∀ b G' H', Step G H G' H' → Wo K P G' H' → Q b G' → R b H'
def upA (K : PySem.W.Frag) (n : Nat) (t : EA) : TA := fun σ H R => ∃ (P : Addr → Prop) (s : Sd) (G : Gp) (Q : List D → Gp → Prop), t s G Q ∧ Rl K P s G σ H ∧ ∀ ds G' vs H', Step G H G' H' → Wo K P G' H' → Reps K H' G' P ds vs → ds.length = n → Q ds G' → R vs H'
def upS (K : PySem.W.Frag) (Y : Wx) (t : ES) : TS := fun M σ H => ∃ (P : Addr → Prop) (s : Sd) (G : Gp) (N : En), t N s G ∧ Rl K P s G σ H ∧ Co K Y P G H N M
inductive JE (X : Cx) (e : Expr) (t : EE) : Prop where
  | mk {te : TE} (a : PE X e te) (b : LE X.K te t) : JE X e t
inductive JT (X : Cx) (e : Expr) (t : ET) : Prop where
  | mk {te : TT} (a : PT X e te) (b : LT X.K te t) : JT X e t
inductive JW (X : Cx) (e : Expr) (t : ET) : Prop where
  | mk {te : TT} (a : PW X e te) (b : LT X.K te t) : JW X e t
inductive JA (X : Cx) (es : List Expr) (t : EA) : Prop where
  | mk {te : TA} (a : PA X es te) (b : LA X.K es.length te t) : JA X es t
inductive JS (X : Cx) (Y : Wx) (st : Stmt) (t : ES) : Prop where
  | mk {ts : TS} (a : PS X st ts) (b : LS X.K Y ts t) : JS X Y st t
inductive JSs (X : Cx) (Y : Wx) (st : List Stmt) (t : ES) : Prop where
  | mk {ts : TS} (a : PSs X st ts) (b : LS X.K Y ts t) : JSs X Y st t
section
variable {X : Cx} {e : Expr} {es : List Expr} {st : Stmt} {sts : List Stmt} {t : EE} {tt : ET} {ta : EA} {ts : ES}
theorem JE.pe (h : JE X e t) : PE X e (upE X.K t) := by
  obtain ⟨a, b⟩ := h
  exact ⟨fun pins s σ H Q I ⟨P, s', G, Q', h1, h2, h3⟩ => a.run pins s σ H Q I (b P s' G Q' σ H Q h1 h2 h3)⟩
theorem JE.le (h : JE X e t) : LE X.K (upE X.K t) t := fun P s G Q σ H R h1 h2 h3 => ⟨P, s, G, Q, h1, h2, h3⟩
theorem JT.pt (h : JT X e tt) : PT X e (upT X.K tt) := by
  obtain ⟨a, b⟩ := h
  exact ⟨fun pins s σ H Q I ⟨P, s', G, Q', h1, h2, h3⟩ => a.run pins s σ H Q I (b P s' G Q' σ H Q h1 h2 h3)⟩
theorem JT.lt (h : JT X e tt) : LT X.K (upT X.K tt) tt := fun P s G Q σ H R h1 h2 h3 => ⟨P, s, G, Q, h1, h2, h3⟩
theorem JW.pw (h : JW X e tt) : PW X e (upT X.K tt) := by
  obtain ⟨a, b⟩ := h
  exact ⟨fun wh pins s σ H Q I ⟨P, s', G, Q', h1, h2, h3⟩ => a.run wh pins s σ H Q I (b P s' G Q' σ H Q h1 h2 h3)⟩
theorem JW.lt (h : JW X e tt) : LT X.K (upT X.K tt) tt := fun P s G Q σ H R h1 h2 h3 => ⟨P, s, G, Q, h1, h2, h3⟩
theorem JA.pa (h : JA X es ta) : PA X es (upA X.K es.length ta) := by
  obtain ⟨a, b⟩ := h
  exact ⟨fun pos pins s σ H Q I ⟨P, s', G, Q', h1, h2, h3⟩ => a.run pos pins s σ H Q I (b P s' G Q' σ H Q h1 h2 h3)⟩
theorem JA.la (h : JA X es ta) : LA X.K es.length (upA X.K es.length ta) ta := fun P s G Q σ H R h1 h2 h3 => ⟨P, s, G, Q, h1, h2, h3⟩
theorem JS.ps {Y : Wx} (h : JS X Y st ts) : PS X st (upS X.K Y ts) := by
  obtain ⟨a, b⟩ := h
  exact ⟨fun pins s σ H M I ⟨P, s', G, N, h1, h2, h3⟩ => a.run pins s σ H M I (b P s' G N σ H M h1 h2 h3)⟩
theorem JS.ls {Y : Wx} (h : JS X Y st ts) : LS X.K Y (upS X.K Y ts) ts := fun P s G N σ H M h1 h2 h3 => ⟨P, s, G, N, h1, h2, h3⟩
theorem JSs.ps {Y : Wx} (h : JSs X Y sts ts) : PSs X sts (upS X.K Y ts) := by
  obtain ⟨a, b⟩ := h
  exact ⟨fun pins s σ H M I ⟨P, s', G, N, h1, h2, h3⟩ => a.run pins s σ H M I (b P s' G N σ H M h1 h2 h3)⟩
theorem JSs.ls {Y : Wx} (h : JSs X Y sts ts) : LS X.K Y (upS X.K Y ts) ts := fun P s G N σ H M h1 h2 h3 => ⟨P, s, G, N, h1, h2, h3⟩
end
@[simp] def eVar (i : Nat) : EE := fun s G Q => match s[i]? with
  | some (some d) => Q d G
  | _ => False
@[simp] def eC (d : D) : EE := fun _ G Q => Q d G
section
variable {X : Cx} {K : PySem.W.Frag}
theorem le_var {i : Nat} : LE K (tVar i) (eVar i) := fun P s G Q σ H R h r k => by
  unfold eVar at h
  split at h
  · rename_i d e
    obtain ⟨v, e1, e2⟩ := r.at_ i d e
    exact ⟨v, e1, k d G v H (Step.refl _ _) r.wo e2 h⟩
  · exact h.elim
theorem jv (i : Nat) {x : Str} {pos : Pos} (hN : X.N[i]? = some x := by rfl) (hv : Vis X.env.scope x := by first | exact Or.inl rfl | exact Or.inr (Or.inl rfl) | exact Or.inr (Or.inr rfl)) (hd : (x == ("__debug__" : Str)) = false := by decide)
    (hcd : (x == ("__classdict__" : Str)) = false := by decide) : JE X (.Name x pos) (eVar i) := ⟨pv i hN hv hd hcd, le_var⟩
theorem le_c {v : V} {d : D} (h : ∀ H G P, Rep K H G P d v) : LE K (tC v) (eC d) := fun P s G Q σ H R q r k => k d G v H (Step.refl _ _) r.wo (h _ _ _) q
theorem j_int {i j pos} : JE X (.Constant (.int i) j pos) (eC (.int i)) := ⟨pe_int, le_c fun _ _ _ => rep_int⟩
theorem j_bl {i j pos} : JE X (.Constant (.bool i) j pos) (eC (.bl i)) := ⟨pe_bl, le_c fun _ _ _ => rep_bl⟩
theorem j_non {j pos} : JE X (.Constant .none j pos) (eC .non) := ⟨pe_non, le_c fun _ _ _ => rep_non⟩
theorem j_str {i j pos} : JE X (.Constant (.str i) j pos) (eC (.str i)) := ⟨pe_str, le_c fun _ _ _ => rep_str⟩
/-- a module's int, text -/
theorem j_gint {x : Str} {i : Int} {pos : Pos} (hg : Gl X x) (hm : ∃ t, X.mg x = some (.int i t)) (hd : (x == ("__debug__" : Str)) = false := by decide) : JE X (.Name x pos) (eC (.int i)) :=
  let ⟨t, e⟩ := hm; ⟨pe_glob (v := .int i) hg e ⟨t, rfl⟩ hd, le_c fun _ _ _ => rep_int⟩
theorem j_gstr {x z : Str} {pos : Pos} (hg : Gl X x) (hm : ∃ t, X.mg x = some (.str z t)) (hd : (x == ("__debug__" : Str)) = false := by decide) : JE X (.Name x pos) (eC (.str z)) :=
  let ⟨t, e⟩ := hm; ⟨pe_glob (v := .str z) hg e ⟨t, rfl⟩ hd, le_c fun _ _ _ => rep_str⟩
theorem j_ty {x : Str} {n : String} {pos : Pos} (hg : Gl X x) (hm : X.mg x = none) (hv : bootBuiltins x = some (.type n)) (hn : x ≠ "__name__" := by decide) (hd : (x == ("__debug__" : Str)) = false := by decide) : JE X (.Name x pos) (eC (.ty n)) :=
  ⟨pe_bltn (v := .ty n) hg hm hv rfl hn hd, le_c fun _ _ _ => by unfold Rep; rfl⟩
end
abbrev OD := D → D → Gp → DK → Prop
abbrev UD := D → Gp → DK → Prop
/-- an operator over the heap keeps one over data -/
def LO (K : PySem.W.Frag) (r : R2) (o : OD) : Prop := ∀ (P : Addr → Prop) (G : Gp) (H : Hp) (x y : D) (u v : V) (Q : DK) (R : VK), o x y G Q → Wo K P G H → Rep K H G P x u → Rep K H G P y v →
  (∀ d G' w H', Step G H G' H' → Wo K P G' H' → Rep K H' G' P d w → Q d G' → R w H') → r u v H R
def LU (K : PySem.W.Frag) (r : V → Hp → VK → Prop) (o : UD) : Prop := ∀ (P : Addr → Prop) (G : Gp) (H : Hp) (x : D) (u : V) (Q : DK) (R : VK), o x G Q → Wo K P G H → Rep K H G P x u →
  (∀ d G' w H', Step G H G' H' → Wo K P G' H' → Rep K H' G' P d w → Q d G' → R w H') → r u H R
@[simp] def eOp (r : OD) (ta tb : EE) : EE := fun s G Q => ta s G fun x G1 => tb s G1 fun y G2 => r x y G2 Q
@[simp] def eUn (r : UD) (ta : EE) : EE := fun s G Q => ta s G fun x G1 => r x G1 Q
section
variable {X : Cx} {K : PySem.W.Frag} {ta tb : TE} {a b : EE} {r : R2} {o : OD}
theorem le_op (lo : LO K r o) (la : LE K ta a) (lb : LE K tb b) : LE K (tOp r ta tb) (eOp o a b) := fun P s G Q σ H R h rl k => by
  refine la P s G _ σ H _ h rl fun x G1 u H1 s1 w1 r1 h1 => ?_
  refine lb P s G1 _ σ H1 _ h1 (rl.step s1 w1) fun y G2 v H2 s2 w2 r2 h2 => ?_
  exact lo P G2 H2 x y u v Q R h2 w2 (r1.step s2) r2 fun d G3 w H3 s3 w3 r3 q3 => k d G3 w H3 ((s1.trans s2).trans s3) w3 r3 q3
theorem le_un {r : V → Hp → VK → Prop} {o : UD} (lo : LU K r o) (la : LE K ta a) : LE K (tUn r ta) (eUn o a) := fun P s G Q σ H R h rl k => by
  refine la P s G _ σ H _ h rl fun x G1 u H1 s1 w1 r1 h1 => ?_
  exact lo P G1 H1 x u Q R h1 w1 r1 fun d G3 w H3 s3 w3 r3 q3 => k d G3 w H3 (s1.trans s3) w3 r3 q3
theorem LO.or {r r' : R2} {o : OD} (h : ∀ P G H x y u v Q R, o x y G Q → Wo K P G H → Rep K H G P x u → Rep K H G P y v → (∀ d G' w H', Step G H G' H' → Wo K P G' H' → Rep K H' G' P d w → Q d G' → R w H') → r u v H R ∨ r' u v H R) : LO K (fun x y H Q => r x y H Q ∨ r' x y H Q) o :=
  fun P G H x y u v Q R a b c d e => h P G H x y u v Q R a b c d e
end
/-- an index's ways: lists, tuples, the script -/
def lkL (G : Gp) : D → Option (List D)
  | .lst ds => some ds
  | .ref a => match G a with
    | some (.lst ds) => some ds
    | _ => none
  | .scr ns => some (ns.map D.int)
  | _ => none
@[simp] theorem lkL_lst {G : Gp} {ds : List D} : lkL G (.lst ds) = some ds := rfl
@[simp] theorem lkL_ref {G : Gp} {a : Addr} : lkL G (.ref a) = match G a with
    | some (.lst ds) => some ds
    | _ => none := rfl
@[simp] theorem lkL_scr {G : Gp} {ns : List Int} : lkL G (.scr ns) = some (ns.map D.int) := rfl
@[simp] theorem lkL_tup {G : Gp} {ds : List D} : lkL G (.tup ds) = none := rfl
@[simp] theorem lkL_int {G : Gp} {i : Int} : lkL G (.int i) = none := rfl
@[simp] theorem lkL_str {G : Gp} {i : Str} : lkL G (.str i) = none := rfl
@[simp] theorem lkL_non {G : Gp} : lkL G .non = none := rfl
@[simp] theorem lkL_bl {G : Gp} {b : Bool} : lkL G (.bl b) = none := rfl
@[simp] theorem lkL_dct {G : Gp} {k : List Key} {ds : List D} : lkL G (.dct k ds) = none := rfl
section
variable {K : PySem.W.Frag} {P : Addr → Prop} {G : Gp} {H : Hp}
theorem rep_i {i : Int} {v : V} (h : Rep K H G P (.int i) v) : v = .int i := by unfold Rep at h; exact h
theorem rep_b {i : Bool} {v : V} (h : Rep K H G P (.bl i) v) : v = .bl i := by unfold Rep at h; exact h
theorem rep_s {i : Str} {v : V} (h : Rep K H G P (.str i) v) : v = .str i := by unfold Rep at h; exact h
theorem rep_n {v : V} (h : Rep K H G P .non v) : v = .non := by unfold Rep at h; exact h
theorem rep_t {ds : List D} {v : V} (h : Rep K H G P (.tup ds) v) : ∃ a xs, v = .ref a ∧ G a = none ∧ ¬ P a ∧ H a = some (.tup xs) ∧ ds.length ≤ sizeLine ∧ Reps K H G P ds xs := by unfold Rep at h; exact h
theorem rep_l {ds : List D} {v : V} (h : Rep K H G P (.lst ds) v) : ∃ a xs, v = .ref a ∧ G a = none ∧ ¬ P a ∧ H a = some (.lst xs) ∧ ds.length ≤ sizeLine ∧ Reps K H G P ds xs := by unfold Rep at h; exact h
/-- what may be read as a list -/
theorem lk_sq (w : Wo K P G H) {d : D} {v : V} {ds : List D} (h : Rep K H G P d v) (e : lkL G d = some ds) : ∃ a xs, v = .ref a ∧ SqL K H a xs ∧ Reps K H G P ds xs ∧ ds.length ≤ sizeLine := by
  cases d with
  | lst es =>
    cases e
    obtain ⟨a, xs, rfl, g, p, r, z, q⟩ := rep_l h
    exact ⟨a, xs, rfl, SqL.of r, q, z⟩
  | ref a =>
    unfold Rep at h
    obtain ⟨rfl, o, ho⟩ := h
    simp only [lkL, ho] at e
    cases o with
    | lst es =>
      cases e
      obtain ⟨ho', e1, xs, rfl, z, q⟩ := w.own a _ ho
      exact ⟨a, xs, rfl, SqL.of e1, q, z⟩
    | _ => cases e
  | scr ns =>
    cases e
    unfold Rep at h
    obtain ⟨a, rfl, z, q⟩ := h
    exact ⟨a, _, rfl, q.sq, reps_of_ints, by simpa using z⟩
  | _ => cases e
/-- .. that is tracked plainly -/
theorem lk_hp (w : Wo K P G H) {d : D} {v : V} {ds : List D} (h : Rep K H G P d v) (e : lkL G d = some ds) (hs : ∀ ns, d ≠ .scr ns) : ∃ a xs, v = .ref a ∧ H a = some (.lst xs) ∧ Reps K H G P ds xs ∧ ds.length ≤ sizeLine := by
  cases d with
  | lst es =>
    cases e
    obtain ⟨a, xs, rfl, g, p, r, z, q⟩ := rep_l h
    exact ⟨a, xs, rfl, r, q, z⟩
  | ref a =>
    unfold Rep at h
    obtain ⟨rfl, o, ho⟩ := h
    simp only [lkL, ho] at e
    cases o with
    | lst es =>
      cases e
      obtain ⟨ho', e1, xs, rfl, z, q⟩ := w.own a _ ho
      exact ⟨a, xs, rfl, e1, q, z⟩
    | _ => cases e
  | scr ns => exact absurd rfl (hs ns)
  | _ => cases e
end
@[simp] def oI (C : Int → Int → Prop) (g : Int → Int → D) : OD := fun x y G Q => match x, y with
  | .int i, .int j => C i j ∧ Q (g i j) G
  | _, _ => False
@[simp] def oI0 (g : Int → Int → D) : OD := fun x y G Q => match x, y with
  | .int i, .int j => Q (g i j) G
  | _, _ => False
section
variable {K : PySem.W.Frag}
theorem lo_I {C : Int → Int → Prop} {g : Int → Int → V} {g' : Int → Int → D} (hg : ∀ i j H G P, Rep K H G P (g' i j) (g i j)) : LO K (rI C g) (oI C g') := fun P G H x y u v Q R h w rx ry k => by
  unfold oI at h
  split at h
  · rename_i i j
    rw [rep_i rx, rep_i ry]
    exact ⟨i, j, rfl, rfl, h.1, k _ G _ H (Step.refl _ _) w (hg i j H G P) h.2⟩
  · exact h.elim
theorem lo_I0 {g : Int → Int → V} {g' : Int → Int → D} (hg : ∀ i j H G P, Rep K H G P (g' i j) (g i j)) : LO K (rI0 g) (oI0 g') := fun P G H x y u v Q R h w rx ry k => by
  unfold oI0 at h
  split at h
  · rename_i i j
    rw [rep_i rx, rep_i ry]
    exact ⟨i, j, rfl, rfl, k _ G _ H (Step.refl _ _) w (hg i j H G P) h⟩
  · exact h.elim
end
/-- + : ints, texts, lists (a new one, frozen) -/
@[simp] def oAdd : OD := fun x y G Q => match x, y with
  | .int i, .int j => Q (.int (i + j)) G
  | .str i, .str j => i.length + j.length ≤ sizeLine ∧ Q (.str (i ++ j)) G
  | .scr _, _ => False
  | _, .scr _ => False
  | x, y => match lkL G x, lkL G y with
    | some ds, some es => ds.length + es.length ≤ sizeLine ∧ Q (.lst (ds ++ es)) G
    | _, _ => False
def rAddS' : R2 := fun x y H Q => ∃ i j, x = .str i ∧ y = .str j ∧ i.length + j.length ≤ sizeLine ∧ Q (.str (i ++ j)) H
def rAdd3 : R2 := fun x y H Q => (rI0 fun i j => .int (i + j)) x y H Q ∨ rAddS' x y H Q ∨ rCat x y H Q
theorem op_add3 {X : Cx} : OpR X (binaryOp .Add) rAdd3 := op_add.or (op_add_str.or op_cat)
theorem lo_add {K : PySem.W.Frag} : LO K rAdd3 oAdd := fun P G H x y u v Q R h w rx ry k => by
  have lists : ∀ ds es, lkL G x = some ds → lkL G y = some es → (∀ ns, x ≠ .scr ns) → (∀ ns, y ≠ .scr ns) → ds.length + es.length ≤ sizeLine ∧ Q (.lst (ds ++ es)) G → rAdd3 u v H R := fun ds es e1 e2 n1 n2 q => by
    obtain ⟨a, xs, rfl, r1, q1, z1⟩ := lk_hp w rx e1 n1
    obtain ⟨b, ys, rfl, r2, q2, z2⟩ := lk_hp w ry e2 n2
    refine .inr (.inr ⟨a, b, xs, ys, rfl, rfl, r1, r2, by rw [← q1.length, ← q2.length]; exact q.1, fun p hp => ?_⟩)
    have st : Step G H G (upd H p (.lst (xs ++ ys))) := Step.new hp
    obtain ⟨f1, f2⟩ := w.fresh hp
    exact k _ G _ _ st (w.new hp) (rep_lst f1 f2 upd_same (by rw [List.length_append]; exact q.1) ((q1.append q2).step st)) q.2
  unfold oAdd at h
  split at h
  · rw [rep_i rx, rep_i ry]
    exact .inl ⟨_, _, rfl, rfl, k _ G _ H (Step.refl _ _) w rep_int h⟩
  · rw [rep_s rx, rep_s ry]
    exact .inr (.inl ⟨_, _, rfl, rfl, h.1, k _ G _ H (Step.refl _ _) w rep_str h.2⟩)
  · exact h.elim
  · exact h.elim
  · have n3 : ∀ ns, x ≠ .scr ns := by assumption
    have n4 : ∀ ns, y ≠ .scr ns := by assumption
    split at h
    · rename_i ds es e1 e2
      exact lists ds es e1 e2 n3 n4 h
    · exact h.elim
@[simp] def oSub : OD := oI0 fun i j => .int (i - j)
@[simp] def oMul : OD := oI (fun i j => CMul i j) fun i j => .int (i * j)
@[simp] def oMod : OD := oI (fun _ j => 0 < j) fun i j => .int (i % j)
@[simp] def oDivW : OD := oI CDivW fun i j => .int (i / j)
@[simp] def oPow : OD := oI CPow fun i j => .int (i ^ j.toNat)
@[simp] def oLt : OD := oI0 fun i j => .bl (decide (i < j))
@[simp] def oLe : OD := oI0 fun i j => .bl (decide (i ≤ j))
@[simp] def oGt : OD := oI0 fun i j => .bl (decide (j < i))
@[simp] def oGe : OD := oI0 fun i j => .bl (decide (j ≤ i))
@[simp] def oNeg : UD := fun x G Q => match x with
  | .int i => Q (.int (-i)) G
  | _ => False
section
variable {X : Cx} {a b : Expr} {ta tb : TE} {ea eb : EE} {pos : Pos}
theorem j_bin {op : Operator} {r : R2} {o : OD} (ho : OpR X (binaryOp op) r) (lo : LO X.K r o) (ha : JE X a ea) (hb : JE X b eb) : JE X (.BinOp a op b pos) (eOp o ea eb) := ⟨pe_op ho ha.pe hb.pe, le_op lo ha.le hb.le⟩
theorem j_add (ha : JE X a ea) (hb : JE X b eb) : JE X (.BinOp a .Add b pos) (eOp oAdd ea eb) := j_bin op_add3 lo_add ha hb
theorem j_sub (ha : JE X a ea) (hb : JE X b eb) : JE X (.BinOp a .Sub b pos) (eOp oSub ea eb) := j_bin op_sub (lo_I0 fun _ _ _ _ _ => rep_int) ha hb
theorem j_mul (ha : JE X a ea) (hb : JE X b eb) : JE X (.BinOp a .Mult b pos) (eOp oMul ea eb) := j_bin op_mul (lo_I fun _ _ _ _ _ => rep_int) ha hb
theorem j_mod (ha : JE X a ea) (hb : JE X b eb) : JE X (.BinOp a .Mod b pos) (eOp oMod ea eb) := j_bin op_mod (lo_I fun _ _ _ _ _ => rep_int) ha hb
theorem j_div (ha : JE X a ea) (hb : JE X b eb) : JE X (.BinOp a .FloorDiv b pos) (eOp oDivW ea eb) := j_bin op_fdivW (lo_I fun _ _ _ _ _ => rep_int) ha hb
theorem j_pow (ha : JE X a ea) (hb : JE X b eb) : JE X (.BinOp a .Pow b pos) (eOp oPow ea eb) := j_bin op_pow (lo_I fun _ _ _ _ _ => rep_int) ha hb
theorem j_neg (ha : JE X a ea) : JE X (.UnaryOp .USub a pos) (eUn oNeg ea) := ⟨pe_un un_neg ha.pe, le_un (fun P G H x u Q R h w rx k => by
  unfold oNeg at h
  split at h
  · rw [rep_i rx]; exact ⟨_, rfl, k _ G _ H (Step.refl _ _) w rep_int h⟩
  · exact h.elim) ha.le⟩
end
end DL
set_option Elab.async false
set_option linter.all false
set_option maxRecDepth 100000
set_option maxHeartbeats 4000000
namespace DL
open PySem L2
mutual
@[simp] def toPy0 : D → Option PyData
  | .non => some .none
  | .bl b => some (.bool b)
  | .int i => some (.int i)
  | .str x => some (.str x)
  | .lst ds => (toPys0 ds).map .list
  | .tup ds => (toPys0 ds).map .tuple
  | .scr ns => some (.list (ns.map .int))
  | _ => none
@[simp] def toPys0 : List D → Option (List PyData)
  | [] => some []
  | d :: ds => match toPy0 d, toPys0 ds with
    | some a, some r => some (a :: r)
    | _, _ => none
end
mutual
@[simp] def toPy (G : Gp) : D → Option PyData
  | .non => some .none
  | .bl b => some (.bool b)
  | .int i => some (.int i)
  | .str x => some (.str x)
  | .lst ds => (toPys G ds).map .list
  | .tup ds => (toPys G ds).map .tuple
  | .scr ns => some (.list (ns.map .int))
  | .ref a => match G a with
    | some (.lst ds) => (toPys0 ds).map .list
    | _ => none
  | _ => none
@[simp] def toPys (G : Gp) : List D → Option (List PyData)
  | [] => some []
  | d :: ds => match toPy G d, toPys G ds with
    | some a, some r => some (a :: r)
    | _, _ => none
end
section
variable {K : PySem.W.Frag} {P : Addr → Prop} {G : Gp} {H : Hp}
theorem dpAll_ints : ∀ ns : List Int, DpAll K H (ns.map V.int) (ns.map PyData.int)
  | [] => .nil
  | n :: ns => .cons (.int n) (dpAll_ints ns)
theorem opt_map {α β : Type} {f : α → β} {o : Option α} {b : β} (h : o.map f = some b) : ∃ a, o = some a ∧ f a = b := by
  cases o with
  | none => cases h
  | some a => exact ⟨a, rfl, Option.some.inj h⟩
mutual
theorem dp_of0 : ∀ (d : D) {v : V} {p : PyData}, Rep K H G P d v → toPy0 d = some p → Dp K H v p
  | .non, v, p, h, e => by rw [toPy0] at e; cases e; rw [rep_n h]; exact .non
  | .bl b, v, p, h, e => by rw [toPy0] at e; cases e; rw [rep_b h]; exact .bl b
  | .int b, v, p, h, e => by rw [toPy0] at e; cases e; rw [rep_i h]; exact .int b
  | .str b, v, p, h, e => by rw [toPy0] at e; cases e; rw [rep_s h]; exact .str b
  | .lst ds, v, p, h, e => by
    rw [toPy0] at e
    obtain ⟨r, e1, rfl⟩ := opt_map e
    obtain ⟨a, xs, rfl, g, q, r1, z, q1⟩ := rep_l h
    exact .lst (SqL.of r1) (dps_of0 ds q1 e1)
  | .tup ds, v, p, h, e => by
    rw [toPy0] at e
    obtain ⟨r, e1, rfl⟩ := opt_map e
    obtain ⟨a, xs, rfl, g, q, r1, z, q1⟩ := rep_t h
    exact .tup (SqT.of r1) (dps_of0 ds q1 e1)
  | .exc a dd f x, v, p, h, e => by simp [toPy0] at e
  | .scr ns, v, p, h, e => by
    rw [toPy0] at e; cases e
    unfold Rep at h
    obtain ⟨a, rfl, z, q⟩ := h
    exact .lst q.sq (dpAll_ints ns)
  | .ty _, _, _, _, e => by rw [toPy0] at e <;> first | cases e | simp
  | .ref _, _, _, _, e => by rw [toPy0] at e <;> first | cases e | simp
  | .cl _, _, _, _, e => by rw [toPy0] at e <;> first | cases e | simp
  | .dct _ _, _, _, _, e => by rw [toPy0] at e <;> first | cases e | simp
theorem dps_of0 : ∀ (ds : List D) {vs : List V} {ps : List PyData}, Reps K H G P ds vs → toPys0 ds = some ps → DpAll K H vs ps
  | [], vs, ps, h, e => by rw [toPys0] at e; cases e; unfold Reps at h; subst h; exact .nil
  | d :: ds, vs, ps, h, e => by
    rw [toPys0] at e
    unfold Reps at h
    obtain ⟨x, r, rfl, h1, h2⟩ := h
    cases e1 : toPy0 d with
    | none => rw [e1] at e; simp at e
    | some a =>
      cases e2 : toPys0 ds with
      | none => rw [e1, e2] at e; simp at e
      | some q =>
        rw [e1, e2] at e
        cases e
        exact .cons (dp_of0 d h1 e1) (dps_of0 ds h2 e2)
end
mutual
theorem dp_of (w : Wo K P G H) : ∀ (d : D) {v : V} {p : PyData}, Rep K H G P d v → toPy G d = some p → Dp K H v p
  | .non, v, p, h, e => by rw [toPy] at e; cases e; rw [rep_n h]; exact .non
  | .bl b, v, p, h, e => by rw [toPy] at e; cases e; rw [rep_b h]; exact .bl b
  | .int b, v, p, h, e => by rw [toPy] at e; cases e; rw [rep_i h]; exact .int b
  | .str b, v, p, h, e => by rw [toPy] at e; cases e; rw [rep_s h]; exact .str b
  | .lst ds, v, p, h, e => by
    rw [toPy] at e
    obtain ⟨r, e1, rfl⟩ := opt_map e
    obtain ⟨a, xs, rfl, g, q, r1, z, q1⟩ := rep_l h
    exact .lst (SqL.of r1) (dps_of w ds q1 e1)
  | .tup ds, v, p, h, e => by
    rw [toPy] at e
    obtain ⟨r, e1, rfl⟩ := opt_map e
    obtain ⟨a, xs, rfl, g, q, r1, z, q1⟩ := rep_t h
    exact .tup (SqT.of r1) (dps_of w ds q1 e1)
  | .exc a dd f x, v, p, h, e => by simp [toPy] at e
  | .scr ns, v, p, h, e => by
    rw [toPy] at e; cases e
    unfold Rep at h
    obtain ⟨a, rfl, z, q⟩ := h
    exact .lst q.sq (dpAll_ints ns)
  | .ref a, v, p, h, e => by
    rw [toPy] at e
    unfold Rep at h
    obtain ⟨rfl, o, ho⟩ := h
    rw [ho] at e
    cases o with
    | lst ds =>
      obtain ⟨r, e1, rfl⟩ := opt_map e
      obtain ⟨ho', e2, xs, rfl, z, q⟩ := w.own a _ ho
      exact .lst (SqL.of e2) (dps_of0 ds q e1)
    | _ => cases e
  | .ty _, _, _, _, e => by rw [toPy] at e <;> first | cases e | simp
  | .cl _, _, _, _, e => by rw [toPy] at e <;> first | cases e | simp
  | .dct _ _, _, _, _, e => by rw [toPy] at e <;> first | cases e | simp
theorem dps_of (w : Wo K P G H) : ∀ (ds : List D) {vs : List V} {ps : List PyData}, Reps K H G P ds vs → toPys G ds = some ps → DpAll K H vs ps
  | [], vs, ps, h, e => by rw [toPys] at e; cases e; unfold Reps at h; subst h; exact .nil
  | d :: ds, vs, ps, h, e => by
    rw [toPys] at e
    unfold Reps at h
    obtain ⟨x, r, rfl, h1, h2⟩ := h
    cases e1 : toPy G d with
    | none => rw [e1] at e; simp at e
    | some a =>
      cases e2 : toPys G ds with
      | none => rw [e1, e2] at e; simp at e
      | some q =>
        rw [e1, e2] at e
        cases e
        exact .cons (dp_of w d h1 e1) (dps_of w ds h2 e2)
end
end
@[simp] def oEq : OD := fun x y G Q => match toPy G x, toPy G y with
  | some a, some b => SeqAt.shaped a = true ∧ SeqAt.shaped b = true ∧ Q (.bl (PyData.eqv a b)) G
  | _, _ => False
@[simp] def oNe : OD := fun x y G Q => match toPy G x, toPy G y with
  | some a, some b => SeqAt.shaped a = true ∧ SeqAt.shaped b = true ∧ Q (.bl (!PyData.eqv a b)) G
  | _, _ => False
@[simp] def oIsN : OD := fun x y G Q => match y with
  | .non => match x with
    | .non => Q (.bl true) G
    | _ => Q (.bl false) G
  | _ => False
@[simp] def oNotN : OD := fun x y G Q => match y with
  | .non => match x with
    | .non => Q (.bl false) G
    | _ => Q (.bl true) G
  | _ => False
/-- flat data -/
@[simp] def flD : D → Option V
  | .non => some .non
  | .bl b => some (.bl b)
  | .int i => some (.int i)
  | .str x => some (.str x)
  | _ => none
@[simp] def flDs : List D → Option (List V)
  | [] => some []
  | d :: ds => match flD d, flDs ds with
    | some a, some r => some (a :: r)
    | _, _ => none
/-- a list's or a tuple's items -/
def lkQ (G : Gp) : D → Option (List D)
  | .tup ds => some ds
  | d => lkL G d
@[simp] theorem lkQ_lst {G : Gp} {ds : List D} : lkQ G (.lst ds) = some ds := rfl
@[simp] theorem lkQ_tup {G : Gp} {ds : List D} : lkQ G (.tup ds) = some ds := rfl
@[simp] theorem lkQ_ref {G : Gp} {a : Addr} : lkQ G (.ref a) = lkL G (.ref a) := rfl
@[simp] theorem lkQ_scr {G : Gp} {ns : List Int} : lkQ G (.scr ns) = some (ns.map D.int) := rfl
@[simp] theorem lkQ_int {G : Gp} {i : Int} : lkQ G (.int i) = none := rfl
@[simp] theorem lkQ_str {G : Gp} {i : Str} : lkQ G (.str i) = none := rfl
@[simp] theorem lkQ_non {G : Gp} : lkQ G .non = none := rfl
@[simp] theorem lkQ_bl {G : Gp} {b : Bool} : lkQ G (.bl b) = none := rfl
@[simp] theorem lkQ_dct {G : Gp} {k : List Key} {ds : List D} : lkQ G (.dct k ds) = none := rfl
@[simp] def oIn (neg : Bool) : OD := fun x y G Q => match flD x, (lkQ G y).bind flDs with
  | some a, some r => Q (.bl (if neg then !inV a r else inV a r)) G
  | _, _ => False
/-- one sign in a text -/
@[simp] def oInS : OD := fun x y G Q => match x, y with
  | .str a, .str z => (match a.cps.toList with
    | [c] => Q (.bl (decide (c ∈ z.cps.toList))) G
    | _ => False)
  | _, _ => False
@[simp] def oNotInS : OD := fun x y G Q => match x, y with
  | .str a, .str z => (match a.cps.toList with
    | [c] => Q (.bl (!decide (c ∈ z.cps.toList))) G
    | _ => False)
  | _, _ => False
section
variable {K : PySem.W.Frag}
theorem lo_eq : LO K (rEqD K) oEq := fun P G H x y u v Q R h w rx ry k => by
  unfold oEq at h
  split at h
  · rename_i a b e1 e2
    exact ⟨a, b, dp_of w x rx e1, dp_of w y ry e2, h.1, h.2.1, k _ G _ H (Step.refl _ _) w rep_bl h.2.2⟩
  · exact h.elim
theorem lo_ne : LO K (rNeD K) oNe := fun P G H x y u v Q R h w rx ry k => by
  unfold oNe at h
  split at h
  · rename_i a b e1 e2
    exact ⟨a, b, dp_of w x rx e1, dp_of w y ry e2, h.1, h.2.1, k _ G _ H (Step.refl _ _) w rep_bl h.2.2⟩
  · exact h.elim
def rIsN' : R2 := fun x y H Q => y = .non ∧ Q (.bl (decide (x = .non))) H
def rNotN' : R2 := fun x y H Q => y = .non ∧ Q (.bl (!decide (x = .non))) H
theorem rep_nn {P : Addr → Prop} {G : Gp} {H : Hp} {d : D} {v : V} (h : Rep K H G P d v) (n : d ≠ .non) : v ≠ .non := by
  intro e; subst e
  cases d with
  | non => exact n rfl
  | bl b => cases rep_b h
  | int b => cases rep_i h
  | str b => cases rep_s h
  | ty _ => unfold Rep at h; cases h
  | cl _ => unfold Rep at h; cases h
  | exc _ _ _ _ => unfold Rep at h; cases h.1
  | ref _ => unfold Rep at h; cases h.1
  | lst _ => obtain ⟨_, _, e, _⟩ := rep_l h; cases e
  | tup _ => obtain ⟨_, _, e, _⟩ := rep_t h; cases e
  | dct _ _ => unfold Rep at h; obtain ⟨_, _, e, _⟩ := h; cases e
  | scr _ => unfold Rep at h; obtain ⟨_, e, _⟩ := h; cases e
theorem lo_isN : LO K rIsN' oIsN := fun P G H x y u v Q R h w rx ry k => by
  unfold oIsN at h
  split at h
  · refine ⟨rep_n ry, ?_⟩
    split at h
    · rw [rep_n rx]; exact k _ G _ H (Step.refl _ _) w rep_bl h
    · rename_i n
      have e : decide (u = .non) = false := decide_eq_false (rep_nn rx n)
      rw [e]; exact k _ G _ H (Step.refl _ _) w rep_bl h
  · exact h.elim
theorem lo_notN : LO K rNotN' oNotN := fun P G H x y u v Q R h w rx ry k => by
  unfold oNotN at h
  split at h
  · refine ⟨rep_n ry, ?_⟩
    split at h
    · rw [rep_n rx]; exact k _ G _ H (Step.refl _ _) w rep_bl h
    · rename_i n
      have e : decide (u = .non) = false := decide_eq_false (rep_nn rx n)
      rw [e]; exact k _ G _ H (Step.refl _ _) w rep_bl h
  · exact h.elim
theorem rep_fl {P : Addr → Prop} {G : Gp} {H : Hp} {d : D} {v a : V} (h : Rep K H G P d v) (e : flD d = some a) : v = a ∧ flatV a = true := by
  cases d with
  | non => cases e; exact ⟨rep_n h, rfl⟩
  | bl b => cases e; exact ⟨rep_b h, rfl⟩
  | int b => cases e; exact ⟨rep_i h, rfl⟩
  | str b => cases e; exact ⟨rep_s h, rfl⟩
  | _ => cases e
theorem reps_fl {P : Addr → Prop} {G : Gp} {H : Hp} : ∀ {ds : List D} {vs r : List V}, Reps K H G P ds vs → flDs ds = some r → vs = r ∧ r.all flatV = true
  | [], vs, r, h, e => by cases e; unfold Reps at h; exact ⟨h, rfl⟩
  | d :: ds, vs, r, h, e => by
    unfold Reps at h
    obtain ⟨x, xs, rfl, h1, h2⟩ := h
    rw [flDs] at e
    cases e1 : flD d with
    | none => rw [e1] at e; simp at e
    | some a =>
      cases e2 : flDs ds with
      | none => rw [e1, e2] at e; simp at e
      | some q =>
        rw [e1, e2] at e
        cases e
        obtain ⟨rfl, f1⟩ := rep_fl h1 e1
        obtain ⟨rfl, f2⟩ := reps_fl h2 e2
        exact ⟨rfl, by rw [List.all_cons, f1, f2]; rfl⟩
/-- what may be read as a list or a tuple -/
theorem lkQ_sq {P : Addr → Prop} {G : Gp} {H : Hp} (w : Wo K P G H) {d : D} {v : V} {ds : List D} (h : Rep K H G P d v) (e : lkQ G d = some ds) : ∃ a xs, v = .ref a ∧ (SqL K H a xs ∨ SqT K H a xs) ∧ Reps K H G P ds xs ∧ ds.length ≤ sizeLine := by
  by_cases t : ∃ es, d = .tup es
  · obtain ⟨es, rfl⟩ := t
    cases e
    obtain ⟨a, xs, rfl, g, q, r1, z, q1⟩ := rep_t h
    exact ⟨a, xs, rfl, .inr (SqT.of r1), q1, z⟩
  · have e' : lkL G d = some ds := by
      cases d with
      | tup es => exact absurd ⟨es, rfl⟩ t
      | _ => exact e
    obtain ⟨a, xs, rfl, r, q, z⟩ := lk_sq w h e'
    exact ⟨a, xs, rfl, .inl r, q, z⟩
theorem lo_in {neg : Bool} : LO K (rIn K neg) (oIn neg) := fun P G H x y u v Q R h w rx ry k => by
  unfold oIn at h
  split at h
  · rename_i a r e1 e2
    obtain ⟨rfl, f1⟩ := rep_fl rx e1
    cases e3 : lkQ G y with
    | none => rw [e3] at e2; cases e2
    | some ds =>
      rw [e3] at e2
      obtain ⟨b, xs, rfl, s, q, z⟩ := lkQ_sq w ry e3
      obtain ⟨rfl, f2⟩ := reps_fl q e2
      exact ⟨b, _, rfl, s, f1, f2, k _ G _ H (Step.refl _ _) w rep_bl h⟩
  · exact h.elim
def rInSg : R2 := fun x y H Q => ∃ (c : Nat) (z : Str), x = .str ⟨#[c]⟩ ∧ y = .str z ∧ Q (.bl (decide (c ∈ z.cps.toList))) H
theorem one_sign {a : Str} {c : Nat} (e : a.cps.toList = [c]) : a = ⟨#[c]⟩ := by
  obtain ⟨l⟩ := a
  congr 1
  apply Array.ext'
  exact e
theorem lo_inS : LO K rInSg oInS := fun P G H x y u v Q R h w rx ry k => by
  unfold oInS at h
  split at h
  · rename_i a z
    split at h
    · rename_i c e
      rw [rep_s rx, rep_s ry]
      exact ⟨c, z, by rw [one_sign e], rfl, k _ G _ H (Step.refl _ _) w rep_bl h⟩
    · exact h.elim
  · exact h.elim
end
@[simp] def eT (t : EE) : ET := fun s G Q => t s G fun x G1 => match x with
  | .bl b => Q b G1
  | _ => False
theorem lt_test {K : PySem.W.Frag} {te : TE} {t : EE} (h : LE K te t) : LT K (tTest te) (eT t) := fun P s G Q σ H R q r k => by
  refine h P s G _ σ H _ q r fun d G' v H' st w rp q' => ?_
  cases d with
  | bl b => rw [rep_b rp]; exact ⟨b, rfl, k b G' H' st w q'⟩
  | _ => exact q'.elim
/-- a op b op' c -/
@[simp] def eChain (r r' : OD) (ta tb tc : EE) : EE := fun s G Q => ta s G fun x G1 => tb s G1 fun y G2 => r x y G2 fun z G3 => match z with
  | .bl k => if k = true then tc s G3 fun w G4 => r' y w G4 Q else Q (.bl false) G3
  | _ => False
theorem le_chain {K : PySem.W.Frag} {r r' : R2} {o o' : OD} {ta tb tc : TE} {a b c : EE} (lo : LO K r o) (lo' : LO K r' o') (la : LE K ta a) (lb : LE K tb b) (lc : LE K tc c) : LE K (tChain r r' ta tb tc) (eChain o o' a b c) := fun P s G Q σ H R h rl k => by
  refine la P s G _ σ H _ h rl fun x G1 u H1 s1 w1 r1 h1 => ?_
  refine lb P s G1 _ σ H1 _ h1 (rl.step s1 w1) fun y G2 v H2 s2 w2 r2 h2 => ?_
  refine lo P G2 H2 x y u v _ _ h2 w2 (r1.step s2) r2 fun z G3 vz H3 s3 w3 r3 h3 => ?_
  cases z with
  | bl bz =>
    rw [rep_b r3]
    refine ⟨bz, rfl, ?_⟩
    cases bz with
    | true =>
      refine lc P s G3 _ σ H3 _ h3 (rl.step ((s1.trans s2).trans s3) w3) fun z G4 vz H4 s4 w4 r4 h4 => ?_
      exact lo' P G4 H4 y z v vz Q R h4 w4 ((r2.step s3).step s4) r4 fun d G5 w H5 s5 w5 r5 q5 => k d G5 w H5 ((((s1.trans s2).trans s3).trans s4).trans s5) w5 r5 q5
    | false =>
      exact k _ G3 _ H3 ((s1.trans s2).trans s3) w3 rep_bl h3
  | _ => exact h3.elim
section
variable {X : Cx} {a b c : Expr} {ta tb tc : TE} {ea eb ec : EE} {pos : Pos}
theorem j_cmp {op : CmpOp} {r : R2} {o : OD} (ho : OpR X (compareOp op) r) (lo : LO X.K r o) (ha : JE X a ea) (hb : JE X b eb) (hm : behindInMarks op b = false) : JE X (.Compare a [op] [b] pos) (eOp o ea eb) := ⟨pe_cmpR ho ha.pe hb.pe hm, le_op lo ha.le hb.le⟩
theorem jt_cmp {op : CmpOp} {r : R2} {o : OD} (ho : OpR X (compareOp op) r) (lo : LO X.K r o) (ha : JE X a ea) (hb : JE X b eb) (hm : behindInMarks op b = false) : JT X (.Compare a [op] [b] pos) (eT (eOp o ea eb)) := ⟨pt_cmpR ho ha.pe hb.pe hm, lt_test (le_op lo ha.le hb.le)⟩
theorem j_chain {op op' : CmpOp} {r r' : R2} {o o' : OD} (ho : OpR X (compareOp op) r) (lo : LO X.K r o) (ho' : OpR X (compareOp op') r') (lo' : LO X.K r' o') (ha : JE X a ea) (hb : JE X b eb) (hc : JE X c ec)
    (hm : lastMarks [op, op'] [b, c] = false := by with_unfolding_all rfl) : JE X (.Compare a [op, op'] [b, c] pos) (eChain o o' ea eb ec) := ⟨pe_chain ho ho' ha.pe hb.pe hc.pe hm, le_chain lo lo' ha.le hb.le hc.le⟩
theorem jt_chain {op op' : CmpOp} {r r' : R2} {o o' : OD} (ho : OpR X (compareOp op) r) (lo : LO X.K r o) (ho' : OpR X (compareOp op') r') (lo' : LO X.K r' o') (ha : JE X a ea) (hb : JE X b eb) (hc : JE X c ec)
    (hm : lastMarks [op, op'] [b, c] = false := by with_unfolding_all rfl) : JT X (.Compare a [op, op'] [b, c] pos) (eT (eChain o o' ea eb ec)) := ⟨pt_chain ho ho' ha.pe hb.pe hc.pe hm, lt_test (le_chain lo lo' ha.le hb.le hc.le)⟩
theorem lo_lt {K : PySem.W.Frag} : LO K (rI0 fun i j => .bl (decide (i < j))) oLt := lo_I0 fun _ _ _ _ _ => rep_bl
theorem lo_le {K : PySem.W.Frag} : LO K (rI0 fun i j => .bl (decide (i ≤ j))) oLe := lo_I0 fun _ _ _ _ _ => rep_bl
theorem lo_gt {K : PySem.W.Frag} : LO K (rI0 fun i j => .bl (decide (j < i))) oGt := lo_I0 fun _ _ _ _ _ => rep_bl
end
def truD (G : Gp) : D → Option Bool
  | .non => some false
  | .bl b => some b
  | .int i => some (i != 0)
  | .str y => if y.length ≤ sizeLine then some ((y.length : Int) != 0) else none
  | .tup ds => some (!ds.isEmpty)
  | .lst ds => some (!ds.isEmpty)
  | .ref a => match G a with
    | some (.lst ds) => some (!ds.isEmpty)
    | some (.dct ks _) => some (!ks.isEmpty)
    | _ => none
  | .dct ks _ => some (!ks.isEmpty)
  | _ => none
@[simp] theorem truD_non {G : Gp} : truD G .non = some false := rfl
@[simp] theorem truD_bl {G : Gp} {b : Bool} : truD G (.bl b) = some b := rfl
@[simp] theorem truD_int {G : Gp} {i : Int} : truD G (.int i) = some (i != 0) := rfl
@[simp] theorem truD_str {G : Gp} {y : Str} : truD G (.str y) = if y.length ≤ sizeLine then some ((y.length : Int) != 0) else none := rfl
@[simp] theorem truD_tup {G : Gp} {ds : List D} : truD G (.tup ds) = some (!ds.isEmpty) := rfl
@[simp] theorem truD_lst {G : Gp} {ds : List D} : truD G (.lst ds) = some (!ds.isEmpty) := rfl
@[simp] theorem truD_dct {G : Gp} {ks : List Key} {ds : List D} : truD G (.dct ks ds) = some (!ks.isEmpty) := rfl
@[simp] theorem truD_ref {G : Gp} {a : Addr} : truD G (.ref a) = match G a with
    | some (.lst ds) => some (!ds.isEmpty)
    | some (.dct ks _) => some (!ks.isEmpty)
    | _ => none := rfl
theorem reps_empty {K : PySem.W.Frag} {P : Addr → Prop} {G : Gp} {H : Hp} {ds : List D} {xs : List V} (h : Reps K H G P ds xs) : (!ds.isEmpty) = !xs.isEmpty := by
  have l := h.length
  cases ds <;> cases xs <;> first | rfl | simp at l
theorem zip_empty {ks : List Key} {xs : List V} {n : Nat} (h : ks.length = n) (h2 : n = xs.length) : (!ks.isEmpty) = !(ks.zip xs).isEmpty := by
  cases ks <;> cases xs <;> first | rfl | (simp at h h2; omega)
theorem tru_of {K : PySem.W.Frag} {P : Addr → Prop} {G : Gp} {H : Hp} (w : Wo K P G H) {d : D} {v : V} {b : Bool} (h : Rep K H G P d v) (e : truD G d = some b) : TruV K v H b := by
  cases d with
  | non => cases e; rw [rep_n h]; rfl
  | bl c => cases e; rw [rep_b h]; rfl
  | int c => cases e; rw [rep_i h]; rfl
  | str c =>
    rw [rep_s h]
    simp only [truD] at e
    split at e
    · cases e; rename_i z; exact ⟨z, rfl⟩
    · cases e
  | tup ds =>
    cases e
    obtain ⟨a, xs, rfl, g, q, r1, z, q1⟩ := rep_t h
    exact .inr (.inl ⟨xs, SqT.of r1, reps_empty q1⟩)
  | lst ds =>
    cases e
    obtain ⟨a, xs, rfl, g, q, r1, z, q1⟩ := rep_l h
    exact .inl ⟨xs, SqL.of r1, reps_empty q1⟩
  | ref a =>
    unfold Rep at h
    obtain ⟨rfl, o, ho⟩ := h
    simp only [truD, ho] at e
    obtain ⟨u, e1, r⟩ := w.own a o ho
    cases o with
    | lst ds => cases e; obtain ⟨xs, rfl, z, q⟩ := r; exact .inl ⟨xs, SqL.of e1, reps_empty q⟩
    | dct ks ds => cases e; obtain ⟨xs, rfl, z, q⟩ := r; exact .inr (.inr ⟨_, e1, zip_empty z q.length⟩)
    | _ => cases e
  | dct ks ds =>
    cases e
    unfold Rep at h
    obtain ⟨a, xs, rfl, g, p, r, z, q⟩ := h
    exact .inr (.inr ⟨_, r, zip_empty z q.length⟩)
  | _ => cases e
@[simp] def eTru (t : EE) : ET := fun s G Q => t s G fun x G1 => match truD G1 x with
  | some b => Q b G1
  | none => False
@[simp] def eAndT (ta tb : EE) : EE := fun s G Q => ta s G fun x G1 => match truD G1 x with
  | some k => if k = true then tb s G1 Q else Q x G1
  | none => False
@[simp] def eOrT (ta tb : EE) : EE := fun s G Q => ta s G fun x G1 => match truD G1 x with
  | some k => if k = true then Q x G1 else tb s G1 Q
  | none => False
@[simp] def eNotT (ta : EE) : EE := fun s G Q => ta s G fun x G1 => match truD G1 x with
  | some k => Q (.bl (!k)) G1
  | none => False
@[simp] def eAnd (t u : ET) : ET := fun s G Q => t s G fun c G1 => if c = true then u s G1 Q else Q false G1
@[simp] def eOr (t u : ET) : ET := fun s G Q => t s G fun c G1 => if c = true then Q true G1 else u s G1 Q
@[simp] def eNot (t : ET) : ET := fun s G Q => t s G fun c G1 => Q (!c) G1
@[simp] def eIf (t : ET) (ta tb : EE) : EE := fun s G Q => t s G fun c G1 => if c = true then ta s G1 Q else tb s G1 Q
section
variable {K : PySem.W.Frag} {te tu : TE} {a b : EE} {tt tv : TT} {t u : ET}
theorem lt_tru (h : LE K te a) : LT K (fun σ H Q => te σ H fun x H' => ∃ k, TruV K x H' k ∧ Q k H') (eTru a) := fun P s G Q σ H R q r k => by
  refine h P s G _ σ H _ q r fun d G' v H' st w rp q' => ?_
  cases e : truD G' d with
  | none => rw [e] at q'; exact q'.elim
  | some b => rw [e] at q'; exact ⟨b, tru_of w rp e, k b G' H' st w q'⟩
theorem le_andT (ha : LE K te a) (hb : LE K tu b) : LE K (tAndT K te tu) (eAndT a b) := fun P s G Q σ H R q r k => by
  refine ha P s G _ σ H _ q r fun d G' v H' st w rp q' => ?_
  cases e : truD G' d with
  | none => rw [e] at q'; exact q'.elim
  | some c =>
    rw [e] at q'
    refine ⟨c, tru_of w rp e, ?_⟩
    cases c with
    | true => exact hb P s G' Q σ H' R q' (r.step st w) fun d G2 v H2 s2 w2 r2 q2 => k d G2 v H2 (st.trans s2) w2 r2 q2
    | false => exact k d G' v H' st w rp q'
theorem le_notT (ha : LE K te a) : LE K (tNotT K te) (eNotT a) := fun P s G Q σ H R q r k => by
  refine ha P s G _ σ H _ q r fun d G' v H' st w rp q' => ?_
  cases e : truD G' d with
  | none => rw [e] at q'; exact q'.elim
  | some c => rw [e] at q'; exact ⟨c, tru_of w rp e, k _ G' _ H' st w rep_bl q'⟩
theorem lt_and (ha : LT K tt t) (hb : LT K tv u) : LT K (tAnd tt tv) (eAnd t u) := fun P s G Q σ H R q r k => by
  refine ha P s G _ σ H _ q r fun c G' H' st w q' => ?_
  cases c with
  | true => exact hb P s G' Q σ H' R q' (r.step st w) fun b G2 H2 s2 w2 q2 => k b G2 H2 (st.trans s2) w2 q2
  | false => exact k false G' H' st w q'
theorem lt_or (ha : LT K tt t) (hb : LT K tv u) : LT K (tOr tt tv) (eOr t u) := fun P s G Q σ H R q r k => by
  refine ha P s G _ σ H _ q r fun c G' H' st w q' => ?_
  cases c with
  | false => exact hb P s G' Q σ H' R q' (r.step st w) fun b G2 H2 s2 w2 q2 => k b G2 H2 (st.trans s2) w2 q2
  | true => exact k true G' H' st w q'
theorem lt_not (ha : LT K tt t) : LT K (tNot tt) (eNot t) := fun P s G Q σ H R q r k => ha P s G _ σ H _ q r fun c G' H' st w q' => k _ G' H' st w q'
end
section
variable {X : Cx} {a b c : Expr} {rest : List Expr} {ta tb : TE} {ea eb : EE} {tt tv : TT} {et eu : ET} {pos : Pos}
theorem jt_tru (ha : JE X a ea) (he : ∀ whole, isTrue a X.env whole = (do let v ← whole; standAt a.pos; holding [v] (truthy v)) := by intro _; rfl) : JT X a (eTru ea) := ⟨pt_truth ha.pe he, lt_tru ha.le⟩
theorem JW.jt (h : JW X a et) : JT X a et := ⟨h.pw.pt, h.lt⟩
theorem jw_and1 (ha : JT X a et) : JW X (.BoolOp .And [a] pos) et := ⟨pw_and1 ha.pt, ha.lt⟩
theorem jw_or1 (ha : JT X a et) : JW X (.BoolOp .Or [a] pos) et := ⟨pw_or1 ha.pt, ha.lt⟩
theorem jw_and (ha : JT X a et) (hb : JW X (.BoolOp .And (b :: rest) pos) eu) : JW X (.BoolOp .And (a :: b :: rest) pos) (eAnd et eu) := ⟨pw_and ha.pt hb.pw, lt_and ha.lt hb.lt⟩
theorem jw_or (ha : JT X a et) (hb : JW X (.BoolOp .Or (b :: rest) pos) eu) : JW X (.BoolOp .Or (a :: b :: rest) pos) (eOr et eu) := ⟨pw_or ha.pt hb.pw, lt_or ha.lt hb.lt⟩
theorem jt_not (ha : JT X a et) : JT X (.UnaryOp .Not a pos) (eNot et) := ⟨pt_not ha.pt, lt_not ha.lt⟩
theorem j_one {op} (h : JE X a ea) : JE X (.BoolOp op [a] pos) ea := ⟨pe_one h.pe, h.le⟩
theorem j_and (ha : JE X a ea) (hb : JE X (.BoolOp .And (b :: rest) pos) eb) : JE X (.BoolOp .And (a :: b :: rest) pos) (eAndT ea eb) := ⟨pe_andT ha.pe hb.pe, le_andT ha.le hb.le⟩
theorem j_not (ha : JE X a ea) : JE X (.UnaryOp .Not a pos) (eNotT ea) := ⟨pe_notT ha.pe, le_notT ha.le⟩
end
end DL
set_option Elab.async false
set_option linter.all false
set_option maxRecDepth 100000
set_option maxHeartbeats 4000000
namespace DL
open PySem L2
@[simp] def oIx : OD := fun x y G Q => match y with
  | .int i => (match x with
    | .str z => z.length ≤ sizeLine ∧ (match atI z.cps.toList i with
      | some c => Q (.str ⟨#[c]⟩) G
      | none => False)
    | x => (match lkQ G x with
      | some ds => (match atI ds i with
        | some d => Q d G
        | none => False)
      | none => False))
  | _ => False
section
variable {K : PySem.W.Frag} {P : Addr → Prop} {G : Gp} {H : Hp}
theorem reps_at {ds : List D} {xs : List V} {i : Int} {d : D} (q : Reps K H G P ds xs) (h : atI ds i = some d) : ∃ v, atI xs i = some v ∧ Rep K H G P d v := by
  unfold atI at h ⊢
  rw [← q.length]
  cases e : ixN ds.length i with
  | none => rw [e] at h; cases h
  | some j =>
    rw [e] at h
    obtain ⟨v, e1, e2⟩ := q.get (show ds[j]? = some d from h)
    exact ⟨v, e1, e2⟩
theorem lo_ix : LO K (rIx K) oIx := fun P G H x y u v Q R h w rx ry k => by
  unfold oIx at h
  split at h
  · rename_i i
    rw [rep_i ry]
    split at h
    · rename_i z
      rw [rep_s rx]
      obtain ⟨hz, h⟩ := h
      split at h
      · rename_i c e
        exact .inr (.inr ⟨z, i, c, rfl, rfl, hz, e, k _ G _ H (Step.refl _ _) w rep_str h⟩)
      · exact h.elim
    · split at h
      · rename_i ds e
        split at h
        · rename_i d e2
          obtain ⟨a, xs, rfl, s, q, z⟩ := lkQ_sq w rx e
          obtain ⟨v', e3, r3⟩ := reps_at q e2
          have q' := k _ G _ H (Step.refl _ _) w r3 h
          rcases s with s | s
          · exact .inl ⟨a, xs, i, v', rfl, rfl, s, e3, q'⟩
          · exact .inr (.inl ⟨a, xs, i, v', rfl, rfl, s, e3, q'⟩)
        · exact h.elim
      · exact h.elim
  · exact h.elim
end
abbrev EO := Sd → Gp → (Option Int → Gp → Prop) → Prop
def LPo (K : PySem.W.Frag) (te : TO) (t : EO) : Prop := ∀ (P : Addr → Prop) (s : Sd) (G : Gp) (Q : Option Int → Gp → Prop) (σ : St) (H : Hp) (R : Option Int → Hp → Prop), t s G Q → Rl K P s G σ H →
  (∀ b G' H', Step G H G' H' → Wo K P G' H' → Q b G' → R b H') → te σ H R
def upO (K : PySem.W.Frag) (t : EO) : TO := fun σ H R => ∃ (P : Addr → Prop) (s : Sd) (G : Gp) (Q : Option Int → Gp → Prop), t s G Q ∧ Rl K P s G σ H ∧ ∀ b G' H', Step G H G' H' → Wo K P G' H' → Q b G' → R b H'
inductive JO (X : Cx) (e : Option Expr) (t : EO) : Prop where
  | mk {te : TO} (a : PO X e te) (b : LPo X.K te t) : JO X e t
theorem JO.po {X : Cx} {e : Option Expr} {t : EO} (h : JO X e t) : PO X e (upO X.K t) := by
  obtain ⟨a, b⟩ := h
  exact ⟨fun pins s σ H Q I ⟨P, s', G, Q', h1, h2, h3⟩ => a.run pins s σ H Q I (b P s' G Q' σ H Q h1 h2 h3)⟩
theorem JO.lp {X : Cx} {e : Option Expr} {t : EO} (h : JO X e t) : LPo X.K (upO X.K t) t := fun P s G Q σ H R h1 h2 h3 => ⟨P, s, G, Q, h1, h2, h3⟩
@[simp] def eNoPart : EO := fun _ G Q => Q none G
@[simp] def ePart (t : EE) : EO := fun s G Q => t s G fun x G1 => match x with
  | .int i => Q (some i) G1
  | _ => False
def cutD (xs : List D) (lo hi : Option Int) : List D := (xs.drop (HT.sIx xs.length 0 lo)).take (HT.sIx xs.length xs.length hi - HT.sIx xs.length 0 lo)
theorem cut_reps {K : PySem.W.Frag} {P : Addr → Prop} {G : Gp} {H : Hp} {ds : List D} {xs : List V} {lo hi : Option Int} (q : Reps K H G P ds xs) : Reps K H G P (cutD ds lo hi) (cutV xs lo hi) := by
  unfold cutD cutV
  rw [q.length]
  exact (q.drop _).take _
theorem cutD_length (xs : List D) (lo hi : Option Int) : (cutD xs lo hi).length ≤ xs.length := by
  unfold cutD; rw [List.length_take, List.length_drop]; omega
section
variable {X : Cx} {K : PySem.W.Frag}
theorem jo_none : JO X none eNoPart := ⟨po_none, fun P s G Q σ H R h r k => k _ G H (Step.refl _ _) r.wo h⟩
theorem jo_some {e : Expr} {t : EE} (h : JE X e t) : JO X (some e) (ePart t) := ⟨po_some h.pe, fun P s G Q σ H R q r k => by
  refine h.le P s G _ σ H _ q r fun d G' v H' st w rp q' => ?_
  cases d with
  | int i => rw [rep_i rp]; exact ⟨i, rfl, k _ G' H' st w q'⟩
  | _ => exact q'.elim⟩
/-- a list's slice -/
@[simp] def eSlL (te : EE) (tl th : EO) : EE := fun s G Q => te s G fun x G1 => tl s G1 fun l G2 => th s G2 fun u G3 => match lkL G3 x with
  | some ds => Q (.lst (cutD ds l u)) G3
  | none => False
/-- a tuple's slice that is not the whole -/
@[simp] def eSlT (te : EE) (tl th : EO) : EE := fun s G Q => te s G fun x G1 => tl s G1 fun l G2 => th s G2 fun u G3 => match x with
  | .tup ds => ¬ (HT.sIx ds.length 0 l = 0 ∧ HT.sIx ds.length ds.length u = ds.length) ∧ Q (.tup (cutD ds l u)) G3
  | _ => False
theorem j_slT {e : Expr} {lo hi : Option Expr} {t : EE} {el eh : EO} {pos p2 : Pos} (he : JE X e t) (hl : JO X lo el) (hu : JO X hi eh) : JE X (.Subscript e (.Slice lo hi none p2) pos) (eSlT t el eh) :=
  ⟨pe_slice sl_tup he.pe hl.po hu.po, fun P s G Q σ H R h r k => by
    refine he.le P s G _ σ H _ h r fun x G1 u H1 s1 w1 r1 h1 => ?_
    refine hl.lp P s G1 _ σ H1 _ h1 (r.step s1 w1) fun l G2 H2 s2 w2 h2 => ?_
    refine hu.lp P s G2 _ σ H2 _ h2 (r.step (s1.trans s2) w2) fun m G3 H3 s3 w3 h3 => ?_
    have r3 := (r1.step s2).step s3
    cases x with
    | tup ds =>
      obtain ⟨a, xs, rfl, g, p, rr, z, q⟩ := rep_t r3
      refine ⟨a, xs, rfl, SqT.of rr, by rw [← q.length]; exact h3.1, fun p hp => ?_⟩
      obtain ⟨f1, f2⟩ := w3.fresh hp
      have st : Step G3 H3 G3 (upd H3 p (.tup (cutV xs l m))) := Step.new hp
      exact k _ G3 _ _ (((s1.trans s2).trans s3).trans st) (w3.new hp) (rep_tup f1 f2 upd_same (Nat.le_trans (cutD_length _ _ _) z) ((cut_reps q).step st)) h3.2
    | _ => exact h3.elim⟩
theorem j_ix {a b : Expr} {ea eb : EE} {pos : Pos} (ha : JE X a ea) (hb : JE X b eb) (hs : PlainIx b := by intro _ _; rfl) : JE X (.Subscript a b pos) (eOp oIx ea eb) := ⟨pe_ix ix_seq ha.pe hb.pe hs, le_op lo_ix ha.le hb.le⟩
@[simp] def eNil : EA := fun _ G Q => Q [] G
@[simp] def eCons (ta : EE) (tr : EA) : EA := fun s G Q => ta s G fun x G1 => tr s G1 fun xs G2 => Q (x :: xs) G2
theorem la_nil : LA K 0 tNil eNil := fun P s G Q σ H R h r k => k [] G [] H (Step.refl _ _) r.wo reps_nil rfl h
theorem la_cons {n : Nat} {ta : TE} {tr : TA} {ea : EE} {er : EA} (ha : LE K ta ea) (hr : LA K n tr er) : LA K (n + 1) (tCons ta tr) (eCons ea er) := fun P s G Q σ H R h r k => by
  refine ha P s G _ σ H _ h r fun x G1 u H1 s1 w1 r1 h1 => ?_
  exact hr P s G1 _ σ H1 _ h1 (r.step s1 w1) fun xs G2 us H2 s2 w2 r2 l2 h2 => k _ G2 _ H2 (s1.trans s2) w2 (reps_cons (r1.step s2) r2) (by rw [List.length_cons, l2]) h2
theorem ja_nil : JA X [] eNil := ⟨pa_nil, la_nil⟩
theorem ja_cons {e : Expr} {es : List Expr} {ee : EE} {ea : EA} (ha : JE X e ee) (hr : JA X es ea) (hs : starEach (e :: es) X.env = (false, eval e X.env) :: starEach es X.env := by rfl) : JA X (e :: es) (eCons ee ea) := ⟨pa_cons ha.pe hr.pa hs, la_cons ha.le hr.la⟩
/-- a tuple; a list, frozen; a list, owned -/
@[simp] def eTup (t : EA) : EE := fun s G Q => t s G fun xs G1 => xs.length ≤ sizeLine ∧ Q (.tup xs) G1
@[simp] def eLst (t : EA) : EE := fun s G Q => t s G fun xs G1 => xs.length ≤ sizeLine ∧ Q (.lst xs) G1
@[simp] def eLstO (t : EA) : EE := fun s G Q => t s G fun xs G1 => xs.length ≤ sizeLine ∧ ∀ p, G1 p = none → Q (.ref p) (gput G1 p (.lst xs))
theorem j_tup {es : List Expr} {ea : EA} {x1 : Nat} {pos : Pos} (h : JA X es ea) : JE X (.Tuple es x1 pos) (eTup ea) := ⟨pe_tup h.pa, fun P s G Q σ H R q r k => by
  refine h.la P s G _ σ H _ q r fun xs G1 us H1 s1 w1 r1 _ h1 => ?_
  refine ⟨by rw [← r1.length]; exact h1.1, fun p hp => ?_⟩
  obtain ⟨f1, f2⟩ := w1.fresh hp
  have st : Step G1 H1 G1 (upd H1 p (.tup us)) := Step.new hp
  exact k _ G1 _ _ (s1.trans st) (w1.new hp) (rep_tup f1 f2 upd_same h1.1 (r1.step st)) h1.2⟩
theorem j_lst {es : List Expr} {ea : EA} {pos : Pos} (h : JA X es ea) : JE X (.List es pos) (eLst ea) := ⟨pe_lst h.pa, fun P s G Q σ H R q r k => by
  refine h.la P s G _ σ H _ q r fun xs G1 us H1 s1 w1 r1 _ h1 => ?_
  refine ⟨by rw [← r1.length]; exact h1.1, fun p hp => ?_⟩
  obtain ⟨f1, f2⟩ := w1.fresh hp
  have st : Step G1 H1 G1 (upd H1 p (.lst us)) := Step.new hp
  exact k _ G1 _ _ (s1.trans st) (w1.new hp) (rep_lst f1 f2 upd_same h1.1 (r1.step st)) h1.2⟩
/-- a new owned list -/
theorem own_lst {P : Addr → Prop} {G : Gp} {H : Hp} {ds : List D} {xs : List V} {p : Addr} (w : Wo K P G H) (hp : H p = none) (q : Reps K H G P ds xs) (z : ds.length ≤ sizeLine) : Step G H (gput G p (.lst ds)) (upd H p (.lst xs)) ∧ Wo K P (gput G p (.lst ds)) (upd H p (.lst xs)) ∧ Rep K (upd H p (.lst xs)) (gput G p (.lst ds)) P (.ref p) (.ref p) := by
  have st : Step G H (gput G p (.lst ds)) (upd H p (.lst xs)) := Step.newOwn w hp
  refine ⟨st, w.newOwn hp ⟨xs, rfl, z, q.step st⟩, ?_⟩
  unfold Rep
  exact ⟨rfl, _, gput_same⟩
theorem j_lstO {es : List Expr} {ea : EA} {pos : Pos} (h : JA X es ea) : JE X (.List es pos) (eLstO ea) := ⟨pe_lst h.pa, fun P s G Q σ H R q r k => by
  refine h.la P s G _ σ H _ q r fun xs G1 us H1 s1 w1 r1 _ h1 => ?_
  refine ⟨by rw [← r1.length]; exact h1.1, fun p hp => ?_⟩
  obtain ⟨a, b, c⟩ := own_lst w1 hp r1 h1.1
  exact k _ _ _ _ (s1.trans a) b c (h1.2 p (w1.fresh hp).1)⟩
abbrev CD := List D → Gp → DK → Prop
def LC (K : PySem.W.Frag) (r : List V → Hp → VK → Prop) (c : CD) : Prop := ∀ (P : Addr → Prop) (G : Gp) (H : Hp) (xs : List D) (us : List V) (Q : DK) (R : VK), c xs G Q → Wo K P G H → Reps K H G P xs us →
  (∀ d G' w H', Step G H G' H' → Wo K P G' H' → Rep K H' G' P d w → Q d G' → R w H') → r us H R
@[simp] def eCB (c : CD) (t : EA) : EE := fun s G Q => t s G fun xs G1 => c xs G1 Q
theorem le_cb {n : Nat} {r : List V → Hp → VK → Prop} {c : CD} {t : TA} {ea : EA} (hc : LC K r c) (ha : LA K n t ea) : LE K (tCB r t) (eCB c ea) := fun P s G Q σ H R h rl k => by
  refine ha P s G _ σ H _ h rl fun xs G1 us H1 s1 w1 r1 _ h1 => ?_
  exact hc P G1 H1 xs us Q R h1 w1 r1 fun d G' w H' st w' r' q' => k d G' w H' (s1.trans st) w' r' q'
theorem j_cb {x : Str} {p pos : Pos} {e : Expr} {es : List Expr} {ea : EA} {id : String} {r : List V → Hp → VK → Prop} {c : CD} (hc : CallR X (.builtin id) r) (lc : LC X.K r c) (hg : Gl X x) (hm : X.mg x = none) (hv : bootBuiltins x = some (.builtin id)) (ha : JA X (e :: es) ea)
    (hn : x ≠ "__name__" := by decide) (hdb : (x == ("__debug__" : Str)) = false := by decide) (he : starEach (e :: es) X.env = (false, eval e X.env) :: starEach es X.env := by rfl) (hpl : (backTo pos (starEach es X.env)).any (·.1) = false := by rfl) : JE X (.Call (.Name x p) (e :: es) [] pos) (eCB c ea) :=
  ⟨pe_callB hc hg hm hv ha.pa hn hdb he hpl, le_cb lc ha.la⟩
theorem j_ct {x : Str} {p pos : Pos} {e : Expr} {es : List Expr} {ea : EA} {T : String} {r : List V → Hp → VK → Prop} {c : CD} (hc : CallR X (.type T) r) (lc : LC X.K r c) (hg : Gl X x) (hm : X.mg x = none) (hv : bootBuiltins x = some (.type T)) (ha : JA X (e :: es) ea)
    (hn : x ≠ "__name__" := by decide) (hdb : (x == ("__debug__" : Str)) = false := by decide) (he : starEach (e :: es) X.env = (false, eval e X.env) :: starEach es X.env := by rfl) (hpl : (backTo pos (starEach es X.env)).any (·.1) = false := by rfl) : JE X (.Call (.Name x p) (e :: es) [] pos) (eCB c ea) :=
  ⟨pe_callTy hc hg hm hv ha.pa hn hdb he hpl, le_cb lc ha.la⟩
theorem reps1 {P : Addr → Prop} {G : Gp} {H : Hp} {d : D} {us : List V} (h : Reps K H G P [d] us) : ∃ u, us = [u] ∧ Rep K H G P d u := by
  unfold Reps at h
  obtain ⟨x, r, rfl, h1, h2⟩ := h
  unfold Reps at h2
  subst h2
  exact ⟨x, rfl, h1⟩
theorem reps2 {P : Addr → Prop} {G : Gp} {H : Hp} {d e : D} {us : List V} (h : Reps K H G P [d, e] us) : ∃ u v, us = [u, v] ∧ Rep K H G P d u ∧ Rep K H G P e v := by
  unfold Reps at h
  obtain ⟨x, r, rfl, h1, h2⟩ := h
  obtain ⟨v, rfl, h3⟩ := reps1 h2
  exact ⟨x, v, rfl, h1, h3⟩
/-- len -/
@[simp] def cLen : CD := fun xs G Q => match xs with
  | [.str z] => z.length ≤ sizeLine ∧ Q (.int z.length) G
  | [x] => (match lkQ G x with
    | some ds => Q (.int ds.length) G
    | none => False)
  | _ => False
theorem lc_len : LC K (fun xs H Q => ∃ x n, xs = [x] ∧ LenV K x H n ∧ Q (.int n) H) cLen := fun P G H xs us Q R h w r k => by
  unfold cLen at h
  split at h
  · rename_i z
    obtain ⟨u, rfl, r1⟩ := reps1 r
    rw [rep_s r1]
    exact ⟨_, _, rfl, ⟨h.1, rfl⟩, k _ G _ H (Step.refl _ _) w rep_int h.2⟩
  · rename_i x _
    obtain ⟨u, rfl, r1⟩ := reps1 r
    split at h
    · rename_i ds e
      obtain ⟨a, ys, rfl, s, q, z⟩ := lkQ_sq w r1 e
      refine ⟨_, ys.length, rfl, ?_, k _ G _ H (Step.refl _ _) w rep_int (by rw [← q.length]; exact h)⟩
      rcases s with s | s
      · exact .inl ⟨ys, s, rfl⟩
      · exact .inr ⟨ys, s, rfl⟩
    · exact h.elim
  · exact h.elim
@[simp] def cMax2 : CD := fun xs G Q => match xs with
  | [.int i, .int j] => Q (.int (if j > i then j else i)) G
  | _ => False
@[simp] def cMin2 : CD := fun xs G Q => match xs with
  | [.int i, .int j] => Q (.int (if j < i then j else i)) G
  | _ => False
theorem lc_max2 : LC K (fun xs H Q => ∃ i j, xs = [.int i, .int j] ∧ Q (.int (if j > i then j else i)) H) cMax2 := fun P G H xs us Q R h w r k => by
  unfold cMax2 at h
  split at h
  · obtain ⟨u, v, rfl, r1, r2⟩ := reps2 r
    rw [rep_i r1, rep_i r2]
    exact ⟨_, _, rfl, k _ G _ H (Step.refl _ _) w rep_int h⟩
  · exact h.elim
theorem lc_min2 : LC K (fun xs H Q => ∃ i j, xs = [.int i, .int j] ∧ Q (.int (if j < i then j else i)) H) cMin2 := fun P G H xs us Q R h w r k => by
  unfold cMin2 at h
  split at h
  · obtain ⟨u, v, rfl, r1, r2⟩ := reps2 r
    rw [rep_i r1, rep_i r2]
    exact ⟨_, _, rfl, k _ G _ H (Step.refl _ _) w rep_int h⟩
  · exact h.elim
@[simp] def cInt1 : CD := fun xs G Q => match xs with
  | [.int i] => Q (.int i) G
  | [.bl b] => Q (.int (if b then 1 else 0)) G
  | _ => False
theorem lc_int1 : LC K (fun xs H Q => (∃ i, xs = [.int i] ∧ Q (.int i) H) ∨ ∃ k, xs = [.bl k] ∧ Q (.int (if k then 1 else 0)) H) cInt1 := fun P G H xs us Q R h w r k => by
  unfold cInt1 at h
  split at h
  · obtain ⟨u, rfl, r1⟩ := reps1 r
    rw [rep_i r1]
    exact .inl ⟨_, rfl, k _ G _ H (Step.refl _ _) w rep_int h⟩
  · obtain ⟨u, rfl, r1⟩ := reps1 r
    rw [rep_b r1]
    exact .inr ⟨_, rfl, k _ G _ H (Step.refl _ _) w rep_int h⟩
  · exact h.elim
/-- list(x) of a list or tuple: new, frozen; owned -/
@[simp] def cList : CD := fun xs G Q => match xs with
  | [x] => (match lkQ G x with
    | some ds => Q (.lst ds) G
    | none => False)
  | _ => False
@[simp] def cListO : CD := fun xs G Q => match xs with
  | [x] => (match lkQ G x with
    | some ds => ∀ p, G p = none → Q (.ref p) (gput G p (.lst ds))
    | none => False)
  | _ => False
theorem lc_list : LC K (fun xs H Q => ∃ p ys, xs = [.ref p] ∧ (SqL K H p ys ∨ SqT K H p ys) ∧ ∀ l, H l = none → Q (.ref l) (upd H l (.lst ys))) cList := fun P G H xs us Q R h w r k => by
  unfold cList at h
  split at h
  · obtain ⟨u, rfl, r1⟩ := reps1 r
    split at h
    · rename_i ds e
      obtain ⟨a, ys, rfl, s, q, z⟩ := lkQ_sq w r1 e
      refine ⟨a, ys, rfl, s, fun p hp => ?_⟩
      obtain ⟨f1, f2⟩ := w.fresh hp
      have st : Step G H G (upd H p (.lst ys)) := Step.new hp
      exact k _ G _ _ st (w.new hp) (rep_lst f1 f2 upd_same z (q.step st)) h
    · exact h.elim
  · exact h.elim
theorem lc_listO : LC K (fun xs H Q => ∃ p ys, xs = [.ref p] ∧ (SqL K H p ys ∨ SqT K H p ys) ∧ ∀ l, H l = none → Q (.ref l) (upd H l (.lst ys))) cListO := fun P G H xs us Q R h w r k => by
  unfold cListO at h
  split at h
  · obtain ⟨u, rfl, r1⟩ := reps1 r
    split at h
    · rename_i ds e
      obtain ⟨a, ys, rfl, s, q, z⟩ := lkQ_sq w r1 e
      refine ⟨a, ys, rfl, s, fun p hp => ?_⟩
      obtain ⟨b, c, d⟩ := own_lst w hp q z
      exact k _ _ _ _ b c d (h p (w.fresh hp).1)
    · exact h.elim
  · exact h.elim
/-- ints of a list of data -/
def intsD : List D → Option (List Int)
  | [] => some []
  | .int i :: ds => (intsD ds).map (i :: ·)
  | _ :: _ => none
@[simp] def cSum : CD := fun xs G Q => match xs with
  | [x] => (match (lkL G x).bind intsD with
    | some ns => Q (.int ns.sum) G
    | none => False)
  | _ => False
/-- max, min of a list of ints -/
@[simp] def cMax : CD := fun xs G Q => match xs with
  | [x] => (match (lkL G x).bind intsD with
    | some ns => 0 < ns.length ∧ ∀ m, m ∈ ns → (∀ y, y ∈ ns → y ≤ m) → Q (.int m) G
    | none => False)
  | _ => False
@[simp] def cMin : CD := fun xs G Q => match xs with
  | [x] => (match (lkL G x).bind intsD with
    | some ns => 0 < ns.length ∧ ∀ m, m ∈ ns → (∀ y, y ∈ ns → m ≤ y) → Q (.int m) G
    | none => False)
  | _ => False
/-- all, any of a list of truths -/
def blsD : List D → Option (List Bool)
  | [] => some []
  | .bl i :: ds => (blsD ds).map (i :: ·)
  | _ :: _ => none
theorem reps_bls {P : Addr → Prop} {G : Gp} {H : Hp} : ∀ {ds : List D} {bs : List Bool} {us : List V}, Reps K H G P ds us → blsD ds = some bs → us = bs.map V.bl
  | [], bs, us, h, e => by cases e; unfold Reps at h; exact h
  | .bl i :: ds, bs, us, h, e => by
    rw [blsD] at e
    obtain ⟨r, e1, rfl⟩ := opt_map e
    unfold Reps at h
    obtain ⟨x, xs, rfl, h1, h2⟩ := h
    rw [rep_b h1, reps_bls h2 e1]; rfl
  | .non :: _, _, _, _, e => by cases e
  | .int _ :: _, _, _, _, e => by cases e
  | .str _ :: _, _, _, _, e => by cases e
  | .ty _ :: _, _, _, _, e => by cases e
  | .ref _ :: _, _, _, _, e => by cases e
  | .cl _ :: _, _, _, _, e => by cases e
  | .lst _ :: _, _, _, _, e => by cases e
  | .tup _ :: _, _, _, _, e => by cases e
  | .dct _ _ :: _, _, _, _, e => by cases e
  | .exc _ _ _ _ :: _, _, _, _, e => by cases e
  | .scr _ :: _, _, _, _, e => by cases e
@[simp] def cAll : CD := fun xs G Q => match xs with
  | [x] => (match (lkL G x).bind blsD with
    | some ns => Q (.bl (ns.all id)) G
    | none => False)
  | _ => False
@[simp] def cAny : CD := fun xs G Q => match xs with
  | [x] => (match (lkL G x).bind blsD with
    | some ns => Q (.bl (ns.any id)) G
    | none => False)
  | _ => False
theorem lk_bls {P : Addr → Prop} {G : Gp} {H : Hp} (w : Wo K P G H) {x : D} {u : V} {ns : List Bool} (r : Rep K H G P x u) (e : (lkL G x).bind blsD = some ns) : ∃ a, u = .ref a ∧ SqL K H a (ns.map V.bl) := by
  cases e1 : lkL G x with
  | none => rw [e1] at e; cases e
  | some ds =>
    rw [e1] at e
    obtain ⟨a, ys, rfl, s, q, z⟩ := lk_sq w r e1
    rw [reps_bls q e] at s
    exact ⟨a, rfl, s⟩
theorem lc_all : LC K (rAll K) cAll := fun P G H xs us Q R h w r k => by
  unfold cAll at h
  split at h
  · obtain ⟨u, rfl, r1⟩ := reps1 r
    split at h
    · rename_i ns e
      obtain ⟨a, rfl, s⟩ := lk_bls w r1 e
      exact ⟨a, ns, rfl, s, k _ G _ H (Step.refl _ _) w rep_bl h⟩
    · exact h.elim
  · exact h.elim
/-- isinstance(x, T), T a built-in type -/
def tyD (G : Gp) : D → Option String
  | .non => some "NoneType"
  | .bl _ => some "bool"
  | .int _ => some "int"
  | .str _ => some "str"
  | .lst _ => some "list"
  | .tup _ => some "tuple"
  | .dct _ _ => some "dict"
  | .ref a => match G a with
    | some (.lst _) => some "list"
    | some (.dct _ _) => some "dict"
    | _ => none
  | _ => none
@[simp] theorem tyD_non {G : Gp} : tyD G .non = some "NoneType" := rfl
@[simp] theorem tyD_bl {G : Gp} {b : Bool} : tyD G (.bl b) = some "bool" := rfl
@[simp] theorem tyD_int {G : Gp} {i : Int} : tyD G (.int i) = some "int" := rfl
@[simp] theorem tyD_str {G : Gp} {y : Str} : tyD G (.str y) = some "str" := rfl
@[simp] theorem tyD_lst {G : Gp} {ds : List D} : tyD G (.lst ds) = some "list" := rfl
@[simp] theorem tyD_tup {G : Gp} {ds : List D} : tyD G (.tup ds) = some "tuple" := rfl
@[simp] theorem tyD_dct {G : Gp} {ks : List Key} {ds : List D} : tyD G (.dct ks ds) = some "dict" := rfl
@[simp] theorem tyD_ref {G : Gp} {a : Addr} : tyD G (.ref a) = match G a with
    | some (.lst _) => some "list"
    | some (.dct _ _) => some "dict"
    | _ => none := rfl
theorem ty_of {P : Addr → Prop} {G : Gp} {H : Hp} (w : Wo K P G H) {d : D} {v : V} {n : String} (h : Rep K H G P d v) (e : tyD G d = some n) : TyX K H v (.type n) := by
  refine .base ?_
  cases d with
  | non => cases e; rw [rep_n h]; exact .non
  | bl b => cases e; rw [rep_b h]; exact .bl b
  | int b => cases e; rw [rep_i h]; exact .int b
  | str b => cases e; rw [rep_s h]; exact .str b
  | lst ds => cases e; obtain ⟨a, xs, rfl, g, p, r, z, q⟩ := rep_l h; exact .lst r
  | tup ds => cases e; obtain ⟨a, xs, rfl, g, p, r, z, q⟩ := rep_t h; exact .tup r
  | dct ks ds => cases e; unfold Rep at h; obtain ⟨a, xs, rfl, g, p, r, z, q⟩ := h; exact .dK r
  | ref a =>
    unfold Rep at h
    obtain ⟨rfl, o, ho⟩ := h
    simp only [tyD, ho] at e
    obtain ⟨u, e1, r⟩ := w.own a o ho
    cases o with
    | lst ds => cases e; obtain ⟨xs, rfl, z, q⟩ := r; exact .lst e1
    | dct ks ds => cases e; obtain ⟨xs, rfl, z, q⟩ := r; exact .dK e1
    | _ => cases e
  | _ => cases e
@[simp] def cIsi : CD := fun xs G Q => match xs with
  | [x, .ty n] => (match (tyD G x).bind fun m => kitB m n with
    | some b => Q (.bl b) G
    | none => False)
  | _ => False
theorem lc_isi : LC K (rIsi K) cIsi := fun P G H xs us Q R h w r k => by
  unfold cIsi at h
  split at h
  · rename_i x n
    obtain ⟨u, v, rfl, r1, r2⟩ := reps2 r
    have e2 : v = .ty n := by unfold Rep at r2; exact r2
    split at h
    · rename_i b e
      cases e1 : tyD G x with
      | none => rw [e1] at e; cases e
      | some m =>
        rw [e1] at e
        exact ⟨u, v, .type m, .type n, b, rfl, by rw [e2]; exact .ty n, ty_of w r1 e1, kit_ty e, k _ G _ H (Step.refl _ _) w rep_bl h⟩
    · exact h.elim
  · exact h.elim
end
end DL
set_option Elab.async false
set_option linter.all false
set_option maxRecDepth 100000
set_option maxHeartbeats 4000000
namespace DL
open PySem L2
mutual
theorem Rep.prv {K : PySem.W.Frag} {P : Addr → Prop} {G : Gp} {H : Hp} {p : Addr} {o : HO} (hp : P p) (hf : ∀ o' xs, H p ≠ some (.frz o' xs)) : ∀ {d : D} {v : V}, Rep K H G P d v → Rep K (upd H p o) G P d v
  | .non, _, h => by unfold Rep at h ⊢; exact h
  | .bl _, _, h => by unfold Rep at h ⊢; exact h
  | .int _, _, h => by unfold Rep at h ⊢; exact h
  | .str _, _, h => by unfold Rep at h ⊢; exact h
  | .ty _, _, h => by unfold Rep at h ⊢; exact h
  | .cl _, _, h => by unfold Rep at h ⊢; exact h
  | .ref a, _, h => by unfold Rep at h ⊢; exact h
  | .exc a dd f e, _, h => by
    unfold Rep at h ⊢
    obtain ⟨rfl, g, pp, u, r, t⟩ := h
    exact ⟨rfl, g, pp, u, by rw [upd_ne (fun e => by subst e; exact pp hp)]; exact r, Rep.prv hp hf t⟩
  | .scr ns, _, h => by
    unfold Rep at h ⊢
    obtain ⟨a, rfl, z, ⟨⟨o, h⟩, g⟩ | ⟨h, g, pp⟩ | h⟩ := h
    · exact ⟨a, rfl, z, .inl ⟨⟨o, by rw [upd_ne (fun e => by subst e; exact hf _ _ h)]; exact h⟩, g⟩⟩
    · exact ⟨a, rfl, z, .inr (.inl ⟨by rw [upd_ne (fun e => by subst e; exact pp hp)]; exact h, g, pp⟩)⟩
    · exact ⟨a, rfl, z, .inr (.inr h)⟩
  | .lst ds, _, h => by
    unfold Rep at h ⊢
    obtain ⟨a, xs, rfl, g, q, r, z, t⟩ := h
    exact ⟨a, xs, rfl, g, q, by rw [upd_ne (fun e => by subst e; exact q hp)]; exact r, z, Reps.prv hp hf t⟩
  | .tup ds, _, h => by
    unfold Rep at h ⊢
    obtain ⟨a, xs, rfl, g, q, r, z, t⟩ := h
    exact ⟨a, xs, rfl, g, q, by rw [upd_ne (fun e => by subst e; exact q hp)]; exact r, z, Reps.prv hp hf t⟩
  | .dct ks ds, _, h => by
    unfold Rep at h ⊢
    obtain ⟨a, xs, rfl, g, q, r, z, t⟩ := h
    exact ⟨a, xs, rfl, g, q, by rw [upd_ne (fun e => by subst e; exact q hp)]; exact r, z, Reps.prv hp hf t⟩
theorem Reps.prv {K : PySem.W.Frag} {P : Addr → Prop} {G : Gp} {H : Hp} {p : Addr} {o : HO} (hp : P p) (hf : ∀ o' xs, H p ≠ some (.frz o' xs)) : ∀ {ds : List D} {vs : List V}, Reps K H G P ds vs → Reps K (upd H p o) G P ds vs
  | [], _, h => by unfold Reps at h ⊢; exact h
  | d :: ds, _, h => by
    unfold Reps at h ⊢
    obtain ⟨x, r, rfl, h1, h2⟩ := h
    exact ⟨x, r, rfl, Rep.prv hp hf h1, Reps.prv hp hf h2⟩
end
section
variable {K : PySem.W.Frag} {P : Addr → Prop} {G G' : Gp} {H H' : Hp} {p : Addr}
theorem RelO.prv {o : GO} {ho u : HO} (hp : P p) (hf : ∀ o' xs, H p ≠ some (.frz o' xs)) (h : RelO K H G P o ho) : RelO K (upd H p u) G P o ho := by
  cases o with
  | lst ds => obtain ⟨xs, e, z, q⟩ := h; exact ⟨xs, e, z, q.prv hp hf⟩
  | dct ks ds => obtain ⟨xs, e, z, q⟩ := h; exact ⟨xs, e, z, q.prv hp hf⟩
  | ins C dx ks ds => obtain ⟨xs, e, z, q⟩ := h; exact ⟨xs, e, z, q.prv hp hf⟩
  | own x => exact h
  | set S n => exact h
  | gen r ds => obtain ⟨xs, e, z, q⟩ := h; exact ⟨xs, e, z, q.prv hp hf⟩
  | tbl f q a =>
    obtain ⟨ea, ps, e, z, q⟩ := h
    refine ⟨ea, ps, e, z, fun pos cv hc => ?_⟩
    obtain ⟨c, e1, e2, e3, e4⟩ := q pos cv hc
    exact ⟨c, e1, by rw [upd_ne (fun z => e4 (by rw [z]; exact hp))]; exact e2, e3, e4⟩
theorem Wo.prvUpd (w : Wo K P G H) {u : HO} (hp : P p) (hf : ∀ o' xs, H p ≠ some (.frz o' xs)) (nt : ∀ ys, u ≠ .tup ys := by intro _ h; cases h) : Wo K P G (upd H p u) := by
  refine ⟨fun a o e => ?_, fun a q => ?_⟩
  · obtain ⟨ho, e1, r⟩ := w.own a o e
    have ne : a ≠ p := fun z => by subst z; rw [(w.prv a hp).1] at e; cases e
    exact ⟨ho, by rw [upd_ne ne]; exact e1, r.prv hp hf⟩
  · obtain ⟨g, ho, e, n2⟩ := w.prv a q
    by_cases ne : a = p
    · subst ne; exact ⟨g, u, upd_same, nt⟩
    · exact ⟨g, ho, by rw [upd_ne ne]; exact e, n2⟩
/-- what was not there may change -/
theorem Step.out (s : Step G H G' H') {o : HO} (h : H p = none) : Step G H G' (upd H' p o) :=
  ⟨fun a u e g => ⟨by rw [upd_ne (ne_of_none e h)]; exact (s.keep a u e g).1, (s.keep a u e g).2⟩, s.own⟩
/-- one more private address -/
def prvAdd (P : Addr → Prop) (p : Addr) : Addr → Prop := fun a => P a ∨ a = p
theorem Wo.add (w : Wo K P G H) {o : HO} (h : H p = none) (nt : ∀ ys, o ≠ .tup ys := by intro _ h; cases h) : Wo K (prvAdd P p) G (upd H p o) := by
  have w1 := w.new (o := o) h
  obtain ⟨f1, f2⟩ := w.fresh h
  refine ⟨fun a u e => ?_, fun a q => ?_⟩
  · obtain ⟨ho, e1, r⟩ := w.own a u e
    refine ⟨ho, by rw [upd_ne (ne_of_none e1 h)]; exact e1, r.step (Step.new h) fun b hb q => ?_⟩
    rcases q with q | q
    · exact q
    · subst q; obtain ⟨x, e⟩ := hb; rw [h] at e; cases e
  · rcases q with q | q
    · exact w1.prv a q
    · subst q; exact ⟨f1, o, upd_same, nt⟩
theorem Wo.sub (w : Wo K (prvAdd P p) G H) : Wo K P G H :=
  ⟨fun a o e => let ⟨ho, e1, r⟩ := w.own a o e; ⟨ho, e1, r.step (Step.refl _ _) fun _ _ q => .inl q⟩, fun a q => w.prv a (.inl q)⟩
theorem Rep.sub {d : D} {v : V} (h : Rep K H G (prvAdd P p) d v) : Rep K H G P d v := h.mono (Step.refl _ _) fun _ _ q => .inl q
theorem Reps.sub {d : List D} {v : List V} (h : Reps K H G (prvAdd P p) d v) : Reps K H G P d v := h.mono (Step.refl _ _) fun _ _ q => .inl q
end
mutual
theorem Rep.toOwn {K : PySem.W.Frag} {P : Addr → Prop} {G : Gp} {H : Hp} {p : Addr} {o : GO} (hf : ∀ o' xs, H p ≠ some (.frz o' xs)) : ∀ {d : D} {v : V}, Rep K H G (prvAdd P p) d v → Rep K H (gput G p o) P d v
  | .non, _, h => by unfold Rep at h ⊢; exact h
  | .bl _, _, h => by unfold Rep at h ⊢; exact h
  | .int _, _, h => by unfold Rep at h ⊢; exact h
  | .str _, _, h => by unfold Rep at h ⊢; exact h
  | .ty _, _, h => by unfold Rep at h ⊢; exact h
  | .cl _, _, h => by unfold Rep at h ⊢; exact h
  | .ref a, _, h => by
    unfold Rep at h ⊢
    obtain ⟨rfl, u, hu⟩ := h
    by_cases ne : a = p
    · subst ne; exact ⟨rfl, _, gput_same⟩
    · exact ⟨rfl, u, by rw [gput_ne ne]; exact hu⟩
  | .exc a dd f e, _, h => by
    unfold Rep at h ⊢
    obtain ⟨rfl, g, pp, u, r, t⟩ := h
    exact ⟨rfl, by rw [gput_ne (fun e => pp (.inr e))]; exact g, fun x => pp (.inl x), u, r, Rep.toOwn hf t⟩
  | .scr ns, _, h => by
    unfold Rep at h ⊢
    obtain ⟨a, rfl, z, ⟨⟨u, h⟩, g⟩ | ⟨h, g, pp⟩ | h⟩ := h
    · exact ⟨a, rfl, z, .inl ⟨⟨u, h⟩, by rw [gput_ne (fun e => by subst e; exact hf _ _ h)]; exact g⟩⟩
    · exact ⟨a, rfl, z, .inr (.inl ⟨h, by rw [gput_ne (fun e => pp (.inr e))]; exact g, fun x => pp (.inl x)⟩)⟩
    · exact ⟨a, rfl, z, .inr (.inr h)⟩
  | .lst ds, _, h => by
    unfold Rep at h ⊢
    obtain ⟨a, xs, rfl, g, q, r, z, t⟩ := h
    exact ⟨a, xs, rfl, by rw [gput_ne (fun e => q (.inr e))]; exact g, fun x => q (.inl x), r, z, Reps.toOwn hf t⟩
  | .tup ds, _, h => by
    unfold Rep at h ⊢
    obtain ⟨a, xs, rfl, g, q, r, z, t⟩ := h
    exact ⟨a, xs, rfl, by rw [gput_ne (fun e => q (.inr e))]; exact g, fun x => q (.inl x), r, z, Reps.toOwn hf t⟩
  | .dct ks ds, _, h => by
    unfold Rep at h ⊢
    obtain ⟨a, xs, rfl, g, q, r, z, t⟩ := h
    exact ⟨a, xs, rfl, by rw [gput_ne (fun e => q (.inr e))]; exact g, fun x => q (.inl x), r, z, Reps.toOwn hf t⟩
theorem Reps.toOwn {K : PySem.W.Frag} {P : Addr → Prop} {G : Gp} {H : Hp} {p : Addr} {o : GO} (hf : ∀ o' xs, H p ≠ some (.frz o' xs)) : ∀ {ds : List D} {vs : List V}, Reps K H G (prvAdd P p) ds vs → Reps K H (gput G p o) P ds vs
  | [], _, h => by unfold Reps at h ⊢; exact h
  | d :: ds, _, h => by
    unfold Reps at h ⊢
    obtain ⟨x, r, rfl, h1, h2⟩ := h
    exact ⟨x, r, rfl, Rep.toOwn hf h1, Reps.toOwn hf h2⟩
end
theorem Wo.toOwn {K : PySem.W.Frag} {P : Addr → Prop} {G : Gp} {H : Hp} {p : Addr} {o : GO} {ho : HO} (w : Wo K (prvAdd P p) G H) (np : ¬ P p) (e : H p = some ho) (r : RelO K H (gput G p o) P o ho) (hf : ∀ o' xs, H p ≠ some (.frz o' xs)) : Wo K P (gput G p o) H := by
  refine ⟨fun a u eu => ?_, fun a q => ?_⟩
  · by_cases ne : a = p
    · subst ne; rw [gput_same] at eu; cases eu; exact ⟨ho, e, r⟩
    · rw [gput_ne ne] at eu
      obtain ⟨hu, e1, r1⟩ := w.own a u eu
      refine ⟨hu, e1, ?_⟩
      cases u with
      | lst ds => obtain ⟨xs, e, z, q⟩ := r1; exact ⟨xs, e, z, q.toOwn hf⟩
      | dct ks ds => obtain ⟨xs, e, z, q⟩ := r1; exact ⟨xs, e, z, q.toOwn hf⟩
      | ins C dx ks ds => obtain ⟨xs, e, z, q⟩ := r1; exact ⟨xs, e, z, q.toOwn hf⟩
      | own x => exact r1
      | set S n => exact r1
      | gen r ds => obtain ⟨xs, e, z, q⟩ := r1; exact ⟨xs, e, z, q.toOwn hf⟩
      | tbl f q a =>
        obtain ⟨ea, ps, e, z, q⟩ := r1
        refine ⟨ea, ps, e, z, fun pos cv hc => ?_⟩
        obtain ⟨c, e1, e2, e3, e4⟩ := q pos cv hc
        exact ⟨c, e1, e2, by rw [gput_ne (fun z => e4 (.inr z))]; exact e3, fun x => e4 (.inl x)⟩
  · obtain ⟨g, hu, e1, nt⟩ := w.prv a (.inl q)
    exact ⟨by rw [gput_ne (fun z => by subst z; exact np q)]; exact g, hu, e1, nt⟩
def Wk (K : PySem.W.Frag) (P : Addr → Prop) (G0 : Gp) (H0 : Hp) (Kp : Gp → Prop) (J : It) (ds : List D) : Prop := ds.length ≤ sizeLine ∧ ∀ (P' : Addr → Prop) (G : Gp) (H : Hp) (i : Nat), (∀ a, (∃ ho, H0 a = some ho) → P' a → P a) → Step G0 H0 G H → Wo K P' G H → Kp G →
  (∀ d, ds[i]? = some d → J.go i H ∧ ∀ x H', J.yld i H x H' → Step G H G H' ∧ Wo K P' G H' ∧ Rep K H' G P' d x) ∧ (ds.length ≤ i → J.stop i H)
abbrev EI := Sd → Gp → (List D → (Gp → Prop) → Gp → Prop) → Prop
def LI (K : PySem.W.Frag) (wi : TI) (t : EI) : Prop := ∀ (P : Addr → Prop) (s : Sd) (G : Gp) (Q : List D → (Gp → Prop) → Gp → Prop) (σ : St) (H : Hp) (R : It → Hp → Prop), t s G Q → Rl K P s G σ H →
  (∀ ds Kp G' J H', Step G H G' H' → Wo K P G' H' → Wk K P G' H' Kp J ds → Q ds Kp G' → R J H') → wi σ H R
def upI (K : PySem.W.Frag) (t : EI) : TI := fun σ H R => ∃ (P : Addr → Prop) (s : Sd) (G : Gp) (Q : List D → (Gp → Prop) → Gp → Prop), t s G Q ∧ Rl K P s G σ H ∧ ∀ ds Kp G' J H', Step G H G' H' → Wo K P G' H' → Wk K P G' H' Kp J ds → Q ds Kp G' → R J H'
inductive JI (X : Cx) (tg iter : Expr) (t : EI) : Prop where
  | mk {wi : TI} (a : PI X tg iter wi) (b : LI X.K wi t) : JI X tg iter t
theorem JI.pi {X : Cx} {tg iter : Expr} {t : EI} (h : JI X tg iter t) : PI X tg iter (upI X.K t) := by
  obtain ⟨a, b⟩ := h
  exact ⟨fun pins s σ H R I ⟨P, s', G, Q', h1, h2, h3⟩ => a.run pins s σ H R I (b P s' G Q' σ H R h1 h2 h3)⟩
theorem JI.li {X : Cx} {tg iter : Expr} {t : EI} (h : JI X tg iter t) : LI X.K (upI X.K t) t := fun P s G Q σ H R h1 h2 h3 => ⟨P, s, G, Q, h1, h2, h3⟩
/-- what must stay of what is walked -/
@[simp] def stays (x : D) (ds : List D) : Gp → Prop := match x with
  | .ref a => fun G => G a = some (.lst ds)
  | _ => fun _ => True
@[simp] def iL (t : EE) : EI := fun s G Q => t s G fun x G1 => match lkL G1 x with
  | some ds => Q ds (stays x ds) G1
  | none => False
/-- a list read now is read later -/
theorem lk_later {K : PySem.W.Frag} {P P' : Addr → Prop} {G0 G : Gp} {H0 H : Hp} {x : D} {a : Addr} {ds : List D} (r0 : Rep K H0 G0 P x (.ref a)) (e : lkL G0 x = some ds) (hP : ∀ a, (∃ ho, H0 a = some ho) → P' a → P a) (st : Step G0 H0 G H) (w : Wo K P' G H) (kp : stays x ds G) :
    ∃ xs, SqL K H a xs ∧ Reps K H G P' ds xs := by
  have r1 := r0.mono st hP
  have e1 : lkL G x = some ds := by
    cases x with
    | ref b => simp only [stays] at kp; simp only [lkL, kp]
    | _ => exact e
  obtain ⟨b, xs, eb, s, q, z⟩ := lk_sq w r1 e1
  cases eb
  exact ⟨xs, s, q⟩
section
variable {X : Cx} {K : PySem.W.Frag} {tg : Expr}
theorem wk_list {P : Addr → Prop} {G0 : Gp} {H0 : Hp} {x : D} {a : Addr} {ds : List D} (w0 : Wo K P G0 H0) (r0 : Rep K H0 G0 P x (.ref a)) (e : lkL G0 x = some ds) : Wk K P G0 H0 (stays x ds) (Itl K a) ds := by
  obtain ⟨b, xs0, eb, s0, q0, z0⟩ := lk_sq w0 r0 e
  refine ⟨z0, fun P' G H i hP st w kp => ?_⟩
  obtain ⟨xs, s, q⟩ := lk_later r0 e hP st w kp
  refine ⟨fun d hd => ?_, fun hi => ⟨xs, s, by rw [← q.length]; exact hi⟩⟩
  obtain ⟨v, e1, r1⟩ := q.get hd
  refine ⟨⟨xs, v, s, e1⟩, fun y H' hy => ?_⟩
  obtain ⟨rfl, f⟩ := hy
  have := f xs s
  rw [e1] at this
  cases this
  exact ⟨Step.refl _ _, w, r1⟩
theorem ji_list {l : Expr} {el : EE} (hl : JE X l el) : JI X tg l (iL el) := ⟨pi_list hl.pe, fun P s G Q σ H R h r k => by
  refine hl.le P s G _ σ H _ h r fun x G1 u H1 s1 w1 r1 h1 => ?_
  cases e : lkL G1 x with
  | none => rw [e] at h1; exact h1.elim
  | some ds =>
    rw [e] at h1
    obtain ⟨a, xs, rfl, s, q, z⟩ := lk_sq w1 r1 e
    exact ⟨a, rfl, ⟨xs, s⟩, k ds _ G1 _ H1 s1 w1 (wk_list w1 r1 e) h1⟩⟩
/-- range -/
def rngD (lo : Int) (n : Nat) : List D := (List.range n).map fun i => .int (lo + (i : Nat))
@[simp] def iR1 (ta : EA) : EI := fun s G Q => ta s G fun xs G1 => match xs with
  | [.int j] => j ≤ 16000000 ∧ -(2 ^ 62) ≤ j ∧ Q (rngD 0 j.toNat) (fun _ => True) G1
  | _ => False
@[simp] def iR2 (ta : EA) : EI := fun s G Q => ta s G fun xs G1 => match xs with
  | [.int i, .int j] => (-16000000 ≤ i ∧ i ≤ 16000000 ∧ -16000000 ≤ j ∧ j ≤ 16000000 ∧ j - i ≤ 16000000) ∧ Q (rngD i (j - i).toNat) (fun _ => True) G1
  | _ => False
theorem rngD_get {lo : Int} {n i : Nat} {d : D} (h : (rngD lo n)[i]? = some d) : i < n ∧ d = .int (lo + (i : Nat)) := by
  unfold rngD at h
  rw [List.getElem?_map] at h
  obtain ⟨j, e1, e2⟩ := opt_map h
  have hi : i < n := by
    rcases Nat.lt_or_ge i n with q | q
    · exact q
    · rw [List.getElem?_eq_none (by simpa using q)] at e1; cases e1
  rw [List.getElem?_range hi] at e1
  cases e1
  exact ⟨hi, e2.symm⟩
theorem rngD_length (lo : Int) (n : Nat) : (rngD lo n).length = n := by unfold rngD; simp
theorem line_ge : 16000000 ≤ sizeLine := by decide
theorem wk_range {P : Addr → Prop} {G0 : Gp} {H0 : Hp} {lo : Int} {n : Nat} (hn : n ≤ 16000000) : Wk K P G0 H0 (fun _ => True) (Itr lo n) (rngD lo n) := by
  refine ⟨by rw [rngD_length]; exact Nat.le_trans hn line_ge, fun P' G H i hP st w _ => ⟨fun d hd => ?_, fun hi => by rw [rngD_length] at hi; exact hi⟩⟩
  obtain ⟨hi, rfl⟩ := rngD_get hd
  refine ⟨hi, fun x H' hy => ?_⟩
  obtain ⟨rfl, rfl⟩ := hy
  exact ⟨Step.refl _ _, w, rep_int⟩
theorem ji_range1 {a : Expr} {ea : EA} {p pos : Pos} (hg : Gl X "range") (hm : X.mg "range" = none) (ha : JA X [a] ea) (hs : starEach [a] X.env = [(false, eval a X.env)] := by rfl) : JI X tg (.Call (.Name "range" p) [a] [] pos) (iR1 ea) :=
  ⟨pi_range1 hg hm ha.pa hs, fun P s G Q σ H R h r k => by
    refine ha.la P s G _ σ H _ h r fun xs G1 us H1 s1 w1 r1 ll h1 => ?_
    clear ll
    split at h1
    · rename_i j
      obtain ⟨u, rfl, r2⟩ := reps1 r1
      rw [rep_i r2]
      obtain ⟨h2, h3, h4⟩ := h1
      refine ⟨j, rfl, h3, by omega, k _ _ G1 _ H1 s1 w1 (wk_range (by omega)) h4⟩
    · exact h1.elim⟩
/-- enumerate(list) -/
def enumD (ds : List D) : List D := (List.range ds.length).zipWith (fun i d => .tup [.int ((i : Nat) : Int), d]) ds
@[simp] def iE (ta : EA) : EI := fun s G Q => ta s G fun xs G1 => match xs with
  | [x] => (match lkL G1 x with
    | some ds => Q (enumD ds) (stays x ds) G1
    | none => False)
  | _ => False
theorem enumD_length (ds : List D) : (enumD ds).length = ds.length := by unfold enumD; simp
theorem enumD_get {ds : List D} {i : Nat} {e : D} (h : (enumD ds)[i]? = some e) : ∃ d, ds[i]? = some d ∧ e = .tup [.int ((i : Nat) : Int), d] := by
  unfold enumD at h
  rw [List.getElem?_zipWith] at h
  cases e1 : ds[i]? with
  | none => rw [e1] at h; revert h; cases (List.range ds.length)[i]? <;> intro h <;> cases h
  | some d =>
    have hi : i < ds.length := by
      rcases Nat.lt_or_ge i ds.length with q | q
      · exact q
      · rw [List.getElem?_eq_none q] at e1; cases e1
    rw [e1, List.getElem?_range hi] at h
    exact ⟨d, rfl, (Option.some.inj h).symm⟩
theorem rep_pair {P : Addr → Prop} {G : Gp} {H : Hp} {T : Addr} {d e : D} {x y : V} (w : Wo K P G H) (hT : H T = none) (h1 : Rep K H G P d x) (h2 : Rep K H G P e y) : Step G H G (upd H T (.tup [x, y])) ∧ Wo K P G (upd H T (.tup [x, y])) ∧ Rep K (upd H T (.tup [x, y])) G P (.tup [d, e]) (.ref T) := by
  obtain ⟨f1, f2⟩ := w.fresh hT
  have st : Step G H G (upd H T (.tup [x, y])) := Step.new hT
  exact ⟨st, w.new hT, rep_tup f1 f2 upd_same (show 2 ≤ sizeLine by decide) (reps_cons (h1.step st) (reps_cons (h2.step st) reps_nil))⟩
theorem ji_enum {e : Expr} {ea : EA} {p pos tpos : Pos} {elts : List Expr} {kk : Nat} (hg : Gl X "enumerate") (hm : X.mg "enumerate" = none) (ha : JA X [e] ea) (hs : starEach [e] X.env = [(false, eval e X.env)] := by rfl) : JI X (.Tuple elts kk tpos) (.Call (.Name "enumerate" p) [e] [] pos) (iE ea) :=
  ⟨pi_enum hg hm ha.pa hs, fun P s G Q σ H R h r k => by
    refine ha.la P s G _ σ H _ h r fun xs G1 us H1 s1 w1 r1 ll h1 => ?_
    clear ll
    split at h1
    · rename_i x
      obtain ⟨u, rfl, r2⟩ := reps1 r1
      cases e : lkL G1 x with
      | none => rw [e] at h1; exact h1.elim
      | some ds =>
        rw [e] at h1
        obtain ⟨a, ys, rfl, s, q, z⟩ := lk_sq w1 r2 e
        refine ⟨a, ys, rfl, s, k _ _ G1 _ H1 s1 w1 ⟨by rw [enumD_length]; exact z, fun P' G H i hP st w kp => ?_⟩ h1⟩
        obtain ⟨zs, s', q'⟩ := lk_later r2 e hP st w kp
        refine ⟨fun d hd => ?_, fun hi => ⟨zs, s', by rw [← q'.length]; rw [enumD_length] at hi; exact hi⟩⟩
        obtain ⟨d1, e1, rfl⟩ := enumD_get hd
        obtain ⟨v, e2, r3⟩ := q'.get e1
        refine ⟨⟨zs, v, s', e2⟩, fun y H' hy => ?_⟩
        obtain ⟨T, y1, rfl, hT, rfl, f⟩ := hy
        have := f zs s'
        rw [e2] at this
        cases this
        exact rep_pair w hT rep_int r3
    · exact h1.elim⟩
/-- zip(list, list) -/
@[simp] def iZ (ta : EA) : EI := fun s G Q => ta s G fun xs G1 => match xs with
  | [x, y] => (match lkL G1 x, lkL G1 y with
    | some ds, some es => Q (ds.zipWith (fun d e => .tup [d, e]) es) (fun G => stays x ds G ∧ stays y es G) G1
    | _, _ => False)
  | _ => False
/-- a text's signs -/
def sgnD (z : Str) : List D := z.cps.toList.map fun c => .str ⟨#[c]⟩
@[simp] def iS (t : EE) : EI := fun s G Q => t s G fun x G1 => match x with
  | .str z => z.length ≤ sizeLine ∧ Q (sgnD z) (fun _ => True) G1
  | _ => False
theorem ji_str {e : Expr} {ee : EE} (he : JE X e ee) : JI X tg e (iS ee) := ⟨pi_str he.pe, fun P s G Q σ H R h r k => by
  refine he.le P s G _ σ H _ h r fun x G1 u H1 s1 w1 r1 h1 => ?_
  split at h1
  · rename_i z
    rw [rep_s r1]
    have hl : (sgnD z).length = z.cps.size := by unfold sgnD; simp
    refine ⟨z, rfl, k _ _ G1 _ H1 s1 w1 ⟨by rw [hl]; exact h1.1, fun P' G H i hP st w _ => ⟨fun d hd => ?_, fun hi => by rw [hl] at hi; exact hi⟩⟩ h1.2⟩
    unfold sgnD at hd
    rw [List.getElem?_map] at hd
    obtain ⟨c, e1, rfl⟩ := opt_map hd
    rw [Array.getElem?_toList] at e1
    have hi : i < z.cps.size := by
      rcases Nat.lt_or_ge i z.cps.size with q | q
      · exact q
      · rw [Array.getElem?_eq_none q] at e1; cases e1
    refine ⟨hi, fun x H' hy => ?_⟩
    obtain ⟨rfl, c', e2, rfl⟩ := hy
    rw [e1] at e2
    cases e2
    exact ⟨Step.refl _ _, w, rep_str⟩
  · exact h1.elim⟩
end
inductive Tg where
  | nm (i : Nat) | tp (is : List Nat)
def Tg.ix : Tg → List Nat
  | .nm i => [i]
  | .tp is => is
@[simp] def setAll : Sd → List Nat → List D → Option Sd
  | s, [], [] => some s
  | s, i :: is, d :: ds => setAll (s.set i (some d)) is ds
  | _, _, _ => none
@[simp] def asg (t : Tg) (d : D) (s : Sd) : Option Sd := match t with
  | .nm i => some (s.set i (some d))
  | .tp is => match d with
    | .tup ds => setAll s is ds
    | _ => none
def LG (K : PySem.W.Frag) (g : TG) (t : Tg) : Prop := ∀ (P : Addr → Prop) (s s' : Sd) (G : Gp) (σ : St) (H : Hp) (d : D) (v : V) (R : St → Hp → Prop), asg t d s = some s' → Rl K P s G σ H → Rep K H G P d v →
  (∀ σ', Rl K P s' G σ' H → (∀ vs, (∀ i ∈ t.ix, i ∈ vs) → wipe σ' vs = wipe σ vs) → R σ' H) → g v σ H R
def upG (K : PySem.W.Frag) (t : Tg) : TG := fun v σ H R => ∃ (P : Addr → Prop) (s s' : Sd) (G : Gp) (d : D), asg t d s = some s' ∧ Rl K P s G σ H ∧ Rep K H G P d v ∧ ∀ σ', Rl K P s' G σ' H → (∀ vs, (∀ i ∈ t.ix, i ∈ vs) → wipe σ' vs = wipe σ vs) → R σ' H
inductive JG (X : Cx) (tg : Expr) (t : Tg) : Prop where
  | mk {g : TG} (a : PG X tg g) (b : LG X.K g t) : JG X tg t
theorem JG.pg {X : Cx} {tg : Expr} {t : Tg} (h : JG X tg t) : PG X tg (upG X.K t) := by
  obtain ⟨a, b⟩ := h
  exact ⟨fun pins s σ H v u R I r ⟨P, s1, s2, G, d, h1, h2, h3, h4⟩ => a.run pins s σ H v u R I r (b P s1 s2 G σ H d v R h1 h2 h3 h4)⟩
theorem JG.lg {X : Cx} {tg : Expr} {t : Tg} (h : JG X tg t) : LG X.K (upG X.K t) t := fun P s s' G σ H d v R h1 h2 h3 h4 => ⟨P, s, s', G, d, h1, h2, h3, h4⟩
def LGs (K : PySem.W.Frag) (g : TGs) (is : List Nat) : Prop := ∀ (P : Addr → Prop) (s s' : Sd) (G : Gp) (σ : St) (H : Hp) (ds : List D) (vs : List V) (R : St → Hp → Prop), setAll s is ds = some s' → Rl K P s G σ H → Reps K H G P ds vs →
  (∀ σ', Rl K P s' G σ' H → (∀ vs, (∀ i ∈ is, i ∈ vs) → wipe σ' vs = wipe σ vs) → R σ' H) → g vs σ H R
def upGs (K : PySem.W.Frag) (is : List Nat) : TGs := fun vs σ H R => ∃ (P : Addr → Prop) (s s' : Sd) (G : Gp) (ds : List D), setAll s is ds = some s' ∧ Rl K P s G σ H ∧ Reps K H G P ds vs ∧ ∀ σ', Rl K P s' G σ' H → (∀ vs, (∀ i ∈ is, i ∈ vs) → wipe σ' vs = wipe σ vs) → R σ' H
inductive JGs (X : Cx) (tgs : List Expr) (is : List Nat) : Prop where
  | mk {g : TGs} (a : PGs X tgs g) (b : LGs X.K g is) : JGs X tgs is
theorem JGs.pg {X : Cx} {tgs : List Expr} {is : List Nat} (h : JGs X tgs is) : PGs X tgs (upGs X.K is) := by
  obtain ⟨a, b⟩ := h
  exact ⟨fun pins s σ H v u R I r ⟨P, s1, s2, G, d, h1, h2, h3, h4⟩ => a.run pins s σ H v u R I r (b P s1 s2 G σ H d v R h1 h2 h3 h4)⟩
theorem JGs.lg {X : Cx} {tgs : List Expr} {is : List Nat} (h : JGs X tgs is) : LGs X.K (upGs X.K is) is := fun P s s' G σ H d v R h1 h2 h3 h4 => ⟨P, s, s', G, d, h1, h2, h3, h4⟩
theorem wipe_get (σ : St) (j : Nat) : ∀ vs : List Nat, (wipe σ vs)[j]? = if j ∈ vs then (σ[j]?).map (fun _ => none) else σ[j]?
  | [] => by simp [wipe]
  | v :: vs => by
    rw [wipe]
    by_cases h : v = j
    · subst h
      rw [if_pos (List.mem_cons_self)]
      by_cases hl : v < σ.length
      · rw [List.getElem?_set_self (by rw [wipe_length]; exact hl), List.getElem?_eq_getElem hl]; rfl
      · rw [List.getElem?_eq_none (by rw [List.length_set, wipe_length]; omega), List.getElem?_eq_none (by omega)]; rfl
    · rw [List.getElem?_set_ne h, wipe_get σ j vs]
      have e : (j ∈ v :: vs) ↔ j ∈ vs := by simp [Ne.symm h]
      by_cases hj : j ∈ vs
      · rw [if_pos hj, if_pos (e.mpr hj)]
      · rw [if_neg hj, if_neg (fun q => hj (e.mp q))]
theorem wipe_set {σ : St} {vs : List Nat} {i : Nat} {x : Option V} (h : i ∈ vs) : wipe (σ.set i x) vs = wipe σ vs := by
  apply List.ext_getElem?
  intro j
  rw [wipe_get, wipe_get]
  by_cases e : i = j
  · subst e
    rw [if_pos h, if_pos h]
    by_cases hl : i < σ.length
    · rw [List.getElem?_set_self hl, List.getElem?_eq_getElem hl]; rfl
    · rw [List.getElem?_eq_none (by rw [List.length_set]; omega), List.getElem?_eq_none (by omega)]
  · rw [List.getElem?_set_ne e]
theorem wipe_wipe {σ : St} {vs : List Nat} : wipe (wipe σ vs) vs = wipe σ vs := by
  apply List.ext_getElem?
  intro j
  rw [wipe_get, wipe_get]
  by_cases h : j ∈ vs
  · rw [if_pos h, if_pos h]; cases σ[j]? <;> rfl
  · rw [if_neg h, if_neg h]
@[simp] def wipeD (s : Sd) : List Nat → Sd
  | [] => s
  | v :: vs => (wipeD s vs).set v none
theorem wipeD_length (s : Sd) : ∀ vs, (wipeD s vs).length = s.length
  | [] => rfl
  | v :: vs => by rw [wipeD, List.length_set, wipeD_length s vs]
theorem wipeD_some {s : Sd} {i : Nat} {d : D} : ∀ {vs : List Nat}, (wipeD s vs)[i]? = some (some d) → s[i]? = some (some d) ∧ i ∉ vs
  | [], h => ⟨h, by simp⟩
  | v :: vs, h => by
    rw [wipeD] at h
    by_cases e : v = i
    · subst e
      by_cases hl : v < (wipeD s vs).length
      · rw [List.getElem?_set_self hl] at h; cases h
      · rw [List.getElem?_eq_none (by rw [List.length_set]; omega)] at h; cases h
    · rw [List.getElem?_set_ne e] at h
      obtain ⟨h1, h2⟩ := wipeD_some h
      exact ⟨h1, by simp [Ne.symm e, h2]⟩
theorem Rl.wipe {K : PySem.W.Frag} {P : Addr → Prop} {s : Sd} {G : Gp} {σ : St} {H : Hp} (r : Rl K P s G σ H) (vs : List Nat) : Rl K P (wipeD s vs) G (wipe σ vs) H := by
  refine ⟨r.wo, by rw [wipeD_length, wipe_length]; exact r.len, fun i d e => ?_⟩
  obtain ⟨h1, h2⟩ := wipeD_some e
  obtain ⟨v, e1, e2⟩ := r.at_ i d h1
  exact ⟨v, by rw [wipe_get, if_neg h2]; exact e1, e2⟩
section
variable {X : Cx} {K : PySem.W.Frag} {pos : Pos}
theorem lg_nm {i : Nat} : LG K (gName i) (.nm i) := fun P s s' G σ H d v R e r rp k => by
  cases e
  exact k _ (r.set rp) fun vs hv => wipe_set (hv i (by simp [Tg.ix]))
theorem jg_name {i : Nat} {x : Str} (hN : X.N.Nodup) (hi : X.N[i]? = some x) (hx : Loc X.env.scope x) (hf : X.fn x = true ∨ X.env.scope.names.lookup x = some .local := by first | exact .inl rfl | exact .inr rfl | assumption) : JG X (.Name x pos) (.nm i) := ⟨pg_name hN hi hx hf, lg_nm⟩
theorem jgs_nil : JGs X [] [] := ⟨pgs_nil, fun P s s' G σ H ds vs R e r rp k => by
  cases ds with
  | nil =>
    unfold Reps at rp
    subst rp
    cases e
    exact ⟨rfl, k σ r fun _ _ => rfl⟩
  | cons d ds => cases e⟩
theorem jgs_cons {e : Expr} {es : List Expr} {i : Nat} {is : List Nat} (h1 : JG X e (.nm i)) (h2 : JGs X es is) (hs : (assignEach (e :: es) X.env).map (·.2) = assign e X.env :: (assignEach es X.env).map (·.2) := by rfl) : JGs X (e :: es) (i :: is) :=
  ⟨pgs_cons h1.pg h2.pg hs, fun P s s' G σ H ds vs R e r rp k => by
    cases ds with
    | nil => cases e
    | cons d ds =>
      unfold Reps at rp
      obtain ⟨x, xs, rfl, p1, p2⟩ := rp
      refine ⟨x, xs, rfl, ?_⟩
      exact h1.lg P s (s.set i (some d)) G σ H d x _ rfl r p1 fun σ1 r1 w1 => h2.lg P (s.set i (some d)) s' G σ1 H ds xs R e r1 p2 fun σ' r' w' => k σ' r' fun vs hv => (w' vs fun j hj => hv j (List.mem_cons_of_mem _ hj)).trans (w1 vs fun j hj => by
        have : j = i := by simpa [Tg.ix] using hj
        rw [this]; exact hv i List.mem_cons_self)⟩
theorem jg_tup {es : List Expr} {k : Nat} {is : List Nat} {n : Nat} (hc : X.calm = true) (h : JGs X es is) (hl : is.length = n := by rfl) (hn : (assignEach es X.env).length = n := by rfl) (hst : (assignEach es X.env).findIdx? (·.1) = none := by rfl) : JG X (.Tuple es k pos) (.tp is) :=
  ⟨pg_tup hc h.pg hn hst, fun P s s' G σ H d v R e r rp k => by
    cases d with
    | tup ds =>
      obtain ⟨a, xs, rfl, g, p, rr, z, q⟩ := rep_t rp
      have e' : setAll s is ds = some s' := e
      have hlen : ∀ (is : List Nat) (ds : List D) (s s' : Sd), setAll s is ds = some s' → ds.length = is.length := by
        intro is
        induction is with
        | nil => intro ds s s' e; cases ds with
          | nil => rfl
          | cons => cases e
        | cons i is ih => intro ds s s' e; cases ds with
          | nil => cases e
          | cons d ds => rw [List.length_cons, List.length_cons, ih ds _ _ e]
      refine ⟨a, xs, rfl, SqT.of rr, by rw [← q.length, hlen _ _ _ _ e', hl], ?_⟩
      exact h.lg P s s' G σ H ds xs R e' r q k
    | _ => cases e⟩
end
def compW (s0 : Sd) (t : Tg) (tt : ET) (te : EE) (Kp : Gp → Prop) : List D → List D → Gp → (List D → Gp → Prop) → Prop
  | [], acc, G, Q => Kp G ∧ Q acc G
  | d :: ds, acc, G, Q => Kp G ∧ match asg t d s0 with
    | none => False
    | some s => tt s G fun b G1 => if b = true then te s G1 fun y G2 => compW s0 t tt te Kp ds (acc ++ [y]) G2 Q else compW s0 t tt te Kp ds acc G1 Q
@[simp] def eLc (ti : EI) (t : Tg) (tt : ET) (te : EE) (vs : List Nat) : EE := fun s G Q => ti s G fun ds Kp G1 => compW (wipeD s vs) t tt te Kp ds [] G1 fun acc G2 => Q (.lst acc) G2
@[simp] def eLcO (ti : EI) (t : Tg) (tt : ET) (te : EE) (vs : List Nat) : EE := fun s G Q => ti s G fun ds Kp G1 => compW (wipeD s vs) t tt te Kp ds [] G1 fun acc G2 => ∀ p, G2 p = none → Q (.ref p) (gput G2 p (.lst acc))
@[simp] def eYes : ET := fun _ G Q => Q true G
inductive JTs (X : Cx) (ifs : List Expr) (t : ET) : Prop where
  | mk {te : TT} (a : PTs X ifs te) (b : LT X.K te t) : JTs X ifs t
theorem JTs.pt {X : Cx} {ifs : List Expr} {t : ET} (h : JTs X ifs t) : PTs X ifs (upT X.K t) := by
  obtain ⟨a, b⟩ := h
  exact ⟨fun pins s σ H Q I ⟨P, s', G, Q', h1, h2, h3⟩ => a.run pins s σ H Q I (b P s' G Q' σ H Q h1 h2 h3)⟩
theorem JTs.lt {X : Cx} {ifs : List Expr} {t : ET} (h : JTs X ifs t) : LT X.K (upT X.K t) t := fun P s G Q σ H R h1 h2 h3 => ⟨P, s, G, Q, h1, h2, h3⟩
theorem jts_nil {X : Cx} : JTs X [] eYes := ⟨pts_nil, fun P s G Q σ H R h r k => k true G H (Step.refl _ _) r.wo h⟩
theorem jts_one {X : Cx} {c : Expr} {t : ET} (h : JT X c t) : JTs X [c] t := ⟨pts_one h.pt, h.lt⟩
theorem Rl.addP {K : PySem.W.Frag} {P : Addr → Prop} {s : Sd} {G : Gp} {σ : St} {H : Hp} {p : Addr} {o : HO} (r : Rl K P s G σ H) (h : H p = none) (nt : ∀ ys, o ≠ .tup ys := by intro _ h; cases h) : Rl K (prvAdd P p) s G σ (upd H p o) := by
  refine ⟨r.wo.add h nt, r.len, fun i d e => ?_⟩
  obtain ⟨v, e1, e2⟩ := r.at_ i d e
  refine ⟨v, e1, e2.mono (Step.new h) fun b hb q => ?_⟩
  rcases q with q | q
  · exact q
  · subst q; obtain ⟨x, e⟩ := hb; rw [h] at e; cases e
/-- the loop of a comprehension -/
theorem lc_loop {K : PySem.W.Frag} {P : Addr → Prop} {s : Sd} {σ : St} {g : TG} {tt : TT} {te : TE} {t : Tg} {et : ET} {ee : EE} {vs : List Nat} {Kp : Gp → Prop} {J : It} {ds : List D} {G1 : Gp} {H1 : Hp} {Dl : Addr} {Q : List D → Gp → Prop} {R : Hp → Prop}
    (hg : LG K g t) (ht : LT K tt et) (he : LE K te ee) (hv : ∀ i ∈ t.ix, i ∈ vs) (wk : Wk K P G1 H1 Kp J ds) (r : Rl K P s G1 σ H1) (hD : H1 Dl = none) (h : compW (wipeD s vs) t et ee Kp ds [] G1 Q)
    (k : ∀ acc xs G H, Step G1 H1 G H → Wo K (prvAdd P Dl) G H → H Dl = some (.lst xs) → Reps K H G (prvAdd P Dl) acc xs → acc.length ≤ sizeLine → Q acc G → R H) :
    ∃ W : Nat → Nat → Hp → Prop, (∃ m, W 0 m (upd H1 Dl (.lst []))) ∧ ∀ i m H, W i m H → (J.stop i H ∧ R H) ∨ (J.go i H ∧ ∃ Nx : Hp → Prop, (∀ H', Nx H' → ∃ m', m' < m ∧ W (i + 1) m' H') ∧ ∀ x H', J.yld i H x H' → g x (wipe σ vs) H' fun σ2 H2 => wipe σ2 vs = wipe σ vs ∧ tt σ2 H2 fun b H3 =>
      if b = true then te σ2 H3 fun y H4 => ∃ acc, H4 Dl = some (.lst acc) ∧ acc.length < sizeLine ∧ Nx (upd H4 Dl (.lst (acc ++ [y]))) else Nx H3) := by
  obtain ⟨hz, wk⟩ := wk
  have hPP : ∀ a, (∃ ho, H1 a = some ho) → prvAdd P Dl a → P a := fun a ha q => by
    rcases q with q | q
    · exact q
    · subst q; obtain ⟨x, e⟩ := ha; rw [hD] at e; cases e
  let Pp := prvAdd P Dl
  let W : Nat → Nat → Hp → Prop := fun i m H => ∃ G acc xs, Step G1 H1 G H ∧ Wo K Pp G H ∧ H Dl = some (.lst xs) ∧ Reps K H G Pp acc xs ∧ acc.length ≤ i ∧ i ≤ ds.length ∧ m = ds.length - i ∧ compW (wipeD s vs) t et ee Kp (ds.drop i) acc G Q
  have r1 : Rl K Pp s G1 σ (upd H1 Dl (.lst [])) := r.addP hD
  refine ⟨W, ⟨ds.length, G1, [], [], Step.new hD, r1.wo, upd_same, reps_nil, Nat.le_refl _, Nat.zero_le _, rfl, h⟩, fun i m H hW => ?_⟩
  obtain ⟨G, acc, xs, st, w, eD, q, z, hi, rfl, hc⟩ := hW
  have rr : Rl K Pp s G σ H := by
    refine ⟨w, r.len, fun i d e => ?_⟩
    obtain ⟨v, e1, e2⟩ := r.at_ i d e
    exact ⟨v, e1, e2.mono st hPP⟩
  by_cases hlt : i < ds.length
  · have hd : ds[i]? = some ds[i] := List.getElem?_eq_getElem hlt
    have edrop : ds.drop i = ds[i] :: ds.drop (i + 1) := List.drop_eq_getElem_cons hlt
    rw [edrop, compW] at hc
    obtain ⟨kp, hc⟩ := hc
    obtain ⟨go, yl⟩ := (wk Pp G H i hPP st w kp).1 _ hd
    refine .inr ⟨go, fun H' => ∃ G acc xs, Step G1 H1 G H' ∧ Wo K Pp G H' ∧ H' Dl = some (.lst xs) ∧ Reps K H' G Pp acc xs ∧ acc.length ≤ i + 1 ∧ compW (wipeD s vs) t et ee Kp (ds.drop (i + 1)) acc G Q, fun H' hN => ?_, fun x H' hy => ?_⟩
    · obtain ⟨G, acc, xs, a1, a2, a3, a4, a5, a6⟩ := hN
      exact ⟨ds.length - (i + 1), by omega, G, acc, xs, a1, a2, a3, a4, a5, hlt, rfl, a6⟩
    · obtain ⟨s1, w1, rx⟩ := yl x H' hy
      cases ea : asg t ds[i] (wipeD s vs) with
      | none => rw [ea] at hc; exact hc.elim
      | some s' =>
        rw [ea] at hc
        refine hg Pp (wipeD s vs) s' G (wipe σ vs) H' _ x _ ea ((rr.step s1 w1).wipe vs) rx fun σ2 r2 hw => ⟨(hw vs hv).trans wipe_wipe, ?_⟩
        have gD : G Dl = none := (w.prv Dl (.inr rfl)).1
        have eD1 := s1.keep Dl _ eD gD
        refine ht Pp s' G _ σ2 H' _ hc r2 fun b G2 H3 s2 w2 h2 => ?_
        have eD2 := s2.keep Dl _ eD1.1 eD1.2
        cases b with
        | false =>
          exact ⟨G2, acc, xs, (st.trans s1).trans s2, w2, eD2.1, (q.step s1).step s2, Nat.le_succ_of_le z, h2⟩
        | true =>
          refine he Pp s' G2 _ σ2 H3 _ h2 (r2.step s2 w2) fun y G3 v H4 s3 w3 r3 h3 => ?_
          have eD3 := s3.keep Dl _ eD2.1 eD2.2
          have q3 := ((q.step s1).step s2).step s3
          have hf : ∀ o' ys, H4 Dl ≠ some (.frz o' ys) := fun o' ys e => by rw [eD3.1] at e; cases e
          refine ⟨xs, eD3.1, by rw [← q3.length]; omega, G3, acc ++ [y], xs ++ [v], (((st.trans s1).trans s2).trans s3).out hD, w3.prvUpd (.inr rfl) hf, upd_same, ?_, by rw [List.length_append]; simp; omega, h3⟩
          exact (q3.append (reps_cons r3 reps_nil)).prv (.inr rfl) hf
  · have hi2 : ds.length ≤ i := by omega
    have edrop : ds.drop i = [] := List.drop_eq_nil_of_le hi2
    rw [edrop, compW] at hc
    exact .inl ⟨(wk Pp G H i hPP st w hc.1).2 hi2, k acc xs G H st w eD q (by omega) hc.2⟩
section
variable {X : Cx} {elt tg iter : Expr} {ifs : List Expr} {scope : Scope} {own : List (Str × Nat)} {pos : Pos} {wi : TI} {ei : EI} {g : TG} {t : Tg} {tt : TT} {et : ET} {te : TE} {ee : EE}
theorem le_lc {K : PySem.W.Frag} {vs : List Nat} (hi : LI K wi ei) (hg : LG K g t) (ht : LT K tt et) (he : LE K te ee) (hv : ∀ i ∈ t.ix, i ∈ vs) : LE K (tLc wi g tt te vs) (eLc ei t et ee vs) := fun P s G Q σ H R h r k => by
  refine hi P s G _ σ H _ h r fun ds Kp G1 J H1 s1 w1 wk h1 => ?_
  intro Dl hD
  refine lc_loop hg ht he hv wk (r.step s1 w1) hD h1 fun acc xs G2 H2 st w2 eD q z hQ => ?_
  exact k _ G2 _ H2 (s1.trans st) w2.sub (rep_lst (w2.prv Dl (.inr rfl)).1 (fun p => (w1.fresh hD).2 p) eD z q.sub) hQ
theorem le_lcO {K : PySem.W.Frag} {vs : List Nat} (hi : LI K wi ei) (hg : LG K g t) (ht : LT K tt et) (he : LE K te ee) (hv : ∀ i ∈ t.ix, i ∈ vs) : LE K (tLc wi g tt te vs) (eLcO ei t et ee vs) := fun P s G Q σ H R h r k => by
  refine hi P s G _ σ H _ h r fun ds Kp G1 J H1 s1 w1 wk h1 => ?_
  intro Dl hD
  refine lc_loop hg ht he hv wk (r.step s1 w1) hD h1 fun acc xs G2 H2 st w2 eD q z hQ => ?_
  have gD : G2 Dl = none := (w2.prv Dl (.inr rfl)).1
  have hf : ∀ o' ys, H2 Dl ≠ some (.frz o' ys) := fun o' ys e => by rw [eD] at e; cases e
  have step1 : Step G1 H1 (gput G2 Dl (.lst acc)) H2 := by
    refine ⟨fun a o e g1 => ?_, fun a o e => ?_⟩
    · have ne : a ≠ Dl := ne_of_none e hD
      exact ⟨(st.keep a o e g1).1, by rw [gput_ne ne]; exact (st.keep a o e g1).2⟩
    · by_cases ne : a = Dl
      · subst ne; exact ⟨_, gput_same⟩
      · obtain ⟨o', e'⟩ := st.own a o e
        exact ⟨o', by rw [gput_ne ne]; exact e'⟩
  refine k _ _ _ H2 (s1.trans step1) (w2.toOwn (w1.fresh hD).2 eD ⟨xs, rfl, z, q.toOwn hf⟩ hf) ?_ (hQ Dl gD)
  unfold Rep
  exact ⟨rfl, _, gput_same⟩
theorem j_lc (hc : X.calm = true) (hN : X.N.Nodup) (hi : JI X tg iter ei) (ok : BlkOk X.N X.env.scope scope own) (hg : ∀ (s : Shared) (H : Hp) (C : Addr) (cl : List (Str × Addr)) (fp : List Addr), JG (X.blk s H scope (compEnvC scope cl C X.env) fp) tg t)
    (ht : ∀ (s : Shared) (H : Hp) (C : Addr) (cl : List (Str × Addr)) (fp : List Addr), JTs (X.blk s H scope (compEnvC scope cl C X.env) fp) ifs et) (he : ∀ (s : Shared) (H : Hp) (C : Addr) (cl : List (Str × Addr)) (fp : List Addr), JE (X.blk s H scope (compEnvC scope cl C X.env) fp) elt ee)
    (hv : ∀ i ∈ t.ix, i ∈ own.map (·.2) := by decide) (hs : ∀ x, foldedSetIterable iter X.env x = pure x := by intro _; rfl) : JE X (.ListComp elt [⟨tg, iter, ifs, 0⟩] scope pos) (eLc ei t et ee (own.map (·.2))) :=
  ⟨pe_lc hc hN hi.pi ok (fun s H C cl fp => (hg s H C cl fp).pg) (fun s H C cl fp => (ht s H C cl fp).pt) (fun s H C cl fp => (he s H C cl fp).pe) hs, le_lc hi.li (hg X.s_0 X.H_0 0 [] []).lg (ht X.s_0 X.H_0 0 [] []).lt (he X.s_0 X.H_0 0 [] []).le hv⟩
end
end DL
set_option Elab.async false
set_option linter.all false
set_option maxRecDepth 100000
set_option maxHeartbeats 4000000
namespace DL
open PySem L2
@[simp] def sNext : ES := fun N s G => N.nx s G
def sSeq (t u : ES) : ES := fun N s G => t { N with nx := u N } s G
@[simp] def sBreak : ES := fun N s G => N.bk s G
@[simp] def sCont : ES := fun N s G => N.ct s G
@[simp] def sDrop (te : EE) : ES := fun N s G => te s G fun _ G1 => N.nx s G1
@[simp] def sRet (te : EE) : ES := fun N s G => te s G N.rt
@[simp] def sRetN : ES := fun N _ G => N.rt .non G
@[simp] def sIf (c : ET) (t u : ES) : ES := fun N s G => c s G fun b G1 => if b = true then t N s G1 else u N s G1
@[simp] def sNever : ES := fun _ _ _ => False
@[simp] def sAsg (te : EE) (t : Tg) : ES := fun N s G => te s G fun d G1 => match asg t d s with
  | some s' => N.nx s' G1
  | none => False
/-- one statement, then the rest: what follows is a letter -/
theorem seq_gen {t u : ES} {N : En} {s : Sd} {G : Gp} (h : ∀ W : Sd → Gp → Prop, (∀ s' G', u N s' G' → W s' G') → t { N with nx := W } s G) : sSeq t u N s G := h (u N) fun _ _ x => x
section
variable {X : Cx} {Y : Wx} {K : PySem.W.Frag} {st : Stmt} {rest : List Stmt} {t u : TS} {et eu : ES} {e : Expr} {te : TE} {ee : EE} {pos : Pos}
theorem ls_next : LS K Y tNext sNext := fun P s G N σ H M h r k => k.nx s G σ H (Step.refl _ _) r h
theorem ls_seq (h1 : LS K Y t et) (h2 : LS K Y u eu) : LS K Y (tSeq t u) (sSeq et eu) := fun P s G N σ H M h r k =>
  h1 P s G _ σ H _ h r ⟨fun s' G' σ' H' st r' h' => h2 P s' G' N σ' H' M h' r' (k.step st), k.rt, k.bk, k.ct, k.xr⟩
theorem jss_nil : JSs X Y [] sNext := ⟨pss_nil, ls_next⟩
theorem jss_cons (h1 : JS X Y st et) (h2 : JSs X Y rest eu) : JSs X Y (st :: rest) (sSeq et eu) := ⟨pss_cons h1.ps h2.ps, ls_seq h1.ls h2.ls⟩
theorem jss_one (h1 : JS X Y st et) : JSs X Y [st] et := ⟨pss_one h1.ps, h1.ls⟩
theorem js_expr (he : JE X e ee) (hs : swapsWith e none pos.line X.env = pure false := by rfl) : JS X Y (.Expr e pos) (sDrop ee) := ⟨ps_expr he.pe hs, fun P s G N σ H M h r k => he.le P s G _ σ H _ h r fun d G' v H' st w rp q => k.nx s G' σ H' st (r.step st w) q⟩
theorem js_ret (he : JE X e ee) : JS X Y (.Return (some e) pos) (sRet ee) := ⟨ps_ret he.pe, fun P s G N σ H M h r k => he.le P s G _ σ H _ h r fun d G' v H' st w rp q => k.rt d G' v H' st w rp q⟩
theorem js_if {c : Expr} {a b : List Stmt} {ec : ET} (hc : JT X c ec) (ha : JSs X Y a et) (hb : JSs X Y b eu) : JS X Y (.If c a b pos) (sIf ec et eu) := ⟨ps_if hc.pt ha.ps hb.ps, fun P s G N σ H M h r k => by
  refine hc.lt P s G _ σ H _ h r fun b G' H' st w q => ?_
  cases b with
  | true => exact ha.ls P s G' N σ H' M q (r.step st w) (k.step st)
  | false => exact hb.ls P s G' N σ H' M q (r.step st w) (k.step st)⟩
theorem ls_asg {g : TG} {tg : Tg} (he : LE K te ee) (hg : LG K g tg) : LS K Y (tAsg te g) (sAsg ee tg) := fun P s G N σ H M h r k => by
  refine he P s G _ σ H _ h r fun d G' v H' st w rp q => ?_
  cases ea : asg tg d s with
  | none => rw [ea] at q; exact q.elim
  | some s' =>
    rw [ea] at q
    exact hg P s s' G' σ H' d v _ ea (r.step st w) rp fun σ' r' _ => k.nx s' G' σ' H' st r' q
theorem js_set {i : Nat} {x : Str} {pos' : Pos} (hN : X.N.Nodup) (hi : X.N[i]? = some x) (hx : Loc X.env.scope x) (he : JE X e ee) (hs : swapsWith e (some (.Name x pos')) pos.line X.env = pure false := by rfl)
    (hf : X.fn x = true ∨ X.env.scope.names.lookup x = some .local := by first | exact .inl rfl | exact .inr rfl | assumption) : JS X Y (.Assign [.Name x pos'] e pos) (sAsg ee (.nm i)) := ⟨ps_set hN hi hx he.pe hs hf, ls_asg he.le lg_nm⟩
theorem js_setLcO {i : Nat} {y : Str} {py : Pos} {elt tg iter : Expr} {ifs : List Expr} {scope : Scope} {own : List (Str × Nat)} {pos spos : Pos} {ei : EI} {t : Tg} {et : ET} {ee : EE} (hc : X.calm = true) (hN : X.N.Nodup) (hy : X.N[i]? = some y) (hyl : X.env.scope.names.lookup y = some .local)
    (hsw : swapsWith (.ListComp elt [⟨tg, iter, ifs, 0⟩] scope pos) (some (.Name y py)) spos.line X.env = pure true) (hi : JI X tg iter ei) (ok : BlkOk X.N X.env.scope scope own)
    (hg : ∀ (s : Shared) (H : Hp) (C : Addr) (cl : List (Str × Addr)) (fp : List Addr), JG (X.blk s H scope (compEnvC scope cl C X.env) fp) tg t) (ht : ∀ (s : Shared) (H : Hp) (C : Addr) (cl : List (Str × Addr)) (fp : List Addr), JTs (X.blk s H scope (compEnvC scope cl C X.env) fp) ifs et)
    (he : ∀ (s : Shared) (H : Hp) (C : Addr) (cl : List (Str × Addr)) (fp : List Addr), JE (X.blk s H scope (compEnvC scope cl C X.env) fp) elt ee) (hv : ∀ i ∈ t.ix, i ∈ own.map (·.2) := by decide) (hs : ∀ x, foldedSetIterable iter X.env x = pure x := by intro _; rfl) :
    JS X Y (.Assign [.Name y py] (.ListComp elt [⟨tg, iter, ifs, 0⟩] scope pos) spos) (sAsg (eLcO ei t et ee (own.map (·.2))) (.nm i)) :=
  ⟨ps_setLc hc hN hy hyl hsw hi.pi ok (fun s H C cl fp => (hg s H C cl fp).pg) (fun s H C cl fp => (ht s H C cl fp).pt) (fun s H C cl fp => (he s H C cl fp).pe) hs, ls_asg (le_lcO hi.li (hg X.s_0 X.H_0 0 [] []).lg (ht X.s_0 X.H_0 0 [] []).lt (he X.s_0 X.H_0 0 [] []).le hv) lg_nm⟩
/-- a, b = e -/
theorem js_asgT {tg : Expr} {t : Tg} (he : JE X e ee) (hg : JG X tg t) (hp : PS X (.Assign [tg] e pos) (tAsg (upE X.K ee) (upG X.K t))) : JS X Y (.Assign [tg] e pos) (sAsg ee t) := ⟨hp, ls_asg he.le hg.lg⟩
/-- name += e, name -= e -/
@[simp] def sAug (i : Nat) (te : EE) (f : Int → Int → Int) : ES := fun N s G => match s[i]? with
  | some (some (.int a)) => te s G fun y G1 => (match y with
    | .int b => N.nx (s.set i (some (.int (f a b)))) G1
    | _ => False)
  | _ => False
def forW (t : Tg) (tb : ES) (Kp : Gp → Prop) (N : En) : List D → Sd → Gp → Prop
  | [], s, G => Kp G ∧ N.nx s G
  | d :: ds, s, G => Kp G ∧ match asg t d s with
    | some s' => tb { N with nx := forW t tb Kp N ds, ct := forW t tb Kp N ds, bk := N.nx } s' G
    | none => False
@[simp] def sFor (ti : EI) (t : Tg) (tb : ES) : ES := fun N s G => ti s G fun ds Kp G1 => forW t tb Kp N ds s G1
theorem ls_for {wi : TI} {ei : EI} {g : TG} {tg : Tg} {tb : TS} {eb : ES} (hi : LI K wi ei) (hg : LG K g tg) (hb : LS K Y tb eb) : LS K Y (tFor wi g tb) (sFor ei tg eb) := fun P s G N σ H M h r k => by
  refine hi P s G _ σ H _ h r fun ds Kp G1 J H1 s1 w1 wk h1 => ?_
  obtain ⟨hz, wk⟩ := wk
  refine ⟨fun i m σ H => ∃ s G, Step G1 H1 G H ∧ Rl K P s G σ H ∧ i ≤ ds.length ∧ m = ds.length - i ∧ forW tg eb Kp N (ds.drop i) s G, ⟨_, s, G1, Step.refl _ _, r.step s1 w1, Nat.zero_le _, rfl, h1⟩, fun i m σ H hW => ?_⟩
  obtain ⟨s, G, st, rl, hi, rfl, hc⟩ := hW
  by_cases hlt : i < ds.length
  · have hd : ds[i]? = some ds[i] := List.getElem?_eq_getElem hlt
    rw [List.drop_eq_getElem_cons hlt, forW] at hc
    obtain ⟨kp, hc⟩ := hc
    obtain ⟨go, yl⟩ := (wk P G H i (fun _ _ q => q) st rl.wo kp).1 _ hd
    refine .inr ⟨go, fun σ' H' => ∃ s G, Step G1 H1 G H' ∧ Rl K P s G σ' H' ∧ forW tg eb Kp N (ds.drop (i + 1)) s G, fun σ' H' hN => ?_, fun x H' hy => ?_⟩
    · obtain ⟨s, G, a1, a2, a3⟩ := hN
      exact ⟨ds.length - (i + 1), by omega, s, G, a1, a2, hlt, rfl, a3⟩
    · obtain ⟨s2, w2, rx⟩ := yl x H' hy
      cases ea : asg tg ds[i] s with
      | none => rw [ea] at hc; exact hc.elim
      | some s' =>
        rw [ea] at hc
        refine hg P s s' G σ H' _ x _ ea (rl.step s2 w2) rx fun σ2 r2 _ => ?_
        have sA := st.trans s2
        exact hb P s' G _ σ2 H' _ hc r2 ⟨fun a b c d x y z => ⟨a, b, sA.trans x, y, z⟩, fun a b c d x y z w => k.rt a b c d ((s1.trans sA).trans x) y z w, fun a b c d x y z => k.nx a b c d ((s1.trans sA).trans x) y z, fun a b c d x y z => ⟨a, b, sA.trans x, y, z⟩, (k.step (s1.trans sA)).xr⟩
  · have hi2 : ds.length ≤ i := by omega
    rw [List.drop_eq_nil_of_le hi2, forW] at hc
    exact .inl ⟨(wk P G H i (fun _ _ q => q) st rl.wo hc.1).2 hi2, k.nx s G σ H (s1.trans st) rl hc.2⟩
theorem js_for {tg iter : Expr} {body : List Stmt} {ei : EI} {t : Tg} {eb : ES} (hp : PassesOwn (model X.prog X.w) X.A X.env X.xe) (hc : X.calm = true) (hi : JI X tg iter ei) (hg : JG X tg t) (hb : JSs X Y body eb) (hs : ∀ x, foldedSetIterable iter X.env x = pure x := by intro _; rfl) :
    JS X Y (.For tg iter body [] pos) (sFor ei t eb) := ⟨ps_for hp hc hi.pi hg.pg hb.ps hs, ls_for hi.li hg.lg hb.ls⟩
/-- o[i] = e, o an owned list -/
@[simp] def sSetIx (te to ti : EE) : ES := fun N s G => te s G fun v G1 => to s G1 fun o G2 => ti s G2 fun i G3 => match o, i with
  | .ref p, .int k => (match G3 p with
    | some (.lst ds) => (match ixN ds.length k with
      | some j => N.nx s (gput G3 p (.lst (ds.set j v)))
      | none => False)
    | _ => False)
  | _, _ => False
theorem js_setIx {o i : Expr} {eo ei : EE} {p' : Pos} (he : JE X e ee) (ho : JE X o eo) (hi : JE X i ei) (hp : PS X (.Assign [.Subscript o i p'] e pos) (tAsg (upE X.K ee) (gSub (upE X.K eo) (upE X.K ei) rSetL))) : JS X Y (.Assign [.Subscript o i p'] e pos) (sSetIx ee eo ei) :=
  ⟨hp, fun P s G N σ H M h r k => by
    refine he.le P s G _ σ H _ h r fun v G1 u H1 s1 w1 r1 h1 => ?_
    refine ho.le P s G1 _ σ H1 _ h1 (r.step s1 w1) fun od G2 ov H2 s2 w2 r2 h2 => ?_
    refine hi.le P s G2 _ σ H2 _ h2 (r.step (s1.trans s2) w2) fun id G3 iv H3 s3 w3 r3 h3 => ?_
    split at h3
    · rename_i p kk
      split at h3
      · rename_i ds e1
        split at h3
        · rename_i j e2
          have r2' := r2.step s3
          unfold Rep at r2'
          obtain ⟨rfl, _⟩ := r2'
          rw [rep_i r3]
          obtain ⟨ho', e3, xs, rfl, z, q⟩ := w3.own p _ e1
          refine ⟨p, xs, kk, j, rfl, rfl, e3, by rw [← q.length]; exact e2, ?_⟩
          have st : Step G3 H3 (gput G3 p (.lst (ds.set j v))) (upd H3 p (.lst (xs.set j u))) := Step.chg e1
          have sA := (((s1.trans s2).trans s3).trans st)
          have rv := (r1.step s2).step s3
          exact k.nx s _ σ _ sA (r.step sA (w3.chg e1 ⟨_, rfl, by rw [List.length_set]; exact z, (q.set rv j).step st⟩)) h3
        · exact h3.elim
      · exact h3.elim
    · exact h3.elim⟩
/-- methods of built-in types on owned lists, by values -/
abbrev MD := D → List D → Gp → DK → Prop
def LM (K : PySem.W.Frag) (r : V → List V → Hp → VK → Prop) (c : MD) : Prop := ∀ (P : Addr → Prop) (G : Gp) (H : Hp) (x : D) (u : V) (xs : List D) (us : List V) (Q : DK) (R : VK), c x xs G Q → Wo K P G H → Rep K H G P x u → Reps K H G P xs us →
  (∀ d G' w H', Step G H G' H' → Wo K P G' H' → Rep K H' G' P d w → Q d G' → R w H') → r u us H R
@[simp] def isLst (G : Gp) : D → Prop
  | .lst _ => True
  | .ref a => ∃ ds, G a = some (.lst ds)
  | _ => False
/-- o.m(..), o a list -/
@[simp] def eBm (c : MD) (to : EE) (t : EA) : EE := fun s G Q => to s G fun x G1 => isLst G1 x ∧ t s G1 fun xs G2 => c x xs G2 Q
theorem ty_lst {P : Addr → Prop} {G : Gp} {H : Hp} (w : Wo K P G H) {x : D} {u : V} (r : Rep K H G P x u) (h : isLst G x) : tyV K "list" u H := by
  cases x with
  | lst ds => obtain ⟨a, xs, rfl, g, p, rr, z, q⟩ := rep_l r; exact .inl ⟨rfl, xs, SqL.of rr⟩
  | ref a =>
    obtain ⟨ds, e⟩ := h
    unfold Rep at r
    obtain ⟨rfl, _⟩ := r
    obtain ⟨ho, e1, xs, rfl, z, q⟩ := w.own a _ e
    exact .inl ⟨rfl, xs, SqL.of e1⟩
  | _ => exact h.elim
theorem le_bm {n : Nat} {r : V → List V → Hp → VK → Prop} {c : MD} {to : TE} {eo : EE} {t : TA} {ea : EA} (hm : LM K r c) (ho : LE K to eo) (ha : LA K n t ea) : LE K (tBM K "list" r to t) (eBm c eo ea) := fun P s G Q σ H R h rl k => by
  refine ho P s G _ σ H _ h rl fun x G1 u H1 s1 w1 r1 h1 => ?_
  refine ⟨ty_lst w1 r1 h1.1, ?_⟩
  refine ha P s G1 _ σ H1 _ h1.2 (rl.step s1 w1) fun xs G2 us H2 s2 w2 r2 _ h2 => ?_
  exact hm P G2 H2 x u xs us Q R h2 w2 (r1.step s2) r2 fun d G' w H' st w' r' q' => k d G' w H' ((s1.trans s2).trans st) w' r' q'
@[simp] def mApp : MD := fun x xs G Q => match x, xs with
  | .ref p, [y] => (match G p with
    | some (.lst ds) => ds.length < sizeLine ∧ Q .non (gput G p (.lst (ds ++ [y])))
    | _ => False)
  | _, _ => False
theorem lm_app : LM K rAppend mApp := fun P G H x u xs us Q R h w rx rs k => by
  unfold mApp at h
  split at h
  · rename_i p y
    split at h
    · rename_i ds e
      unfold Rep at rx
      obtain ⟨rfl, _⟩ := rx
      obtain ⟨v, rfl, ry⟩ := reps1 rs
      obtain ⟨ho, e1, ys, rfl, z, q⟩ := w.own p _ e
      refine ⟨p, ys, v, rfl, rfl, e1, by rw [← q.length]; exact h.1, ?_⟩
      have st : Step G H (gput G p (.lst (ds ++ [y]))) (upd H p (.lst (ys ++ [v]))) := Step.chg e
      exact k _ _ _ _ st (w.chg e ⟨_, rfl, by rw [List.length_append]; exact h.1, (q.append (reps_cons ry reps_nil)).step st⟩) rep_non h.2
    · exact h.elim
  · exact h.elim
/-- xs.extend(ys) -/
@[simp] def mExt : MD := fun x xs G Q => match x, xs with
  | .ref p, [y] => (match G p, lkL G y with
    | some (.lst ds), some es => (∀ ns, y ≠ .scr ns) ∧ ds.length + es.length ≤ sizeLine ∧ Q .non (gput G p (.lst (ds ++ es)))
    | _, _ => False)
  | _, _ => False
section
variable {o : Expr} {es : List Expr} {to : TE} {eo : EE} {t : TA} {ea : EA} {name : Str} {apos cpos : Pos} {id : String} {r : V → List V → Hp → VK → Prop} {c : MD}
theorem j_bm (pa : PlainAttrs "list") (slot : Slot "list" name id) (hty : typeOf (.builtin id) = pure (.type "method_descriptor")) (hm : MtR X id r) (lm : LM X.K r c) (ho : JE X o eo) (ha : JA X (e :: es) ea) (hbase : attributeBase o name X.env (eval o X.env) = eval o X.env := by rfl)
    (hfew : ((backTo cpos (starEach (e :: es) X.env)).all (fun x => !x.1) && (backToKw cpos (keywordEach [] X.env)).all (fun x => x.1.isSome) && decide ((e :: es).length + ([] : List Keyword).length + (if ([] : List Keyword).isEmpty then 0 else 1) < 30)) = true := by rfl) (hline : (apos.endLine == cpos.line) = true := by rfl)
    (hs : starEach (e :: es) X.env = (false, eval e X.env) :: starEach es X.env := by rfl) (hplain : (backTo cpos (starEach es X.env)).any (·.1) = false := by rfl) : JE X (.Call (.Attribute o name apos) (e :: es) [] cpos) (eBm c eo ea) :=
  ⟨pe_bm pa slot hty hm ho.pe ha.pa hbase hfew hline hs hplain, le_bm lm ho.le ha.la⟩
end
end
end DL
set_option Elab.async false
set_option linter.all false
set_option maxRecDepth 100000
set_option maxHeartbeats 4000000
namespace DL
open PySem PySem.Spec PyProof.Rows L2
abbrev Sf := List D → Gp → DK → Prop
/-- a promise over data, over the heap -/
def Lf (K : PySem.W.Frag) (n : Nat) (f : Sf) : Sp := fun vs H R _ => vs.length = n ∧ ∃ (P : Addr → Prop) (ds : List D) (G : Gp) (Q : DK), Wo K P G H ∧ Reps K H G P ds vs ∧ f ds G Q ∧ ∀ d G' v H', Step G H G' H' → Wo K P G' H' → Rep K H' G' P d v → Q d G' → R v H'
@[simp] def eCall (f : Sf) (t : EA) : EE := fun s G Q => t s G fun ds G1 => f ds G1 Q
section
variable {X : Cx} {K : PySem.W.Frag}
theorem le_call {n : Nat} {f : Sf} {E : XK} {t : TA} {ea : EA} (ha : LA K n t ea) : LE K (tCall (Lf K n f) [] E t) (eCall f ea) := fun P s G Q σ H R h r k => by
  refine ha P s G _ σ H _ h r fun ds G1 vs H1 s1 w1 r1 l1 h1 => ?_
  rw [List.append_nil]
  exact ⟨by rw [← r1.length, l1], P, ds, G1, Q, w1, r1, h1, fun d G' v H' st w rp q => k d G' v H' (s1.trans st) w rp q⟩
abbrev FK (P : Program) (w : World) (K : PySem.W.Frag) (mg : Str → Option Value) (base : Heap) (k : Nat) (f : Addr) (fd : FuncData) (ps : List Str) (F : Sf) : Prop := FnOk P w K mg base CX0 k f fd ps (Lf K ps.length F)
theorem j_call {k : Nat} {f : Addr} {fd : FuncData} {ps : List Str} {F : Sf} {x : Str} {p pos : Pos} {e : Expr} {es : List Expr} {ea : EA} (FF : FK X.prog X.w X.K X.mg X.base k f fd ps F) (hr : Room k X.A) (hg : Gl X x) (hm : X.mg x = some (.ref f)) (hk : PySem.W.keepIn X.K (.ref f) = true) (hb : Binds X.K fd ps [])
    (ha : JA X (e :: es) ea) (hlen : (e :: es).length = ps.length := by rfl) (hdb : (x == ("__debug__" : Str)) = false := by decide) (he : starEach (e :: es) X.env = (false, eval e X.env) :: starEach es X.env := by rfl) (hpl : (backTo pos (starEach es X.env)).any (·.1) = false := by rfl) : JE X (.Call (.Name x p) (e :: es) [] pos) (eCall F ea) :=
  ⟨pe_call FF hr hg hm hk hb .nil pass0 ha.pa hdb he hpl, le_call (t := upA X.K (e :: es).length ea) (hlen ▸ ha.la)⟩
mutual
def RefIn (G : Gp) : D → Prop
  | .ref a => ∃ o, G a = some o
  | .lst ds => RefIns G ds
  | .tup ds => RefIns G ds
  | .dct _ ds => RefIns G ds
  | .exc _ _ _ e => RefIn G e
  | _ => True
def RefIns (G : Gp) : List D → Prop
  | [] => True
  | d :: ds => RefIn G d ∧ RefIns G ds
end
mutual
theorem ref_of {P : Addr → Prop} {G : Gp} {H : Hp} : ∀ {d : D} {v : V}, Rep K H G P d v → RefIn G d
  | .non, _, _ => by simp only [RefIn]
  | .bl _, _, _ => by simp only [RefIn]
  | .int _, _, _ => by simp only [RefIn]
  | .str _, _, _ => by simp only [RefIn]
  | .ty _, _, _ => by simp only [RefIn]
  | .cl _, _, _ => by simp only [RefIn]
  | .exc a dd f e, _, h => by unfold Rep at h; obtain ⟨_, _, _, u, _, q⟩ := h; simp only [RefIn]; exact ref_of q
  | .scr _, _, _ => by simp only [RefIn]
  | .ref a, _, h => by unfold Rep at h; simp only [RefIn]; exact h.2
  | .lst ds, _, h => by obtain ⟨a, xs, rfl, g, p, r, z, q⟩ := rep_l h; simp only [RefIn]; exact refs_of q
  | .tup ds, _, h => by obtain ⟨a, xs, rfl, g, p, r, z, q⟩ := rep_t h; simp only [RefIn]; exact refs_of q
  | .dct ks ds, _, h => by unfold Rep at h; obtain ⟨a, xs, rfl, g, p, r, z, q⟩ := h; simp only [RefIn]; exact refs_of q
theorem refs_of {P : Addr → Prop} {G : Gp} {H : Hp} : ∀ {ds : List D} {vs : List V}, Reps K H G P ds vs → RefIns G ds
  | [], _, _ => by simp only [RefIns]
  | d :: ds, _, h => by
    unfold Reps at h
    obtain ⟨x, r, rfl, h1, h2⟩ := h
    simp only [RefIns]
    exact ⟨ref_of h1, refs_of h2⟩
end
mutual
theorem Rep.less {P : Addr → Prop} {G G2 : Gp} {H : Hp} (h2 : ∀ a, G a = none → G2 a = none) : ∀ {d : D} {v : V}, RefIn G2 d → Rep K H G P d v → Rep K H G2 P d v
  | .non, _, _, h => by unfold Rep at h ⊢; exact h
  | .bl _, _, _, h => by unfold Rep at h ⊢; exact h
  | .int _, _, _, h => by unfold Rep at h ⊢; exact h
  | .str _, _, _, h => by unfold Rep at h ⊢; exact h
  | .ty _, _, _, h => by unfold Rep at h ⊢; exact h
  | .cl _, _, _, h => by unfold Rep at h ⊢; exact h
  | .exc a dd f e, _, q, h => by
    unfold Rep at h ⊢
    simp only [RefIn] at q
    obtain ⟨rfl, g, pp, u, r, t⟩ := h
    exact ⟨rfl, h2 _ g, pp, u, r, Rep.less h2 q t⟩
  | .scr ns, _, _, h => by
    unfold Rep at h ⊢
    obtain ⟨a, rfl, z, ⟨⟨u, h⟩, g⟩ | ⟨h, g, pp⟩ | h⟩ := h
    · exact ⟨a, rfl, z, .inl ⟨⟨u, h⟩, h2 _ g⟩⟩
    · exact ⟨a, rfl, z, .inr (.inl ⟨h, h2 _ g, pp⟩)⟩
    · exact ⟨a, rfl, z, .inr (.inr h)⟩
  | .ref a, _, q, h => by unfold Rep at h ⊢; simp only [RefIn] at q; exact ⟨h.1, q⟩
  | .lst ds, _, q, h => by
    unfold Rep at h ⊢
    simp only [RefIn] at q
    obtain ⟨a, xs, rfl, g, p, r, z, t⟩ := h
    exact ⟨a, xs, rfl, h2 _ g, p, r, z, Reps.less h2 q t⟩
  | .tup ds, _, q, h => by
    unfold Rep at h ⊢
    simp only [RefIn] at q
    obtain ⟨a, xs, rfl, g, p, r, z, t⟩ := h
    exact ⟨a, xs, rfl, h2 _ g, p, r, z, Reps.less h2 q t⟩
  | .dct ks ds, _, q, h => by
    unfold Rep at h ⊢
    simp only [RefIn] at q
    obtain ⟨a, xs, rfl, g, p, r, z, t⟩ := h
    exact ⟨a, xs, rfl, h2 _ g, p, r, z, Reps.less h2 q t⟩
theorem Reps.less {P : Addr → Prop} {G G2 : Gp} {H : Hp} (h2 : ∀ a, G a = none → G2 a = none) : ∀ {ds : List D} {vs : List V}, RefIns G2 ds → Reps K H G P ds vs → Reps K H G2 P ds vs
  | [], _, _, h => by unfold Reps at h ⊢; exact h
  | d :: ds, _, q, h => by
    unfold Reps at h ⊢
    simp only [RefIns] at q
    obtain ⟨x, r, rfl, h1, h3⟩ := h
    exact ⟨x, r, rfl, Rep.less h2 q.1 h1, Reps.less h2 q.2 h3⟩
end
def RefO (G : Gp) : GO → Prop
  | .lst ds => RefIns G ds
  | .dct _ ds => RefIns G ds
  | .ins _ _ _ ds => RefIns G ds
  | .gen _ ds => RefIns G ds
  | _ => True
theorem RelO.less {P : Addr → Prop} {G G2 : Gp} {H : Hp} {o : GO} {ho : HO} (h2 : ∀ a, G a = none → G2 a = none) (q : RefO G2 o) (h : RelO K H G P o ho) : RelO K H G2 P o ho := by
  cases o with
  | lst ds => obtain ⟨xs, e, z, t⟩ := h; exact ⟨xs, e, z, t.less h2 q⟩
  | dct ks ds => obtain ⟨xs, e, z, t⟩ := h; exact ⟨xs, e, z, t.less h2 q⟩
  | ins C dx ks ds => obtain ⟨xs, e, z, t⟩ := h; exact ⟨xs, e, z, t.less h2 q⟩
  | own x => exact h
  | set S n => exact h
  | gen r ds => obtain ⟨xs, e, z, t⟩ := h; exact ⟨xs, e, z, t.less h2 q⟩
  | tbl f q a =>
    obtain ⟨ea, ps, e, z, q⟩ := h
    refine ⟨ea, ps, e, z, fun pos cv hc => ?_⟩
    obtain ⟨c, e1, e2, e3, e4⟩ := q pos cv hc
    exact ⟨c, e1, e2, h2 _ e3, e4⟩
theorem refO_of {P : Addr → Prop} {G : Gp} {H : Hp} {o : GO} {ho : HO} (h : RelO K H G P o ho) : RefO G o := by
  cases o with
  | lst ds => obtain ⟨xs, e, z, t⟩ := h; exact refs_of t
  | dct ks ds => obtain ⟨xs, e, z, t⟩ := h; exact refs_of t
  | ins C dx ks ds => obtain ⟨xs, e, z, t⟩ := h; exact refs_of t
  | own x => trivial
  | set S n => trivial
  | gen r ds => obtain ⟨xs, e, z, t⟩ := h; exact refs_of t
  | tbl f q a => trivial
mutual
theorem refIn_mono {G G2 : Gp} (h : ∀ a o, G a = some o → ∃ o', G2 a = some o') : ∀ {d : D}, RefIn G d → RefIn G2 d
  | .non, _ => by simp only [RefIn]
  | .bl _, _ => by simp only [RefIn]
  | .int _, _ => by simp only [RefIn]
  | .str _, _ => by simp only [RefIn]
  | .ty _, _ => by simp only [RefIn]
  | .cl _, _ => by simp only [RefIn]
  | .exc a dd f e, q => by simp only [RefIn] at q ⊢; exact refIn_mono h q
  | .scr _, _ => by simp only [RefIn]
  | .ref a, q => by simp only [RefIn] at q ⊢; obtain ⟨o, e⟩ := q; exact h a o e
  | .lst ds, q => by simp only [RefIn] at q ⊢; exact refIns_mono h q
  | .tup ds, q => by simp only [RefIn] at q ⊢; exact refIns_mono h q
  | .dct ks ds, q => by simp only [RefIn] at q ⊢; exact refIns_mono h q
theorem refIns_mono {G G2 : Gp} (h : ∀ a o, G a = some o → ∃ o', G2 a = some o') : ∀ {ds : List D}, RefIns G ds → RefIns G2 ds
  | [], _ => by simp only [RefIns]
  | d :: ds, q => by simp only [RefIns] at q ⊢; exact ⟨refIn_mono h q.1, refIns_mono h q.2⟩
end
/-- at a def's end: what is handed back, and what stays owned -/
def Fz (G0 : Gp) (d : D) (G' : Gp) (d2 : D) (G2 : Gp) : Prop := ∀ (K : PySem.W.Frag) (P : Addr → Prop) (H0 H : Hp) (v : V), Wo K P G0 H0 → Step G0 H0 G' H → Wo K P G' H → Rep K H G' P d v → Step G0 H0 G2 H ∧ Wo K P G2 H ∧ Rep K H G2 P d2 v
theorem fz_id {G0 G' : Gp} {d : D} : Fz G0 d G' d G' := fun _ _ _ _ _ _ s w r => ⟨s, w, r⟩
/-- some new objects are let go -/
theorem fz_sub {G0 G' G2 : Gp} {d : D} (h1 : ∀ a o, G2 a = some o → G' a = some o) (h0 : ∀ a o, G0 a = some o → ∃ o', G2 a = some o') (hc : ∀ a o, G2 a = some o → RefO G2 o ∨ G0 a = some o) (hd : RefIn G2 d) : Fz G0 d G' d G2 := fun K P H0 H v w0 st w r => by
  have h2 : ∀ a, G' a = none → G2 a = none := fun a e => by
    cases q : G2 a with
    | none => rfl
    | some o => rw [h1 a o q] at e; cases e
  refine ⟨⟨fun a o e g => ⟨(st.keep a o e g).1, h2 a (st.keep a o e g).2⟩, h0⟩, ⟨fun a o e => ?_, fun a q => ?_⟩, r.less h2 hd⟩
  · obtain ⟨ho, e1, r1⟩ := w.own a o (h1 a o e)
    refine ⟨ho, e1, r1.less h2 ?_⟩
    rcases hc a o e with q | q
    · exact q
    · obtain ⟨ho0, e0, r0⟩ := w0.own a o q
      have := refO_of r0
      cases o with
      | lst ds => exact refIns_mono h0 this
      | dct ks ds => exact refIns_mono h0 this
      | ins C dx ks ds => exact refIns_mono h0 this
      | own x => trivial
      | set S n => trivial
      | gen r ds => exact refIns_mono h0 this
      | tbl f q a => trivial
  · obtain ⟨g, ho, e⟩ := w.prv a q
    exact ⟨h2 a g, ho, e⟩
/-- all new objects are let go -/
theorem fz_back {G0 G' : Gp} {d : D} (h : ∀ a o, G0 a = some o → G' a = some o) (hd : RefIn G0 d) : Fz G0 d G' d G0 := fz_sub h (fun a o e => ⟨o, e⟩) (fun a o e => .inr e) hd
/-- the end of a def's body -/
def fin (G0 : Gp) (Q : DK) : En := { nx := fun _ G' => ∃ d2 G2, Fz G0 .non G' d2 G2 ∧ Q d2 G2, rt := fun d G' => ∃ d2 G2, Fz G0 d G' d2 G2 ∧ Q d2 G2 }
/-- the slots at the entry -/
def startD (n : Nat) (ds : List D) : Sd := ds.map some ++ List.replicate (n - ds.length) none
theorem rl_start {P : Addr → Prop} {G : Gp} {H : Hp} {N : List Str} {ds : List D} {vs : List V} (w : Wo K P G H) (r : Reps K H G P ds vs) : Rl K P (startD N.length ds) G (L2.start N vs) H := by
  have l := r.length
  refine ⟨w, by unfold startD L2.start; simp [l], fun i d e => ?_⟩
  unfold startD at e
  unfold L2.start
  by_cases hi : i < ds.length
  · rw [List.getElem?_append_left (by simpa using hi), List.getElem?_map] at e
    obtain ⟨d', e1, e2⟩ := opt_map e
    cases e2
    obtain ⟨v, e3, r3⟩ := r.get e1
    exact ⟨v, by rw [List.getElem?_append_left (by simp; omega), List.getElem?_map, e3]; rfl, r3⟩
  · rw [List.getElem?_append_right (by simp; omega)] at e
    rw [List.getElem?_replicate] at e
    split at e <;> cases e
/-- no wish about what is raised -/
def y0 : Wx := ⟨fun _ _ _ _ => False⟩
/-- THE RULE for a def -/
theorem fk_ok {P : Program} {w : World} {K : PySem.W.Frag} {mg : Str → Option Value} {base : Heap} {x qual : Str} {params : Arguments} {body : List Stmt} {scope : Scope} {kws : List (Str × V)} {dvs : List V} {f : Addr} {fd : FuncData} {N ps : List Str} {k : Nat} {F : Sf} {es : ES}
    (FF : FunD K x qual params body scope dvs kws f fd) (S : FnScope N ps scope)
    (hJ : ∀ (cdv : Value) (A : Around) (outer : List Env) (s : Shared) (H : Hp) (E : XK), Room k (A.deeper (envOfC qual scope s.heap.objs.size f cdv)) → JSs (cxOf CX0 P w K mg base N qual scope f cdv A outer s H E).nox y0 body es)
    (hR : ∀ ds G Q, F ds G Q → es (fin G Q) (startD N.length ds) G) : FK P w K mg base (k + 1) f fd ps F := by
  refine FF.ok S (fun vs H Q E h => ?_) (fun cdv A outer s H vs Q E hr h => ?_)
  · exact h.1
  · obtain ⟨_, P', ds, G, Q', wo, r, hf, kk⟩ := h
    have j := hJ cdv A outer s H E hr
    refine ⟨_, PSs.nox j.ps, ?_⟩
    have hR' := hR ds G Q' hf
    refine j.ls P' (startD N.length ds) G (fin G Q') (L2.start N vs) H _ hR' (rl_start wo r) ⟨?_, ?_, ?_, ?_, ?_⟩
    · intro s' G' σ' H' st rl hq
      obtain ⟨d2, G2, fz, q2⟩ := hq
      obtain ⟨b1, b2, b3⟩ := fz K P' H H' .non wo st rl.wo rep_non
      exact kk d2 G2 .non H' b1 b2 b3 q2
    · intro d G' v H' st w' rp hq
      obtain ⟨d2, G2, fz, q2⟩ := hq
      obtain ⟨b1, b2, b3⟩ := fz K P' H H' v wo st w' rp
      exact kk d2 G2 v H' b1 b2 b3 q2
    · intro s' G' σ' H' st rl hq
      exact hq.elim
    · intro s' G' σ' H' st rl hq
      exact hq.elim
    · intro x s' G' cls d σ' H' st rl _ hq
      exact hq.elim
/-- the law's promise: of every script True -/
def lawF (n : Nat) : Sf := fun ds G Q => ∃ ns : List Int, ds = [.scr ns] ∧ ns.length ≤ n ∧ G = (fun _ => none) ∧ ∀ G', Q (.bl true) G'
theorem law_sp {K : PySem.W.Frag} {n : Nat} (hn : n ≤ sizeLine) {H : Hp} {a : Addr} {ns : List Int} (hl : ns.length ≤ n) (ho : Only H) (hS : SqL K H a (ns.map V.int)) {E : XK} : Lf K 1 (lawF n) [.ref a] H (fun v _ => v = .bl true) E := by
  refine ⟨rfl, fun _ => False, [.scr ns], fun _ => none, fun d _ => d = .bl true, ⟨fun _ _ e => (nomatch e), fun _ q => q.elim⟩, reps_cons ?_ reps_nil, ⟨ns, rfl, hl, rfl, fun _ => rfl⟩, fun d G' v H' _ _ r q => by subst q; exact rep_b r⟩
  unfold Rep
  refine ⟨a, rfl, Nat.le_trans hl hn, ?_⟩
  rcases hS with (h | ⟨o, h⟩) | h
  · exact .inr (.inl ⟨h, rfl, fun x => x⟩)
  · exact .inl ⟨⟨o, h⟩, rfl⟩
  · exact .inr (.inr h)
end
end DL
namespace DL
open PySem PySem.Spec PyProof.Rows L2
/-- a def of the text, called by its name: it keeps the promise F -/
structure Cal (P : Program) (w : World) (K : PySem.W.Frag) (mg : Str → Option Value) (base : Heap) (k : Nat) (x : Str) (ps : List Str) (F : Sf) : Prop where
  ex : ∃ f fd, FK P w K mg base k f fd ps F ∧ mg x = some (.ref f) ∧ PySem.W.keepIn K (.ref f) = true ∧ Binds K fd ps []
/-- a def as it stands behind the top -/
structure Df (K : PySem.W.Frag) (mg : Str → Option Value) (x : Str) (st : Stmt) : Prop where
  ex : ∃ f fd, FunD K x x (defArgs st) (defBody st) (defScope st) [] [] f fd ∧ mg x = some (.ref f)
section
variable {X : Cx}
theorem j_cal {K : PySem.W.Frag} {k : Nat} {ps : List Str} {F : Sf} {x : Str} {p pos : Pos} {e : Expr} {es : List Expr} {ea : EA} (c : Cal X.prog X.w K X.mg X.base k x ps F) (hr : Room k X.A) (hg : Gl X x)
    (ha : JA X (e :: es) ea) (hK : X.K = K := by rfl) (hlen : (e :: es).length = ps.length := by rfl) (hdb : (x == ("__debug__" : Str)) = false := by decide) (he : starEach (e :: es) X.env = (false, eval e X.env) :: starEach es X.env := by rfl) (hpl : (backTo pos (starEach es X.env)).any (·.1) = false := by rfl) : JE X (.Call (.Name x p) (e :: es) [] pos) (eCall F ea) := by
  subst hK
  obtain ⟨f, fd, h1, h2, h3, h4⟩ := c.ex
  exact j_call h1 hr hg h2 h3 h4 ha hlen hdb he hpl
/-- THE RULE for a def, by its name -/
theorem cal_ok {P : Program} {w : World} {K : PySem.W.Frag} {mg : Str → Option Value} {base : Heap} {x : Str} {st : Stmt} {N ps : List Str} {k : Nat} {F : Sf} {es : ES} (D : Df K mg x st) (S : FnScope N ps (defScope st))
    (hb : ∀ (kV doc pm : Value) (an : Option Addr) (cdv ct : Value) (us : List Value), us.length = ps.length → bindArgs (PySem.W.fnOf x x (defArgs st) (defBody st) (defScope st) .none kV doc pm an cdv ct) ⟨us, []⟩ = pure (ps.zip us))
    (hJ : ∀ (f : Addr) (cdv : Value) (A : Around) (outer : List Env) (s : Shared) (H : Hp) (E : XK), Room k (A.deeper (envOfC x (defScope st) s.heap.objs.size f cdv)) → JSs (cxOf CX0 P w K mg base N x (defScope st) f cdv A outer s H E).nox y0 (defBody st) es)
    (hR : ∀ ds G Q, F ds G Q → es (fin G Q) (startD N.length ds) G) : Cal P w K mg base (k + 1) x ps F := by
  obtain ⟨f, fd, h1, h2⟩ := D.ex
  exact ⟨f, fd, fk_ok h1 S (hJ f) hR, h2, h1.kp, h1.bindsN hb⟩
end
end DL
set_option Elab.async false
set_option linter.all false
set_option maxRecDepth 100000
set_option maxHeartbeats 4000000
namespace DL
open PySem PySem.Spec PyProof.Rows L2
section
variable {X : Cx} {K : PySem.W.Frag} {e : Expr} {te : TE} {ee : EE} {pos : Pos}
theorem js_setI {Y : Wx} {o i : Expr} {eo ei : EE} {p' : Pos} (he : JE X e ee) (ho : JE X o eo) (hi : JE X i ei)
    (ha : ∀ v, assign (.Subscript o i p') X.env v = (do let ov ← holding [v] (eval o X.env); let iv ← holding [v, ov] (eval i X.env); standAt p'; holding [v, ov, iv] (setItem ov iv v); release [v, ov, iv] []) := by intro _; rfl)
    (hs : swapsWithSole [.Subscript o i p'] e pos.line X.env = pure false := by rfl) (hw : swappedStores [.Subscript o i p'] e X.env = pure none := by rfl) (h1 : (assignEach [.Subscript o i p'] X.env).map (·.2) = [assign (.Subscript o i p') X.env] := by rfl) :
    JS X Y (.Assign [.Subscript o i p'] e pos) (sSetIx ee eo ei) := js_setIx he ho hi (ps_asg he.pe (pg_sub ho.pe hi.pe set_list ha) hs hw h1)
theorem js_asgTup {Y : Wx} {tg : Expr} {t : Tg} (he : JE X e ee) (hg : JG X tg t) (hs : swapsWithSole [tg] e pos.line X.env = pure false := by rfl) (hw : swappedStores [tg] e X.env = pure none := by rfl) (h1 : (assignEach [tg] X.env).map (·.2) = [assign tg X.env] := by rfl) :
    JS X Y (.Assign [tg] e pos) (sAsg ee t) := js_asgT he hg (ps_asg he.pe hg.pg hs hw h1)
/-- list(range(n)), list(range(a, b)) -/
@[simp] def eListRange (ea : EA) : EE := fun s G Q => ea s G fun xs G1 => match xs with
  | [.int n] => -(2 ^ 62) ≤ n ∧ n ≤ 16000000 ∧ Q (.lst (rngD 0 n.toNat)) G1
  | _ => False
end
theorem rngD_succ (lo : Int) (n : Nat) : rngD lo (n + 1) = .int lo :: rngD (lo + 1) n := by
  unfold rngD
  rw [List.range_succ_eq_map, List.map_cons, List.map_map]
  congr 1
  · simp
  · apply List.map_congr_left
    intro a _
    simp only [Function.comp_apply]
    congr 1
    omega
theorem rngD_zero (lo : Int) : rngD lo 0 = [] := rfl
/-- a comprehension that leaves the owned objects: over a list of things -/
theorem compW_map {α : Type} {g : α → D} {p : α → Bool} {f : α → D} {s0 : Sd} {t : Tg} {tt : ET} {te : EE} {Kp : Gp → Prop} {G : Gp} {Q : List D → Gp → Prop} (hK : Kp G) : ∀ (xs : List α) (acc : List D),
    (∀ x ∈ xs, ∃ s', asg t (g x) s0 = some s' ∧ (∀ R : Bool → Gp → Prop, R (p x) G → tt s' G R) ∧ (p x = true → ∀ R : DK, R (f x) G → te s' G R)) → Q (acc ++ (xs.filter p).map f) G → compW s0 t tt te Kp (xs.map g) acc G Q
  | [], acc, _, hq => by
    simp only [List.map_nil, compW]
    exact ⟨hK, by simpa using hq⟩
  | x :: xs, acc, h, hq => by
    simp only [List.map_cons, compW]
    refine ⟨hK, ?_⟩
    obtain ⟨s', e1, h1, h2⟩ := h x List.mem_cons_self
    simp only [e1]
    refine h1 _ ?_
    cases e : p x with
    | true =>
      refine h2 e _ ?_
      refine compW_map hK xs _ (fun y hy => h y (List.mem_cons_of_mem _ hy)) ?_
      rw [List.filter_cons_of_pos e] at hq
      simpa using hq
    | false =>
      refine compW_map hK xs _ (fun y hy => h y (List.mem_cons_of_mem _ hy)) ?_
      rw [List.filter_cons_of_neg (by simp [e])] at hq
      exact hq
/-- .. without a test -/
theorem compW_all {α : Type} {g : α → D} {f : α → D} {s0 : Sd} {t : Tg} {te : EE} {Kp : Gp → Prop} {G : Gp} {Q : List D → Gp → Prop} (hK : Kp G) (xs : List α) (acc : List D)
    (h : ∀ x ∈ xs, ∃ s', asg t (g x) s0 = some s' ∧ (∀ R : DK, R (f x) G → te s' G R)) (hq : Q (acc ++ xs.map f) G) : compW s0 t eYes te Kp (xs.map g) acc G Q :=
  compW_map (p := fun _ => true) hK xs acc (fun x hx => let ⟨s', e, k⟩ := h x hx; ⟨s', e, fun R r => r, fun _ => k⟩) (by rw [List.filter_eq_self.mpr (fun _ _ => rfl)]; exact hq)
theorem fin_id {G0 G' : Gp} {Q : DK} {d : D} (h : Q d G') : (fin G0 Q).rt d G' := ⟨d, G', fz_id, h⟩
theorem fin_back {G0 G' : Gp} {Q : DK} {d : D} (h : ∀ a o, G0 a = some o → G' a = some o) (hd : RefIn G0 d) (q : Q d G0) : (fin G0 Q).rt d G' := ⟨d, G0, fz_back h hd, q⟩
/-- a new list is handed back frozen, other changed objects stay -/
theorem fz_lstS {G0 G' G2 : Gp} {p : Addr} {ds : List D} (h1 : ∀ a o, G2 a = some o → G' a = some o) (h0 : ∀ a o, G0 a = some o → ∃ o', G2 a = some o') (hc : ∀ a o, G2 a = some o → RefO G2 o ∨ G0 a = some o) (e : G' p = some (.lst ds)) (n : G2 p = none) (hd : RefIns G2 ds) : Fz G0 (.ref p) G' (.lst ds) G2 := fun K P H0 H v w0 st w r => by
  have h2 : ∀ a, G' a = none → G2 a = none := fun a e => by
    cases q : G2 a with
    | none => rfl
    | some o => rw [h1 a o q] at e; cases e
  obtain ⟨a1, a2, a3⟩ := fz_sub (d := .non) h1 h0 hc (by simp only [RefIn]) K P H0 H .non w0 st w rep_non
  refine ⟨a1, a2, ?_⟩
  unfold Rep at r
  obtain ⟨rfl, _⟩ := r
  obtain ⟨ho, e1, xs, rfl, z, q⟩ := w.own p _ e
  exact rep_lst n (fun pp => by rw [(w.prv p pp).1] at e; cases e) e1 z (q.less h2 hd)
mutual
def plainD : D → Bool
  | .ref _ => false
  | .exc _ _ _ _ => false
  | .lst ds => plainDs ds
  | .tup ds => plainDs ds
  | .dct _ ds => plainDs ds
  | _ => true
def plainDs : List D → Bool
  | [] => true
  | d :: ds => plainD d && plainDs ds
end
mutual
theorem refIn_plain {G : Gp} : ∀ {d : D}, plainD d = true → RefIn G d
  | .non, _ => by simp only [RefIn]
  | .bl _, _ => by simp only [RefIn]
  | .int _, _ => by simp only [RefIn]
  | .str _, _ => by simp only [RefIn]
  | .ty _, _ => by simp only [RefIn]
  | .cl _, _ => by simp only [RefIn]
  | .exc _ _ _ _, q => by simp [plainD] at q
  | .scr _, _ => by simp only [RefIn]
  | .ref a, q => by simp [plainD] at q
  | .lst ds, q => by simp only [plainD] at q; simp only [RefIn]; exact refIns_plain q
  | .tup ds, q => by simp only [plainD] at q; simp only [RefIn]; exact refIns_plain q
  | .dct ks ds, q => by simp only [plainD] at q; simp only [RefIn]; exact refIns_plain q
theorem refIns_plain {G : Gp} : ∀ {ds : List D}, plainDs ds = true → RefIns G ds
  | [], _ => by simp only [RefIns]
  | d :: ds, q => by
    simp only [plainDs, Bool.and_eq_true] at q
    simp only [RefIns]
    exact ⟨refIn_plain q.1, refIns_plain q.2⟩
end
theorem plainDs_map {α : Type} {f : α → D} (h : ∀ x, plainD (f x) = true) : ∀ xs : List α, plainDs (xs.map f) = true
  | [] => rfl
  | x :: xs => by simp only [List.map_cons, plainDs, h x, plainDs_map h xs, Bool.and_self]
end DL
set_option Elab.async false
set_option linter.all false
set_option maxRecDepth 100000
set_option maxHeartbeats 4000000
namespace DL
open PySem PySem.Spec PyProof.Rows L2
def stO (x y z : Int) : GO := .lst [.int x, .int y, .int z]
structure Ok3 (x y z : Int) : Prop where
  x0 : 0 ≤ x
  y0 : 0 ≤ y
  y1 : y < 2147483647
  z0 : 0 ≤ z
/-- a divisor that may be drawn by -/
def Wd (m : Int) : Prop := 0 < m ∧ m.natAbs.log2 < 9000
theorem wd_small {m : Int} (h : 0 < m) (h2 : m < 2 ^ 8999) : Wd m := ⟨h, by
  have e : m.natAbs ≠ 0 := by omega
  rw [Nat.log2_lt e]
  have : ((m.natAbs : Nat) : Int) < ((2 ^ 9000 : Nat) : Int) := by
    rw [Int.natAbs_of_nonneg (by omega)]
    refine Int.lt_of_lt_of_le h2 ?_
    decide +kernel
  exact Int.ofNat_lt.mp this⟩
theorem gput_eq {G : Gp} {a : Addr} {o : GO} (h : G a = some o) : gput G a o = G := by
  funext b
  by_cases e : b = a
  · subst e; rw [gput_same, h]
  · rw [gput_ne e]
def F__law_take : Sf := fun ds G Q => ∃ a many x y z, ds = [.ref a, .int many] ∧ G a = some (stO x y z) ∧ Ok3 x y z ∧ Wd many ∧
  ∀ r x' y' z', Ok3 x' y' z' → 0 ≤ r → r < many → Q (.int r) (gput G a (stO x' y' z'))
theorem cmul_r {i j : Int} (h : -(2 ^ 64) < j) (h2 : j < 2 ^ 64) : CMul i j := .inr ⟨h, h2⟩
theorem cmul_l {i j : Int} (h : -(2 ^ 64) < i) (h2 : i < 2 ^ 64) : CMul i j := .inl ⟨h, h2⟩
def r__law_take_L1 : ES :=
  (sSeq (sSetIx (eOp oAdd (eOp oIx (eVar 0) (eC (.int 2))) (eC (.int 1))) (eVar 0) (eC (.int 2)))
  (sSeq (sSetIx (eOp oMod (eOp oAdd (eOp oMul (eOp oIx (eVar 0) (eC (.int 1))) (eC (.int 48271))) (eOp oMul (eC (.int 11)) (eOp oIx (eVar 0) (eC (.int 2))))) (eC (.int 2147483647))) (eVar 0) (eC (.int 1)))
  (sAsg (eOp oAdd (eOp oMul (eVar 3) (eC (.int 2147483629))) (eOp oMod (eOp oMul (eOp oIx (eVar 0) (eC (.int 1))) (eOp oIx (eVar 0) (eC (.int 1)))) (eC (.int 2147483629)))) (.nm 3))))
def r__law_take : ES :=
  (sSeq (sIf (eT (eOp oGt (eOp oIx (eVar 0) (eC (.int 0))) (eC (.int 0)))) (sSeq (sAsg (eOp oMod (eOp oIx (eVar 0) (eC (.int 0))) (eVar 1)) (.nm 2))
  (sSeq (sSetIx (eOp oDivW (eOp oIx (eVar 0) (eC (.int 0))) (eVar 1)) (eVar 0) (eC (.int 0)))
  (sRet (eVar 2)))) sNext)
  (sSeq (sAsg (eC (.int 0)) (.nm 3))
  (sSeq (sFor (iR1 (eCons (eOp oAdd (eC (.int 1)) (eCB cInt1 (eCons (eOp oGt (eVar 1) (eOp oPow (eC (.int 10)) (eC (.int 6)))) eNil))) eNil)) (.nm 4) r__law_take_L1)
  (sRet (eOp oMod (eOp oDivW (eVar 3) (eC (.int 16))) (eVar 1))))))
theorem take_loop {G : Gp} {a : Addr} {N : En} {many : Int} : ∀ (n : Nat) (lo : Int) (o3 : Int) (o4 : Option D) (x y z : Int), Ok3 x y z → 0 ≤ o3 → (∀ o3 o4 x y z, Ok3 x y z → 0 ≤ o3 → N.nx [some (.ref a), some (.int many), none, some (.int o3), o4] (gput G a (stO x y z))) →
    forW (.nm 4) r__law_take_L1 (fun _ => True) N (rngD lo n) [some (.ref a), some (.int many), none, some (.int o3), o4] (gput G a (stO x y z)) := by
  intro n
  induction n with
  | zero => intro lo o3 o4 x y z ok h0 k; simp only [rngD_zero, forW, true_and]; exact k _ _ _ _ _ ok h0
  | succ n ih =>
    intro lo o3 o4 x y z ok h0 k
    rw [rngD_succ]
    obtain ⟨hx, hy, hy1, hz⟩ := ok
    simp [forW, sSeq, r__law_take_L1, gput_same, gput_gput, stO, atI, ixN]
    refine ⟨cmul_r (by decide) (by decide), cmul_l (by decide) (by decide), cmul_r (by decide) (by decide), cmul_r (by omega) (by omega), ?_⟩
    refine ih _ _ _ _ _ _ ⟨hx, by omega, by omega, by omega⟩ ?_ k
    have := Int.emod_nonneg ((y * 48271 + 11 * (z + 1)) % 2147483647 * ((y * 48271 + 11 * (z + 1)) % 2147483647)) (show (2147483629 : Int) ≠ 0 by decide)
    omega
theorem d__law_take (ds : List D) (G : Gp) (Q : DK) (h : F__law_take ds G Q) : r__law_take (fin G Q) (startD 5 ds) G := by
  obtain ⟨a, many, x, y, z, rfl, hG, ok, wd, k⟩ := h
  obtain ⟨hx, hy, hy1, hz⟩ := ok
  have hG' : gput G a (stO x y z) = G := gput_eq hG
  simp [sSeq, r__law_take, startD, hG, stO, atI, ixN]
  split
  · rename_i h0
    refine ⟨wd.1, wd, fin_id (k _ _ _ _ ⟨Int.ediv_nonneg hx (Int.le_of_lt wd.1), hy, hy1, hz⟩ (Int.emod_nonneg _ (by have := wd.1; omega)) (Int.emod_lt_of_pos _ wd.1))⟩
  · refine ⟨⟨by decide, by decide, by decide⟩, by split <;> decide, by split <;> decide, ?_⟩
    have := take_loop (G := G) (a := a) (many := many) (N := { nx := sRet (eOp oMod (eOp oDivW (eVar 3) (eC (D.int 16))) (eVar 1)) (fin G Q), rt := (fin G Q).rt, bk := (fin G Q).bk, ct := (fin G Q).ct, xr := (fin G Q).xr }) (1 + if 1000000 < many then 1 else 0 : Int).toNat 0 0 none x y z ⟨hx, hy, hy1, hz⟩ (by decide) ?_
    · rw [hG'] at this
      simpa [sSeq] using this
    · intro o3 o4 x y z ok h0
      simp
      exact ⟨⟨by decide, by decide⟩, wd.1, fin_id (k _ _ _ _ ok (Int.emod_nonneg _ (by have := wd.1; omega)) (Int.emod_lt_of_pos _ wd.1))⟩
def r__law_begun : ES :=
  (sSeq (sAsg (eC (.int 0)) (.nm 2))
  (sSeq (sIf (eT (eOp oLt (eVar 1) (eCB cLen (eCons (eVar 0) eNil)))) (sAsg (eOp oIx (eVar 0) (eVar 1)) (.nm 2)) sNext)
  (sSeq (sAsg (eCB cMax2 (eCons (eVar 2) (eCons (eOp oSub (eUn oNeg (eC (.int 1))) (eVar 2)) eNil))) (.nm 3))
  (sSeq (sAsg (eOp oMod (eOp oAdd (eOp oAdd (eVar 3) (eOp oMul (eOp oMul (eC (.int 104729)) (eVar 1)) (eVar 1))) (eC (.int 7))) (eC (.int 2147483647))) (.nm 4))
  (sSeq (sIf (eT (eOp oLt (eVar 3) (eOp oPow (eC (.int 10)) (eC (.int 18))))) (sAsg (eC (.int 0)) (.nm 3)) sNext)
  (sRet (eLstO (eCons (eVar 3) (eCons (eVar 4) (eCons (eC (.int 0)) eNil))))))))))
def F__law_begun : Sf := fun ds G Q => ∃ (ns : List Int) (k : Int), ds = [.scr ns, .int k] ∧ 0 ≤ k ∧ k ≤ 1000 ∧ ∀ p x y z, G p = none → Ok3 x y z → Q (.ref p) (gput G p (stO x y z))
theorem d__law_begun (ds : List D) (G : Gp) (Q : DK) (h : F__law_begun ds G Q) : r__law_begun (fin G Q) (startD 5 ds) G := by
  obtain ⟨ns, k, rfl, h0, h1, kk⟩ := h
  have key : ∀ c : Int, 0 ≤ (if -1 - c > c then -1 - c else c) := fun c => by split <;> omega
  have fin3 : ∀ c : Int, 0 ≤ c → ∀ m : Int, 0 ≤ (if c < 1000000000000000000 then 0 else c) ∧ 0 ≤ m % 2147483647 ∧ m % 2147483647 < 2147483647 := fun c hc m => ⟨by split <;> omega, by omega, by omega⟩
  have body : ∀ c : Int, sSeq (sAsg (eCB cMax2 (eCons (eVar 2) (eCons (eOp oSub (eUn oNeg (eC (.int 1))) (eVar 2)) eNil))) (.nm 3)) (sSeq (sAsg (eOp oMod (eOp oAdd (eOp oAdd (eVar 3) (eOp oMul (eOp oMul (eC (.int 104729)) (eVar 1)) (eVar 1))) (eC (.int 7))) (eC (.int 2147483647))) (.nm 4)) (sSeq (sIf (eT (eOp oLt (eVar 3) (eOp oPow (eC (.int 10)) (eC (.int 18))))) (sAsg (eC (.int 0)) (.nm 3)) sNext) (sRet (eLstO (eCons (eVar 3) (eCons (eVar 4) (eCons (eC (.int 0)) eNil))))))) (fin G Q) [some (.scr ns), some (.int k), some (.int c), none, none] G := by
    intro c
    have hc := key c
    simp [sSeq]
    refine ⟨cmul_l (by decide) (by decide), cmul_r (by omega) (by omega), ⟨by decide, by decide, by decide⟩, ?_⟩
    generalize (if -1 - c > c then -1 - c else c) = m at *
    split
    · exact ⟨by decide, fun p hp => fin_id (kk p _ _ _ hp ⟨by omega, by omega, by omega, by omega⟩)⟩
    · exact ⟨by decide, fun p hp => fin_id (kk p _ _ _ hp ⟨by omega, by omega, by omega, by omega⟩)⟩
  simp [sSeq, r__law_begun, startD]
  split
  · rename_i hlt
    have hk : k.toNat < ns.length := by omega
    have e : atI (ns.map D.int) k = some (.int ns[k.toNat]) := by
      have := atI_nat (xs := ns.map D.int) (j := k.toNat) (v := .int ns[k.toNat]) (by rw [List.getElem?_map, List.getElem?_eq_getElem hk]; rfl)
      rwa [Int.toNat_of_nonneg h0] at this
    rw [e]
    have := body ns[k.toNat]
    simpa [sSeq] using this
  · have := body 0
    simpa [sSeq] using this
end DL
set_option Elab.async false
set_option linter.all false
set_option maxRecDepth 100000
set_option maxHeartbeats 4000000
namespace DL
open PySem PySem.Spec PyProof.Rows L2
theorem take_ok {a : Addr} {m x y z : Int} {G : Gp} {Q : DK} (hG : G a = some (stO x y z)) (ok : Ok3 x y z) (w : Wd m) (k : ∀ r x y z, Ok3 x y z → 0 ≤ r → r < m → Q (.int r) (gput G a (stO x y z))) : F__law_take [.ref a, .int m] G Q := ⟨a, m, x, y, z, rfl, hG, ok, w, k⟩
theorem wd_of {m : Int} (h : 0 < m) (h2 : m ≤ 10000000000000000000000000000000000000000000000000000000000000) : Wd m := wd_small h (Int.lt_of_le_of_lt h2 (by decide +kernel))
/-- an item of a written list -/
theorem at_mem {ds : List D} {i : Int} (h0 : 0 ≤ i) (h1 : i < ds.length) : ∃ d, atI ds i = some d ∧ d ∈ ds := by
  have hi : i.toNat < ds.length := by omega
  have := atI_nat (xs := ds) (j := i.toNat) (List.getElem?_eq_getElem hi)
  rw [Int.toNat_of_nonneg h0] at this
  exact ⟨_, this, List.getElem_mem hi⟩
theorem gput_swap {G : Gp} {a p : Addr} {s s' l : GO} (h : p ≠ a) : gput (gput (gput G a s) p l) a s' = gput (gput G a s') p l := by
  funext b
  unfold gput
  by_cases e : b = a
  · subst e; simp [Ne.symm h]
  · by_cases e2 : b = p <;> simp [e, e2, h]
structure Stretch where
  name : Str
  b : Int
  e : Int
  w : Int
def Stretch.d (s : Stretch) : D := .tup [.str s.name, .int s.b, .int s.e, .int s.w]
structure NameOk (x : Str) : Prop where
  l1 : 1 ≤ x.length
  l8 : x.length ≤ 8
  az : ∀ c ∈ x.cps.toList, 97 ≤ c ∧ c ≤ 122
theorem Stretch.plain (s : Stretch) : plainD s.d = true := by simp [Stretch.d, plainD, plainDs]
theorem plain_book (bk : List Stretch) : plainDs (bk.map Stretch.d) = true := plainDs_map Stretch.plain bk
def r__law_name_L1 : ES :=
  (sAsg (eOp oAdd (eVar 3) (eOp oIx (eVar 2) (eCall F__law_take (eCons (eVar 0) (eCons (eC (.int 26)) eNil))))) (.nm 3))
def r__law_name : ES :=
  (sSeq (sAsg (eC (.str "abcdefghijklmnopqrstuvwxyz")) (.nm 2))
  (sSeq (sAsg (eC (.str "")) (.nm 3))
  (sSeq (sFor (iR1 (eCons (eCall F__law_take (eCons (eVar 0) (eCons (eC (.int 8)) eNil))) eNil)) (.nm 4) r__law_name_L1)
  (sRet (eOp oAdd (eVar 3) (eOp oIx (eVar 2) (eVar 1)))))))
def Lt : Str := "abcdefghijklmnopqrstuvwxyz"
theorem lt_cps : Lt.cps.toList = (List.range 26).map (97 + ·) := by decide +kernel
theorem lt_len : Lt.length = 26 := by decide +kernel
theorem lt_at {i : Int} (h0 : 0 ≤ i) (h1 : i < 26) : atI Lt.cps.toList i = some (97 + i.toNat) := by
  rw [lt_cps]
  have := atI_nat (xs := (List.range 26).map (97 + ·)) (j := i.toNat) (v := 97 + i.toNat) (by rw [List.getElem?_map, List.getElem?_range (by omega)]; rfl)
  rwa [Int.toNat_of_nonneg h0] at this
theorem str_app_len (x y : Str) : (x ++ y).length = x.length + y.length := by
  show (x.cps ++ y.cps).size = x.cps.size + y.cps.size
  simp
theorem str_app_cps (x y : Str) : (x ++ y).cps.toList = x.cps.toList ++ y.cps.toList := by
  show (x.cps ++ y.cps).toList = _
  simp
theorem str_one_len (c : Nat) : (⟨#[c]⟩ : Str).length = 1 := rfl
def F__law_name : Sf := fun ds G Q => ∃ a k x y z, ds = [.ref a, .int k] ∧ G a = some (stO x y z) ∧ Ok3 x y z ∧ 0 ≤ k ∧ k < 26 ∧
  ∀ nm x' y' z', Ok3 x' y' z' → NameOk nm → nm.cps.toList.getLast? = some (97 + k.toNat) → Q (.str nm) (gput G a (stO x' y' z'))
theorem name_loop {G : Gp} {a : Addr} {N : En} {k : Int} : ∀ (n : Nat) (lo : Int) (sp : Str) (o4 : Option D) (x y z : Int), Ok3 x y z → sp.length + n ≤ 7 → (∀ c ∈ sp.cps.toList, 97 ≤ c ∧ c ≤ 122) →
    (∀ (sp : Str) o4 x y z, Ok3 x y z → sp.length ≤ 7 → (∀ c ∈ sp.cps.toList, 97 ≤ c ∧ c ≤ 122) → N.nx [some (.ref a), some (.int k), some (.str Lt), some (.str sp), o4] (gput G a (stO x y z))) →
    forW (.nm 4) r__law_name_L1 (fun _ => True) N (rngD lo n) [some (.ref a), some (.int k), some (.str Lt), some (.str sp), o4] (gput G a (stO x y z)) := by
  intro n
  induction n with
  | zero => intro lo sp o4 x y z ok h0 h1 kk; simp only [rngD_zero, forW, true_and]; exact kk _ _ _ _ _ ok (by omega) h1
  | succ n ih =>
    intro lo sp o4 x y z ok h0 h1 kk
    rw [rngD_succ]
    simp [forW, sSeq, r__law_name_L1]
    refine take_ok gput_same ok (wd_of (by decide) (by decide)) fun r x' y' z' ok' hr0 hr1 => ?_
    simp [gput_gput, lt_at hr0 hr1]
    refine ⟨by rw [lt_len]; decide, by rw [str_one_len]; exact Nat.le_trans (by omega) line_ge, ?_⟩
    refine ih _ _ _ _ _ _ ok' (by rw [str_app_len, str_one_len]; omega) ?_ kk
    intro c hc
    rw [str_app_cps] at hc
    rcases List.mem_append.mp hc with q | q
    · exact h1 c q
    · simp at q; omega
theorem d__law_name (ds : List D) (G : Gp) (Q : DK) (h : F__law_name ds G Q) : r__law_name (fin G Q) (startD 5 ds) G := by
  obtain ⟨a, k, x, y, z, rfl, hG, ok, h0, h1, kk⟩ := h
  simp [sSeq, r__law_name, startD]
  refine take_ok hG ok (wd_of (by decide) (by decide)) fun r x' y' z' ok' hr0 hr1 => ?_
  simp
  refine ⟨by omega, by omega, ?_⟩
  refine name_loop (G := G) (k := k) r.toNat 0 "" none x' y' z' ok' (by show 0 + r.toNat ≤ 7; omega) (fun c hc => by rw [show (Str.ofString "").cps.toList = [] by decide +kernel] at hc; cases hc) ?_
  intro sp o4 x y z ok hl hc
  simp [lt_at h0 h1]
  refine ⟨by rw [lt_len]; decide, by rw [str_one_len]; exact Nat.le_trans (by omega) line_ge, fin_id (kk _ _ _ _ ok ⟨?_, ?_, ?_⟩ ?_)⟩
  · rw [str_app_len, str_one_len]; omega
  · rw [str_app_len, str_one_len]; omega
  · intro c q
    rw [str_app_cps] at q
    rcases List.mem_append.mp q with q | q
    · exact hc c q
    · simp at q; omega
  · rw [str_app_cps]; simp
end DL
set_option Elab.async false
set_option linter.all false
set_option maxRecDepth 100000
set_option maxHeartbeats 4000000
namespace DL
open PySem PySem.Spec PyProof.Rows L2
/-- the drawn names end in unlike letters -/
def LastAt (bk : List Stretch) : Prop := ∀ (j : Nat) (s : Stretch), bk[j]? = some s → s.name.cps.toList.getLast? = some (97 + j)
theorem last_nodup {bk : List Stretch} (h : LastAt bk) : (bk.map Stretch.name).Nodup := by
  rw [List.nodup_iff_pairwise_ne, List.pairwise_map, List.pairwise_iff_getElem]
  intro i j hi hj hij e
  have h1 := h i _ (List.getElem?_eq_getElem hi)
  have h2 := h j _ (List.getElem?_eq_getElem hj)
  rw [e, h2] at h1
  have := Option.some.inj h1
  omega
def nD (l : List Nat) : List D := l.map fun (i : Nat) => D.int (i : Int)
end DL
set_option Elab.async false
set_option linter.all false
set_option maxRecDepth 100000
set_option maxHeartbeats 4000000
namespace DL
open PySem PySem.Spec PyProof.Rows L2
end DL
set_option Elab.async false
set_option linter.all false
set_option maxRecDepth 100000
set_option maxHeartbeats 4000000
namespace DL
open PySem PySem.Spec PyProof.Rows L2
end DL
set_option Elab.async false
set_option linter.all false
set_option maxRecDepth 100000
set_option maxHeartbeats 4000000
namespace DL
open PySem PySem.Spec PyProof.Rows L2
instance : Inhabited Stretch := ⟨⟨⟨#[]⟩, 0, 0, 0⟩⟩
def st (bk : List Stretch) (i : Nat) : Stretch := bk.getD i default
theorem bk_at {bk : List Stretch} {i : Nat} (h : i < bk.length) : atI (bk.map Stretch.d) (i : Int) = some (st bk i).d := by
  refine atI_nat ?_
  unfold st
  rw [List.getElem?_map, List.getElem?_eq_getElem h, List.getD_eq_getElem?_getD, List.getElem?_eq_getElem h]
  rfl
theorem toPys_map {α : Type} {f : α → D} {g : α → PyData} {G : Gp} (h : ∀ x, toPy G (f x) = some (g x)) : ∀ xs : List α, toPys G (xs.map f) = some (xs.map g)
  | [] => by simp only [List.map_nil, toPys]
  | x :: xs => by simp only [List.map_cons, toPys, h x, toPys_map h xs]
def Stretch.py (s : Stretch) : PyData := .tuple [.str s.name, .int s.b, .int s.e, .int s.w]
theorem Stretch.toPy {G : Gp} (s : Stretch) : DL.toPy G s.d = some s.py := by simp [Stretch.d, Stretch.py]
theorem toPys_book {G : Gp} (bk : List Stretch) : toPys G (bk.map Stretch.d) = some (bk.map Stretch.py) := toPys_map (fun s => s.toPy) bk
theorem depthAll_le {n : Nat} : ∀ {xs : List PyData}, (∀ x ∈ xs, x.depth ≤ n) → PyData.depthAll xs ≤ n
  | [], _ => by simp [PyData.depthAll]
  | x :: xs, h => by
    simp only [PyData.depthAll]
    exact Nat.max_le.mpr ⟨h x List.mem_cons_self, depthAll_le fun y hy => h y (List.mem_cons_of_mem _ hy)⟩
theorem canLayAll_of : ∀ {xs : List PyData}, (∀ x ∈ xs, x.canLay0 = true) → PyData.canLayAll0 xs = true
  | [], _ => by simp [PyData.canLayAll0]
  | x :: xs, h => by
    simp only [PyData.canLayAll0, Bool.and_eq_true]
    exact ⟨h x List.mem_cons_self, canLayAll_of fun y hy => h y (List.mem_cons_of_mem _ hy)⟩
/-- shaped, and no deeper than n -/
structure Shp (n : Nat) (d : PyData) : Prop where
  c : d.canLay0 = true
  d : d.depth ≤ n
theorem Shp.shaped {n : Nat} {d : PyData} (h : Shp n d) (hn : n ≤ 64) : SeqAt.shaped d = true := by
  unfold SeqAt.shaped
  rw [h.c, decide_eq_true (Nat.le_trans h.d hn)]
  rfl
theorem shp_list {n : Nat} {xs : List PyData} (h : ∀ x ∈ xs, Shp n x) : Shp (n + 1) (.list xs) :=
  ⟨by simp only [PyData.canLay0]; exact canLayAll_of fun x hx => (h x hx).c, by simp only [PyData.depth]; exact Nat.succ_le_succ (depthAll_le fun x hx => (h x hx).d)⟩
theorem shp_tuple {n : Nat} {xs : List PyData} (h : ∀ x ∈ xs, Shp n x) : Shp (n + 1) (.tuple xs) :=
  ⟨by simp only [PyData.canLay0]; exact canLayAll_of fun x hx => (h x hx).c, by simp only [PyData.depth]; exact Nat.succ_le_succ (depthAll_le fun x hx => (h x hx).d)⟩
theorem shp_int (i : Int) {n : Nat} : Shp n (.int i) := ⟨by simp only [PyData.canLay0], by simp [PyData.depth]⟩
theorem shp_bool (i : Bool) {n : Nat} : Shp n (.bool i) := ⟨by simp only [PyData.canLay0], by simp [PyData.depth]⟩
theorem shp_none {n : Nat} : Shp n .none := ⟨by simp only [PyData.canLay0], by simp [PyData.depth]⟩
theorem shp_str {x : Str} {n : Nat} (h : ∀ c ∈ x.cps.toList, c < 1114112) : Shp n (.str x) := ⟨by
  simp only [PyData.canLay0, PyData.strOk]
  rw [Array.all_eq_true']
  intro c hc
  exact decide_eq_true (h c (Array.mem_toList_iff.mpr hc)), by simp [PyData.depth]⟩
theorem shp_name {x : Str} {n : Nat} (h : NameOk x) : Shp n (.str x) := shp_str fun c hc => by have := h.az c hc; omega
theorem eqv_self {n : Nat} {d : PyData} (h : Shp n d) : PyData.eqv d d = true := SeqAt.eqv_refl d h.c
end DL
set_option Elab.async false
set_option linter.all false
set_option maxRecDepth 100000
set_option maxHeartbeats 4000000
namespace DL
open PySem PySem.Spec PyProof.Rows L2
/-- a loop whose turns keep I -/
theorem forW_all {t : Tg} {tb : ES} {Kp : Gp → Prop} {N : En} (I : Sd → Gp → Prop) (hK : ∀ s G, I s G → Kp G) : ∀ (ds : List D) (s : Sd) (G : Gp),
    (∀ d ∈ ds, ∀ s G (W : Sd → Gp → Prop), I s G → (∀ s' G', I s' G' → W s' G') → match asg t d s with
      | some s' => tb { N with nx := W, ct := W, bk := N.nx } s' G
      | none => False) → I s G → (∀ s G, I s G → N.nx s G) → forW t tb Kp N ds s G
  | [], s, G, _, hI, k => by simp only [forW]; exact ⟨hK s G hI, k s G hI⟩
  | d :: ds, s, G, h, hI, k => by
    simp only [forW]
    exact ⟨hK s G hI, h d List.mem_cons_self s G _ hI fun s' G' hI' => forW_all I hK ds s' G' (fun d hd => h d (List.mem_cons_of_mem _ hd)) hI' k⟩
theorem rngD_mem {lo : Int} {n : Nat} {d : D} (h : d ∈ rngD lo n) : ∃ i : Int, d = .int i ∧ lo ≤ i ∧ i < lo + n := by
  unfold rngD at h
  obtain ⟨j, hj, rfl⟩ := List.mem_map.mp h
  rw [List.mem_range] at hj
  exact ⟨_, rfl, by omega, by omega⟩
/-- the law's outer loop -/
theorem law_loop {t : Tg} {tb : ES} {N : En} {n m : Nat} (I : Sd → Gp → Prop) {s : Sd} {G : Gp} (h : ∀ k : Int, 0 ≤ k → k < 63 → ∀ s G (W : Sd → Gp → Prop), I s G → (∀ s' G', I s' G' → W s' G') → match asg t (.int k) s with
      | some s' => tb { N with nx := W, ct := W, bk := N.nx } s' G
      | none => False) (hn : n ≤ 63) (hI : I s G) (k : ∀ s G, I s G → N.nx s G) : forW t tb (fun _ => True) N (rngD 0 n) s G := by
  refine forW_all I (fun _ _ _ => trivial) _ s G (fun d hd => ?_) hI k
  obtain ⟨i, rfl, h0, h1⟩ := rngD_mem hd
  exact h i h0 (by omega)
end DL
set_option Elab.async false
set_option linter.all false
set_option maxRecDepth 100000
set_option maxHeartbeats 4000000
namespace L2
open PySem PySem.Spec PyProof.Rows
end L2
set_option Elab.async false
set_option linter.all false
set_option maxRecDepth 100000
set_option maxHeartbeats 4000000
namespace L2
open PySem PySem.Spec PyProof.Rows
end L2
namespace DL
open PySem PySem.Spec PyProof.Rows L2
/-- sorted(set(xs)): the ints of xs, rising, each once -/
@[simp] def eSortedSet (ea : EA) : EE := fun s G Q => ea s G fun xs G1 => match xs with
  | [x] => (match (lkL G1 x).bind intsD with
    | some ns => ns.length < 64 ∧ ∀ ms : List Int, ms.Pairwise (· < ·) → (∀ k : Int, k ∈ ms ↔ k ∈ ns) → Q (.lst (ms.map D.int)) G1
    | none => False)
  | _ => False
section
variable {X : Cx}
/-- sorted(xs) of ints -/
@[simp] def cSortedI : CD := fun xs G Q => match xs with
  | [x] => (match (lkL G x).bind intsD with
    | some ns => ∀ ms : List Int, ms.Perm ns → ms.Pairwise (· ≤ ·) → Q (.lst (ms.map D.int)) G
    | none => False)
  | _ => False
end
end DL
set_option Elab.async false
set_option linter.all false
set_option maxRecDepth 100000
set_option maxHeartbeats 4000000
namespace DL
open PySem PySem.Spec PyProof.Rows L2
def ins (k : Int) : List Int → List Int
  | [] => [k]
  | x :: xs => if k < x then k :: x :: xs else if k = x then x :: xs else x :: ins k xs
end DL
set_option Elab.async false
set_option linter.all false
set_option maxRecDepth 100000
set_option maxHeartbeats 4000000
namespace DL
open PySem PySem.Spec PyProof.Rows L2
/-- x is True, x is False -/
@[simp] def oIsB : OD := fun x y G Q => match x, y with
  | .bl a, .bl b => Q (.bl (decide (a = b))) G
  | _, _ => False
@[simp] def oNotB : OD := fun x y G Q => match x, y with
  | .bl a, .bl b => Q (.bl (!decide (a = b))) G
  | _, _ => False
end DL
set_option Elab.async false
set_option linter.all false
set_option maxRecDepth 100000
set_option maxHeartbeats 4000000
namespace DL
open PySem PySem.Spec PyProof.Rows L2
@[simp ↓ high] theorem ix_0 {s : Stretch} {G : Gp} {Q : DK} : oIx s.d (.int 0) G Q = Q (.str s.name) G := by simp [Stretch.d, atI, ixN]
@[simp ↓ high] theorem ix_1 {s : Stretch} {G : Gp} {Q : DK} : oIx s.d (.int 1) G Q = Q (.int s.b) G := by simp [Stretch.d, atI, ixN]
@[simp ↓ high] theorem ix_2 {s : Stretch} {G : Gp} {Q : DK} : oIx s.d (.int 2) G Q = Q (.int s.e) G := by simp [Stretch.d, atI, ixN]
@[simp ↓ high] theorem ix_3 {s : Stretch} {G : Gp} {Q : DK} : oIx s.d (.int 3) G Q = Q (.int s.w) G := by simp [Stretch.d, atI, ixN]
@[simp] theorem sh_int (i : Int) : SeqAt.shaped (.int i) = true := rfl
@[simp] theorem sh_bool (i : Bool) : SeqAt.shaped (.bool i) = true := rfl
@[simp] theorem sh_none : SeqAt.shaped .none = true := rfl
@[simp] theorem eqv_ii (a b : Int) : PyData.eqv (.int a) (.int b) = decide (a = b) := by simp only [PyData.eqv]; rfl
@[simp] theorem eqv_bb (a b : Bool) : PyData.eqv (.bool a) (.bool b) = (a == b) := by cases a <;> cases b <;> decide
@[simp] theorem kit_bool_bool : kitB "bool" "bool" = some true := by decide +kernel
@[simp] theorem kit_int_int1 : kitB "int" "int" = some true := by decide +kernel
@[simp] theorem kit_int_bool1 : kitB "int" "bool" = some false := by decide +kernel
@[simp] theorem kit_tuple_tuple : kitB "tuple" "tuple" = some true := by decide +kernel
@[simp] theorem kit_list_list : kitB "list" "list" = some true := by decide +kernel
theorem ints_at {l : List Int} {i : Int} (h0 : 0 ≤ i) (h1 : i < l.length) : ∃ m, atI (l.map D.int) i = some (.int m) ∧ m ∈ l := by
  obtain ⟨d, e, hd⟩ := at_mem (ds := l.map D.int) h0 (by simpa using h1)
  obtain ⟨m, hm, rfl⟩ := List.mem_map.mp hd
  exact ⟨m, e, hm⟩
end DL
set_option Elab.async false
set_option linter.all false
set_option maxRecDepth 100000
set_option maxHeartbeats 4000000
namespace DL
open PySem PySem.Spec PyProof.Rows L2
/-- a loop, the rest of what is walked known -/
theorem forW_ind {α : Type} {g : α → D} {t : Tg} {tb : ES} {Kp : Gp → Prop} {N : En} (I : List α → Sd → Gp → Prop) (hK : ∀ xs s G, I xs s G → Kp G)
    (h : ∀ x xs s G (W : Sd → Gp → Prop), I (x :: xs) s G → (∀ s' G', I xs s' G' → W s' G') → match asg t (g x) s with
      | some s' => tb { N with nx := W, ct := W, bk := N.nx } s' G
      | none => False) (k : ∀ s G, I [] s G → N.nx s G) : ∀ (xs : List α) (s : Sd) (G : Gp), I xs s G → forW t tb Kp N (xs.map g) s G
  | [], s, G, hI => ⟨hK _ s G hI, k s G hI⟩
  | x :: xs, s, G, hI => ⟨hK _ s G hI, h x xs s G _ hI fun s' G' hI' => forW_ind I hK h k xs s' G' hI'⟩
end DL
set_option Elab.async false
set_option linter.all false
set_option maxRecDepth 100000
set_option maxHeartbeats 4000000
namespace DL
open PySem PySem.Spec PyProof.Rows L2
end DL
set_option Elab.async false
set_option linter.all false
set_option maxRecDepth 100000
set_option maxHeartbeats 4000000
namespace DL
open PySem PySem.Spec PyProof.Rows L2
theorem st_mem {bk : List Stretch} {i : Nat} (hi : i < bk.length) : st bk i ∈ bk := by
  unfold st; rw [List.getD_eq_getElem?_getD, List.getElem?_eq_getElem hi]; exact List.getElem_mem hi
end DL
set_option Elab.async false
set_option linter.all false
set_option maxRecDepth 100000
set_option maxHeartbeats 4000000
namespace DL
open PySem PySem.Spec PyProof.Rows L2
end DL
set_option Elab.async false
set_option linter.all false
set_option maxRecDepth 100000
set_option maxHeartbeats 4000000
namespace DL
open PySem PySem.Spec PyProof.Rows L2
end DL
set_option Elab.async false
set_option linter.all false
set_option maxRecDepth 100000
set_option maxHeartbeats 4000000
namespace DL
open PySem PySem.Spec PyProof.Rows L2
end DL
set_option Elab.async false
set_option linter.all false
set_option maxRecDepth 100000
set_option maxHeartbeats 4000000
namespace DL
open PySem PySem.Spec PyProof.Rows L2
/-- sorted(set(xs)), owned -/
@[simp] def eSortedSetO (ea : EA) : EE := fun s G Q => ea s G fun xs G1 => match xs with
  | [x] => (match (lkL G1 x).bind intsD with
    | some ns => ns.length < 64 ∧ ∀ ms : List Int, ms.Pairwise (· < ·) → (∀ k : Int, k ∈ ms ↔ k ∈ ns) → ∀ p, G1 p = none → Q (.ref p) (gput G1 p (.lst (ms.map D.int)))
    | none => False)
  | _ => False
end DL
set_option Elab.async false
set_option linter.all false
set_option maxRecDepth 100000
set_option maxHeartbeats 4000000
namespace DL
open PySem PySem.Spec PyProof.Rows L2
/-- xs[::-1]: a new list, frozen -/
@[simp] def eRevL (te : EE) : EE := fun s G Q => te s G fun x G1 => match lkL G1 x with
  | some ds => Q (.lst ds.reverse) G1
  | none => False
section
variable {X : Cx} {K : PySem.W.Frag} {P : Addr → Prop} {G : Gp} {H : Hp}
theorem Reps.reverse : ∀ {ds : List D} {vs : List V}, Reps K H G P ds vs → Reps K H G P ds.reverse vs.reverse
  | [], _, h => by unfold Reps at h; subst h; exact reps_nil
  | d :: ds, _, h => by
    unfold Reps at h
    obtain ⟨x, r, rfl, h1, h2⟩ := h
    rw [List.reverse_cons, List.reverse_cons]
    exact (Reps.reverse h2).append (reps_cons h1 reps_nil)
end
end DL
set_option Elab.async false
set_option linter.all false
set_option maxRecDepth 100000
set_option maxHeartbeats 4000000
namespace DL
open PySem PySem.Spec PyProof.Rows L2
end DL
set_option Elab.async false
set_option linter.all false
set_option maxRecDepth 100000
set_option maxHeartbeats 4000000
namespace DL
open PySem PySem.Spec PyProof.Rows L2
@[simp] def keyD : D → Option Key
  | .int i => some (.inl i)
  | .str x => some (.inr x)
  | _ => none
def lkD (G : Gp) : D → Option (List Key × List D)
  | .dct ks ds => some (ks, ds)
  | .ref a => match G a with
    | some (.dct ks ds) => some (ks, ds)
    | _ => none
  | _ => none
@[simp] theorem lkD_dct {G : Gp} {ks : List Key} {ds : List D} : lkD G (.dct ks ds) = some (ks, ds) := rfl
@[simp] theorem lkD_ref {G : Gp} {a : Addr} : lkD G (.ref a) = match G a with
    | some (.dct ks ds) => some (ks, ds)
    | _ => none := rfl
def valD : List Key → List D → Key → Option D
  | k' :: ks, d :: ds, k => if k' = k then some d else valD ks ds k
  | _, _, _ => none
def putDs : List Key → List D → Key → D → List D
  | k' :: ks, d' :: ds, k, d => (if k' = k then d else d') :: putDs ks ds k d
  | _, _, _, _ => []
def hasK (ks : List Key) (k : Key) : Bool := ks.any fun k' => decide (k' = k)
/-- the keys, the values behind d[k] = v -/
def putKs (ks : List Key) (k : Key) : List Key := if hasK ks k = true then ks else ks ++ [k]
def putVs (ks : List Key) (ds : List D) (k : Key) (d : D) : List D := if hasK ks k = true then putDs ks ds k d else ds ++ [d]
@[simp] def oDGet : OD := fun x y G Q => match lkD G x, keyD y with
  | some (ks, ds), some k => (match valD ks ds k with
    | some d => Q d G
    | none => False)
  | _, _ => False
@[simp] def oDIn : OD := fun y x G Q => match lkD G x, keyD y with
  | some (ks, ds), some k => Q (.bl (valD ks ds k).isSome) G
  | _, _ => False
@[simp] def oDNotIn : OD := fun y x G Q => match lkD G x, keyD y with
  | some (ks, ds), some k => Q (.bl (!(valD ks ds k).isSome)) G
  | _, _ => False
section
variable {X : Cx} {K : PySem.W.Frag} {P : Addr → Prop} {G : Gp} {H : Hp}
/-- {}: owned; frozen -/
@[simp] def eDnewO : EE := fun _ G Q => ∀ p, G p = none → Q (.ref p) (gput G p (.dct [] []))
@[simp] def eDnew0 : EE := fun _ G Q => Q (.dct [] []) G
theorem j_dnew0 {pos : Pos} : JE X (.Dict [] [] pos) eDnew0 := ⟨pe_dnewK, fun P s G Q σ H R h r k => fun p hp => by
  have st : Step G H G (upd H p (.dK [])) := Step.new hp
  obtain ⟨f1, f2⟩ := r.wo.fresh hp
  exact k _ _ _ _ st (r.wo.new hp) (by unfold Rep; exact ⟨p, [], rfl, f1, f2, upd_same, rfl, reps_nil⟩) h⟩
/-- d[k] = v, d owned -/
@[simp] def sPutD (te to ti : EE) : ES := fun N s G => te s G fun v G1 => to s G1 fun o G2 => ti s G2 fun i G3 => match o, keyD i with
  | .ref p, some k => (match G3 p with
    | some (.dct ks ds) => ks.length < sizeLine ∧ N.nx s (gput G3 p (.dct (putKs ks k) (putVs ks ds k v)))
    | _ => False)
  | _, _ => False
/-- sorted(d), the keys ints -/
def intKs : List Key → Option (List Int)
  | [] => some []
  | .inl i :: ks => (intKs ks).map (i :: ·)
  | .inr _ :: _ => none
@[simp] def cSortedDI : CD := fun xs G Q => match xs with
  | [x] => (match (lkD G x).bind fun p => intKs p.1 with
    | some ns => ns.length < 64 ∧ ∀ ms : List Int, ms.Perm ns → ms.Pairwise (· ≤ ·) → Q (.lst (ms.map D.int)) G
    | none => False)
  | _ => False
@[simp] def mPop : MD := fun x xs G Q => match x, xs with
  | .ref p, [] => (match G p with
    | some (.lst ds) => (match ds[ds.length - 1]? with
      | some d => Q d (gput G p (.lst ds.dropLast))
      | none => False)
    | _ => False)
  | _, _ => False
@[simp] def mClear : MD := fun x xs G Q => match x, xs with
  | .ref p, [] => (match G p with
    | some (.lst ds) => Q .non (gput G p (.lst []))
    | _ => False)
  | _, _ => False
@[simp] def mIns : MD := fun x xs G Q => match x, xs with
  | .ref p, [.int i, y] => (match G p with
    | some (.lst ds) => ds.length < sizeLine ∧ 0 ≤ i ∧ i < 2 ^ 63 ∧ Q .non (gput G p (.lst (ds.take i.toNat ++ [y] ++ ds.drop i.toNat)))
    | _ => False)
  | _, _ => False
end
end DL
set_option Elab.async false
set_option linter.all false
set_option maxRecDepth 100000
set_option maxHeartbeats 4000000
namespace DL
open PySem PySem.Spec PyProof.Rows L2
/-- d.get(k, x) -/
@[simp] def eDGet2 (to ti tx : EE) : EE := fun s G Q => to s G fun o G1 => (lkD G1 o).isSome = true ∧ ti s G1 fun y G2 => tx s G2 fun z G3 => match lkD G3 o, keyD y with
  | some (ks, ds), some k => Q ((valD ks ds k).getD z) G3
  | _, _ => False
/-- d.get(k) -/
@[simp] def eDGet1 (to ti : EE) : EE := fun s G Q => to s G fun o G1 => (lkD G1 o).isSome = true ∧ ti s G1 fun y G3 => match lkD G3 o, keyD y with
  | some (ks, ds), some k => Q ((valD ks ds k).getD .non) G3
  | _, _ => False
def dropKs : List Key → Key → List Key
  | k' :: ks, k => if k' = k then dropKs ks k else k' :: dropKs ks k
  | [], _ => []
def dropDs : List Key → List D → Key → List D
  | k' :: ks, d :: ds, k => if k' = k then dropDs ks ds k else d :: dropDs ks ds k
  | _, _, _ => []
/-- d.pop(k), k there, d owned -/
@[simp] def eDPop1 (to ti : EE) : EE := fun s G Q => to s G fun o G1 => (lkD G1 o).isSome = true ∧ ti s G1 fun y G2 => match o, keyD y with
  | .ref p, some k => (match G2 p with
    | some (.dct ks ds) => (match valD ks ds k with
      | some d => Q d (gput G2 p (.dct (dropKs ks k) (dropDs ks ds k)))
      | none => False)
    | _ => False)
  | _, _ => False
section
variable {X : Cx} {K : PySem.W.Frag} {P : Addr → Prop} {G : Gp} {H : Hp}
def pairsD : List D → Option (List (Key × D))
  | [] => some []
  | .tup [k, d] :: r => (match keyD k, pairsD r with
    | some kk, some ps => some ((kk, d) :: ps)
    | _, _ => none)
  | _ :: _ => none
def mergeDs : List Key → List D → List (Key × D) → List Key × List D
  | ks, ds, [] => (ks, ds)
  | ks, ds, (k, d) :: r => mergeDs (putKs ks k) (putVs ks ds k d) r
@[simp] def cDictPO : CD := fun xs G Q => match xs with
  | [x] => (match (lkL G x).bind pairsD with
    | some ps => ∀ p, G p = none → Q (.ref p) (gput G p (.dct (mergeDs [] [] ps).1 (mergeDs [] [] ps).2))
    | none => False)
  | _ => False
@[simp] def cDictDO : CD := fun xs G Q => match xs with
  | [x] => (match lkD G x with
    | some (ks, ds) => ∀ p, G p = none → Q (.ref p) (gput G p (.dct ks ds))
    | none => False)
  | _ => False
@[simp] def eDispC (k : Key) (d : D) : EE := fun _ G Q => Q (.dct [k] [d]) G
@[simp] def iRv (te : EE) : EI := fun s G Q => te s G fun x G1 => match lkL G1 x with
  | some ds => Q ds.reverse (stays x ds) G1
  | none => False
end
@[simp] def cAbs : CD := fun xs G Q => match xs with
  | [.int i] => Q (.int (if i < 0 then -i else i)) G
  | _ => False
end DL
set_option Elab.async false
set_option linter.all false
set_option maxRecDepth 100000
set_option maxHeartbeats 4000000
namespace DL
open PySem PySem.Spec PyProof.Rows L2
mutual
def frz (p : Addr) (ds : List D) : D → D
  | .ref a => if a = p then .lst ds else .ref a
  | .lst es => .lst (frzs p ds es)
  | .tup es => .tup (frzs p ds es)
  | .dct ks es => .dct ks (frzs p ds es)
  | .non => .non
  | .bl b => .bl b
  | .int b => .int b
  | .str b => .str b
  | .ty b => .ty b
  | .cl b => .cl b
  | .exc a dd f e => .exc a dd f (frz p ds e)
  | .scr b => .scr b
def frzs (p : Addr) (ds : List D) : List D → List D
  | [] => []
  | e :: es => frz p ds e :: frzs p ds es
end
theorem frzs_len {p : Addr} {ds : List D} : ∀ es : List D, (frzs p ds es).length = es.length
  | [] => rfl
  | e :: es => by simp only [frzs, List.length_cons, frzs_len es]
section
variable {K : PySem.W.Frag}
mutual
theorem Rep.frz {P : Addr → Prop} {G G2 : Gp} {H : Hp} {p : Addr} {ds : List D} (h2 : ∀ a, G a = none → G2 a = none) (hp : Rep K H G2 P (.lst ds) (.ref p)) : ∀ {d : D} {v : V}, RefIn G2 (DL.frz p ds d) → Rep K H G P d v → Rep K H G2 P (DL.frz p ds d) v
  | .non, _, _, h => by unfold DL.frz; unfold Rep at h ⊢; exact h
  | .bl _, _, _, h => by unfold DL.frz; unfold Rep at h ⊢; exact h
  | .int _, _, _, h => by unfold DL.frz; unfold Rep at h ⊢; exact h
  | .str _, _, _, h => by unfold DL.frz; unfold Rep at h ⊢; exact h
  | .ty _, _, _, h => by unfold DL.frz; unfold Rep at h ⊢; exact h
  | .cl _, _, _, h => by unfold DL.frz; unfold Rep at h ⊢; exact h
  | .exc a dd f e, _, q, h => by
    unfold DL.frz at q ⊢
    unfold Rep at h ⊢
    simp only [RefIn] at q
    obtain ⟨rfl, g, pp, u, r, t⟩ := h
    exact ⟨rfl, h2 _ g, pp, u, r, Rep.frz h2 hp q t⟩
  | .scr ns, _, _, h => by
    unfold DL.frz
    unfold Rep at h ⊢
    obtain ⟨a, rfl, z, ⟨⟨u, h⟩, g⟩ | ⟨h, g, pp⟩ | h⟩ := h
    · exact ⟨a, rfl, z, .inl ⟨⟨u, h⟩, h2 _ g⟩⟩
    · exact ⟨a, rfl, z, .inr (.inl ⟨h, h2 _ g, pp⟩)⟩
    · exact ⟨a, rfl, z, .inr (.inr h)⟩
  | .ref a, v, q, h => by
    unfold DL.frz at q ⊢
    by_cases e : a = p
    · rw [if_pos e]
      unfold Rep at h
      obtain ⟨rfl, _⟩ := h
      rw [e]; exact hp
    · rw [if_neg e] at q ⊢
      unfold Rep at h ⊢
      simp only [RefIn] at q
      exact ⟨h.1, q⟩
  | .lst es, _, q, h => by
    unfold DL.frz at q ⊢
    simp only [RefIn] at q
    unfold Rep at h ⊢
    obtain ⟨a, xs, rfl, g, p', r, z, t⟩ := h
    exact ⟨a, xs, rfl, h2 _ g, p', r, by rw [frzs_len]; exact z, Reps.frz h2 hp q t⟩
  | .tup es, _, q, h => by
    unfold DL.frz at q ⊢
    simp only [RefIn] at q
    unfold Rep at h ⊢
    obtain ⟨a, xs, rfl, g, p', r, z, t⟩ := h
    exact ⟨a, xs, rfl, h2 _ g, p', r, by rw [frzs_len]; exact z, Reps.frz h2 hp q t⟩
  | .dct ks es, _, q, h => by
    unfold DL.frz at q ⊢
    simp only [RefIn] at q
    unfold Rep at h ⊢
    obtain ⟨a, xs, rfl, g, p', r, z, t⟩ := h
    exact ⟨a, xs, rfl, h2 _ g, p', r, by rw [frzs_len]; exact z, Reps.frz h2 hp q t⟩
theorem Reps.frz {P : Addr → Prop} {G G2 : Gp} {H : Hp} {p : Addr} {ds : List D} (h2 : ∀ a, G a = none → G2 a = none) (hp : Rep K H G2 P (.lst ds) (.ref p)) : ∀ {es : List D} {vs : List V}, RefIns G2 (frzs p ds es) → Reps K H G P es vs → Reps K H G2 P (frzs p ds es) vs
  | [], _, _, h => by unfold frzs; unfold Reps at h ⊢; exact h
  | d :: es, _, q, h => by
    unfold frzs at q ⊢
    simp only [RefIns] at q
    unfold Reps at h ⊢
    obtain ⟨x, r, rfl, h1, h3⟩ := h
    exact ⟨x, r, rfl, Rep.frz h2 hp q.1 h1, Reps.frz h2 hp q.2 h3⟩
end
end
theorem fz_frz {G0 G' G2 : Gp} {p : Addr} {ds : List D} {d : D} (h1 : ∀ a o, G2 a = some o → G' a = some o) (h0 : ∀ a o, G0 a = some o → ∃ o', G2 a = some o') (hc : ∀ a o, G2 a = some o → RefO G2 o ∨ G0 a = some o) (e : G' p = some (.lst ds)) (n : G2 p = none) (hd : RefIns G2 ds) (hr : RefIn G2 (frz p ds d)) : Fz G0 d G' (frz p ds d) G2 := fun K P H0 H v w0 st w r => by
  have h2 : ∀ a, G' a = none → G2 a = none := fun a e => by
    cases q : G2 a with
    | none => rfl
    | some o => rw [h1 a o q] at e; cases e
  obtain ⟨a1, a2, a3⟩ := fz_lstS (p := p) h1 h0 hc e n hd K P H0 H (.ref p) w0 st w (by unfold Rep; exact ⟨rfl, _, e⟩)
  exact ⟨a1, a2, Rep.frz h2 a3 hr r⟩
theorem fin_frz {G0 G' G2 : Gp} {Q : DK} {p : Addr} {ds : List D} {d : D} (h1 : ∀ a o, G2 a = some o → G' a = some o) (h0 : ∀ a o, G0 a = some o → ∃ o', G2 a = some o') (hc : ∀ a o, G2 a = some o → RefO G2 o ∨ G0 a = some o) (e : G' p = some (.lst ds)) (n : G2 p = none) (hd : RefIns G2 ds) (hr : RefIn G2 (frz p ds d)) (q : Q (frz p ds d) G2) : (fin G0 Q).rt d G' := ⟨_, G2, fz_frz h1 h0 hc e n hd hr, q⟩
end DL
set_option Elab.async false
set_option linter.all false
set_option maxRecDepth 100000
set_option maxHeartbeats 4000000
namespace DL
open PySem PySem.Spec PyProof.Rows L2
theorem stays_of {G : Gp} {x : D} {ds : List D} (h : lkL G x = some ds) : stays x ds G := by
  cases x with
  | ref a =>
    simp only [lkL] at h
    simp only [stays]
    split at h
    · rename_i e; rw [e]; cases h; rfl
    · cases h
  | _ => exact True.intro
end DL
set_option Elab.async false
set_option linter.all false
set_option maxRecDepth 100000
set_option maxHeartbeats 4000000
namespace DL
open PySem PySem.Spec PyProof.Rows L2
end DL
set_option Elab.async false
set_option linter.all false
set_option maxRecDepth 100000
set_option maxHeartbeats 4000000
namespace DL
open PySem PySem.Spec PyProof.Rows L2
/-- the greatest of some ints that is no more than m -/
theorem max_le (L : List Int) (m : Int) : (∀ x ∈ L, m < x) ∨ ∃ a ∈ L, a ≤ m ∧ ∀ x ∈ L, ¬ (a < x ∧ x ≤ m) := by
  induction L with
  | nil => exact .inl (by simp)
  | cons y L ih =>
    rcases ih with h | ⟨a, ha, h1, h2⟩
    · by_cases hy : y ≤ m
      · refine .inr ⟨y, List.mem_cons_self, hy, fun x hx q => ?_⟩
        rcases List.mem_cons.mp hx with z | z
        · omega
        · have := h x z; omega
      · refine .inl fun x hx => ?_
        rcases List.mem_cons.mp hx with z | z
        · omega
        · exact h x z
    · by_cases hy : a < y ∧ y ≤ m
      · refine .inr ⟨y, List.mem_cons_self, hy.2, fun x hx q => ?_⟩
        rcases List.mem_cons.mp hx with z | z
        · omega
        · exact h2 x z ⟨by omega, q.2⟩
      · refine .inr ⟨a, List.mem_cons_of_mem _ ha, h1, fun x hx q => ?_⟩
        rcases List.mem_cons.mp hx with z | z
        · subst z; exact hy q
        · exact h2 x z q
theorem atI_lastG {α : Type} {l : List α} {d : α} (h : l.getLast? = some d) : atI l (-1) = some d := by
  obtain ⟨ys, rfl⟩ := List.getLast?_eq_some_iff.mp h
  have e : ixN (ys ++ [d]).length (-1) = some ys.length := by
    unfold ixN
    simp
    omega
  unfold atI
  rw [e]
  simp
end DL
set_option Elab.async false
set_option linter.all false
set_option maxRecDepth 100000
set_option maxHeartbeats 4000000
namespace DL
open PySem PySem.Spec PyProof.Rows L2
end DL
set_option Elab.async false
set_option linter.all false
set_option maxRecDepth 100000
set_option maxHeartbeats 4000000
namespace DL
open PySem PySem.Spec PyProof.Rows L2
theorem map_range_st (bk : List Stretch) : (List.range bk.length).map (st bk) = bk := by
  apply List.ext_getElem (by simp)
  intro i h1 h2
  simp [st, List.getD_eq_getElem?_getD, List.getElem?_eq_getElem h2]
end DL
set_option Elab.async false
set_option linter.all false
set_option maxRecDepth 100000
set_option maxHeartbeats 4000000
namespace DL
open PySem PySem.Spec PyProof.Rows L2
def F_is_whole : Sf := fun ds G Q => ∃ (d : D) (n : String) (a b : Bool), ds = [d] ∧ tyD G d = some n ∧ kitB n "int" = some a ∧ kitB n "bool" = some b ∧ Q (.bl (a && !b)) G
def r_is_whole : ES :=
  (sRet (eAndT (eCB cIsi (eCons (eVar 0) (eCons (eC (.ty "int")) eNil))) (eNotT (eCB cIsi (eCons (eVar 0) (eCons (eC (.ty "bool")) eNil))))))
theorem d_is_whole (ds : List D) (G : Gp) (Q : DK) (h : F_is_whole ds G Q) : r_is_whole (fin G Q) (startD 1 ds) G := by
  obtain ⟨d, n, a, b, rfl, e1, e2, e3, k⟩ := h
  simp [r_is_whole, startD, e1, e2, e3]
  cases a with
  | true => simp at k ⊢; exact fin_id k
  | false => simp at k ⊢; exact fin_id k
end DL
set_option Elab.async false
set_option linter.all false
set_option maxRecDepth 100000
set_option maxHeartbeats 4000000
namespace DL
open PySem PySem.Spec PyProof.Rows L2
structure RSOk (n : Int) (s : Stretch) : Prop where
  nm : NameOk s.name
  b0 : 0 ≤ s.b
  b1 : s.b < n
  e1 : 1 ≤ s.e
  e2 : s.e ≤ n
  w0 : 0 ≤ s.w
  w1 : s.w ≤ 1000000000000
structure RgOk (n : Int) (rs : List Stretch) : Prop where
  n1 : 1 ≤ n
  n2 : n ≤ 40
  len : rs.length ≤ 24
  all : ∀ s ∈ rs, RSOk n s
  nd : (rs.map Stretch.name).Nodup
def ringD (n : Int) (rs : List Stretch) : D := .tup [.int n, .lst (rs.map Stretch.d)]
@[simp ↓ high] theorem ixr_0 {n : Int} {rs : List Stretch} {G : Gp} {Q : DK} : oIx (ringD n rs) (.int 0) G Q = Q (.int n) G := by simp [ringD, atI, ixN]
@[simp ↓ high] theorem ixr_1 {n : Int} {rs : List Stretch} {G : Gp} {Q : DK} : oIx (ringD n rs) (.int 1) G Q = Q (.lst (rs.map Stretch.d)) G := by simp [ringD, atI, ixN]
def F__law_ring : Sf := fun ds G Q => ∃ a most x y z, ds = [.ref a, .int most] ∧ G a = some (stO x y z) ∧ Ok3 x y z ∧ 0 ≤ most ∧ most ≤ 24 ∧ ∀ n rs x' y' z', Ok3 x' y' z' → RgOk n rs → (rs.length : Int) ≤ most → Q (ringD n rs) (gput G a (stO x' y' z'))
def r__law_ring_L1 : ES :=
  (sSeq (sAsg (eCall F__law_take (eCons (eVar 0) (eCons (eVar 2) eNil))) (.nm 5))
  (sSeq (sAsg (eOp oAdd (eC (.int 1)) (eCall F__law_take (eCons (eVar 0) (eCons (eOp oIx (eLst (eCons (eVar 2) (eCons (eOp oAdd (eC (.int 1)) (eOp oDivW (eVar 2) (eC (.int 3)))) eNil))) (eCall F__law_take (eCons (eVar 0) (eCons (eC (.int 2)) eNil)))) eNil)))) (.nm 6))
  (sSeq (sIf (eAnd (eT (eOp oGt (eVar 4) (eC (.int 0)))) (eT (eOp oEq (eCall F__law_take (eCons (eVar 0) (eCons (eC (.int 6)) eNil))) (eC (.int 0))))) (sAsg (eSlT (eOp oIx (eVar 3) (eUn oNeg (eC (.int 1)))) (ePart (eC (.int 1))) (ePart (eC (.int 3)))) (.tp [5, 6])) sNext)
  (sSeq (sAsg (eCall F__law_take (eCons (eVar 0) (eCons (eOp oIx (eLst (eCons (eC (.int 4)) (eCons (eC (.int 12)) (eCons (eC (.int 100)) (eCons (eOp oAdd (eOp oPow (eC (.int 10)) (eC (.int 12))) (eC (.int 1))) eNil))))) (eCall F__law_take (eCons (eVar 0) (eCons (eC (.int 4)) eNil)))) eNil))) (.nm 7))
  (sDrop (eBm mApp (eVar 3) (eCons (eTup (eCons (eCall F__law_name (eCons (eVar 0) (eCons (eVar 4) eNil))) (eCons (eVar 5) (eCons (eCB cMin2 (eCons (eVar 2) (eCons (eVar 6) eNil))) (eCons (eVar 7) eNil))))) eNil)))))))
def r__law_ring : ES :=
  (sSeq (sAsg (eOp oAdd (eC (.int 1)) (eCall F__law_take (eCons (eVar 0) (eCons (eOp oIx (eLst (eCons (eC (.int 1)) (eCons (eC (.int 4)) (eCons (eC (.int 9)) (eCons (eC (.int 40)) eNil))))) (eCall F__law_take (eCons (eVar 0) (eCons (eC (.int 4)) eNil)))) eNil)))) (.nm 2))
  (sSeq (sAsg (eLstO eNil) (.nm 3))
  (sSeq (sFor (iR1 (eCons (eCall F__law_take (eCons (eVar 0) (eCons (eOp oAdd (eVar 1) (eC (.int 1))) eNil))) eNil)) (.nm 4) r__law_ring_L1)
  (sRet (eTup (eCons (eVar 2) (eCons (eVar 3) eNil)))))))
theorem d__law_ring (ds : List D) (G : Gp) (Q : DK) (h : F__law_ring ds G Q) : r__law_ring (fin G Q) (startD 8 ds) G := by
  obtain ⟨a, most, x, y, z, rfl, hG, ok, h0, h1, k⟩ := h
  refine seq_gen fun W hW => ?_
  simp [startD]
  refine ⟨by decide, take_ok hG ok (wd_of (by decide) (by decide)) fun i x y z ok i0 i1 => ?_⟩
  obtain ⟨c, ec, hc⟩ := ints_at (l := [1, 4, 9, 40]) i0 (by simpa using i1)
  simp only [List.map_cons, List.map_nil] at ec
  simp [ec]
  have hc2 : 0 < c ∧ c ≤ 40 := by simp at hc; omega
  refine take_ok gput_same ok (wd_of (by omega) (by omega)) fun n x y z ok n0 n1 => ?_
  simp [gput_gput]
  refine hW _ _ (seq_gen fun W2 hW2 => ?_)
  have hn1 : 1 ≤ 1 + n := by omega
  have hn2 : 1 + n ≤ 40 := by omega
  generalize 1 + n = n at *
  simp
  intro q hq
  have hqa : q ≠ a := fun e => by subst e; rw [gput_same] at hq; cases hq
  rw [gput_ne hqa] at hq
  have swp : ∀ (x y z x' y' z' : Int) (o : GO), gput (gput (gput G a (stO x y z)) q o) a (stO x' y' z') = gput (gput G a (stO x' y' z')) q o := fun x y z x' y' z' o => gput_swap hqa
  have hat : ∀ (x y z : Int) (o : GO), gput (gput G a (stO x y z)) q o a = some (stO x y z) := fun x y z o => by rw [gput_ne hqa.symm, gput_same]
  refine hW2 _ _ (seq_gen fun W3 hW3 => ?_)
  simp
  refine take_ok (hat _ _ _ _) ok (wd_of (by omega) (by omega)) fun many x y z ok m0 m1 => ?_
  simp [swp]
  refine ⟨by omega, by omega, ?_⟩
  have loop : ∀ (m j : Nat) (rs : List Stretch) (x y z : Int) (o4 o5 o6 o7 : Option D), rs.length = j → (j : Int) + m ≤ most → Ok3 x y z → (∀ s ∈ rs, RSOk n s) → LastAt rs →
      forW (.nm 4) r__law_ring_L1 (fun _ => True) { nx := W3, rt := (fin G Q).rt, bk := (fin G Q).bk, ct := (fin G Q).ct, xr := (fin G Q).xr } (rngD (j : Nat) m) [some (.ref a), some (.int most), some (.int n), some (.ref q), o4, o5, o6, o7] (gput (gput G a (stO x y z)) q (.lst (rs.map Stretch.d))) := by
    intro m
    induction m with
    | zero =>
      intro j rs x y z o4 o5 o6 o7 hj hm ok hr hla
      rw [rngD_zero]
      refine ⟨trivial, hW3 _ _ ?_⟩
      simp
      refine ⟨by decide, ?_⟩
      have ef : frz q (rs.map Stretch.d) (.tup [.int n, .ref q]) = ringD n rs := by simp [frz, frzs, ringD]
      refine fin_frz (G2 := gput G a (stO x y z)) (p := q) (ds := rs.map Stretch.d) ?_ ?_ ?_ gput_same (by rw [gput_ne hqa]; exact hq) (refIns_plain (plain_book rs)) ?_ ?_
      · intro b u e
        by_cases hbq : b = q
        · subst hbq; rw [gput_ne hqa, hq] at e; cases e
        · rw [gput_ne hbq]; exact e
      · intro b u e
        by_cases hba : b = a
        · subst hba; exact ⟨_, gput_same⟩
        · exact ⟨u, by rw [gput_ne hba]; exact e⟩
      · intro b u e
        by_cases hba : b = a
        · subst hba; rw [gput_same] at e; cases e; exact .inl (by simp [RefO, stO, RefIns, RefIn])
        · rw [gput_ne hba] at e; exact .inr e
      · rw [ef]; exact refIn_plain (by simp [ringD, plainD, plainDs]; exact plain_book rs)
      · rw [ef]; exact k n rs x y z ok ⟨hn1, hn2, by omega, hr, last_nodup hla⟩ (by omega)
    | succ m ih =>
      intro j rs x y z o4 o5 o6 o7 hj hm ok hr hla
      rw [rngD_succ]
      refine ⟨trivial, seq_gen fun W4 hW4 => ?_⟩
      simp
      refine take_ok (hat _ _ _ _) ok (wd_of (by omega) (by omega)) fun b x y z ok b0 b1 => ?_
      simp [swp]
      refine hW4 _ _ (seq_gen fun W5 hW5 => ?_)
      simp
      refine ⟨⟨by decide, by decide⟩, by decide, take_ok (hat _ _ _ _) ok (wd_of (by decide) (by decide)) fun i x y z ok i0 i1 => ?_⟩
      obtain ⟨c, ec, hc⟩ := ints_at (l := [n, 1 + n / 3]) i0 (by simpa using i1)
      simp only [List.map_cons, List.map_nil] at ec
      simp [ec, swp]
      have hc2 : 0 < c ∧ c ≤ 40 := by simp at hc; omega
      refine take_ok (hat _ _ _ _) ok (wd_of (by omega) (by omega)) fun e x y z ok e0 e1 => ?_
      simp [swp]
      refine hW5 _ _ (seq_gen fun W6 hW6 => ?_)
      -- the tail, whatever begin and span
      have tail : ∀ (b e x y z : Int), Ok3 x y z → 0 ≤ b → b < n → 1 ≤ e → W6 [some (.ref a), some (.int most), some (.int n), some (.ref q), some (.int (j : Nat)), some (.int b), some (.int e), o7] (gput (gput G a (stO x y z)) q (.lst (rs.map Stretch.d))) := by
        intro b e x y z ok b0 b1 e1
        refine hW6 _ _ (seq_gen fun W7 hW7 => ?_)
        simp
        refine ⟨⟨by decide, by decide, by decide⟩, by decide, take_ok (hat _ _ _ _) ok (wd_of (by decide) (by decide)) fun i x y z ok i0 i1 => ?_⟩
        obtain ⟨c, ec, hc⟩ := ints_at (l := [4, 12, 100, 1000000000001]) i0 (by simpa using i1)
        simp only [List.map_cons, List.map_nil] at ec
        simp [ec, swp]
        have hc2 : 0 < c ∧ c ≤ 1000000000001 := by simp at hc; omega
        refine take_ok (hat _ _ _ _) ok (wd_of (by omega) (by omega)) fun w x y z ok w0 w1 => ?_
        simp [swp]
        refine hW7 _ _ ?_
        simp [gput_same]
        refine ⟨a, (j : Int), x, y, z, rfl, hat _ _ _ _, ok, by omega, by omega, fun nm x y z ok hnm hlast => ?_⟩
        simp [swp, gput_same, gput_gput]
        refine ⟨by decide, Nat.lt_of_le_of_lt (by omega : rs.length ≤ 100) (by decide), ?_⟩
        have := ih (j + 1) (rs ++ [⟨nm, b, if e < n then e else n, w⟩]) x y z (some (.int (j : Nat))) (some (.int b)) (some (.int e)) (some (.int w)) (by simp [hj]) (by omega) ok ?_ ?_
        · simpa [Stretch.d] using this
        · intro s hs
          rcases List.mem_append.mp hs with t | t
          · exact hr s t
          · simp at t
            subst t
            exact ⟨hnm, b0, b1, by simp only; split <;> omega, by simp only; split <;> omega, by simp only; omega, by simp only; omega⟩
        · intro i s es
          rcases Nat.lt_or_ge i rs.length with t | t
          · rw [List.getElem?_append_left t] at es; exact hla i s es
          · rw [List.getElem?_append_right t] at es
            have : i = rs.length := by
              rcases Nat.lt_or_ge 0 (i - rs.length) with u | u
              · rw [List.getElem?_eq_none (by simp; omega)] at es; cases es
              · omega
            subst this
            simp at es
            subst es
            simp [hj] at hlast ⊢
            exact hlast
      simp
      by_cases hj0 : 0 < j
      · simp [hj0]
        refine take_ok (hat _ _ _ _) ok (wd_of (by decide) (by decide)) fun t x y z ok t0 t1 => ?_
        simp [swp]
        split
        · obtain ⟨s, hs⟩ : ∃ s, rs.getLast? = some s := by
            have : rs ≠ [] := fun e => by subst e; simp at hj; omega
            rw [List.getLast?_eq_some_getLast this]; exact ⟨_, rfl⟩
          have hat2 : atI (rs.map Stretch.d) (-1) = some s.d := atI_lastG (by rw [List.getLast?_map, hs]; rfl)
          have hsm : s ∈ rs := List.mem_of_getLast? hs
          have hso := hr s hsm
          simp [gput_same, hat2]
          have ecut : ∀ d1 d2 d3 d4 : D, cutD [d1, d2, d3, d4] (some 1) (some 3) = [d2, d3] := fun _ _ _ _ => rfl
          simp [Stretch.d, ecut]
          exact ⟨by decide, tail s.b s.e x y z ok hso.b0 hso.b1 hso.e1⟩
        · exact tail b (1 + e) x y z ok b0 b1 (by omega)
      · simp [hj0]
        exact tail b (1 + e) x y z ok b0 b1 (by omega)
  have := loop many.toNat 0 [] x y z none none none none rfl (by omega) ok (by simp) (fun j s e => by simp at e)
  simpa using this
end DL
set_option Elab.async false
set_option linter.all false
set_option maxRecDepth 100000
set_option maxHeartbeats 4000000
namespace DL
open PySem PySem.Spec PyProof.Rows L2
end DL
set_option Elab.async false
set_option linter.all false
set_option maxRecDepth 100000
set_option maxHeartbeats 4000000
namespace L2
open PySem PySem.Spec PyProof.Rows
end L2
namespace DL
open PySem PySem.Spec PyProof.Rows L2
@[simp] def eChain3 (r r' r'' : OD) (ta tb tc td : EE) : EE := fun s G Q => ta s G fun x G1 => tb s G1 fun y G2 => r x y G2 fun z G3 => match z with
  | .bl k => if k = true then tc s G3 fun w G4 => r' y w G4 fun z' G5 => (match z' with
    | .bl k' => if k' = true then td s G5 fun v G6 => r'' w v G6 Q else Q (.bl false) G5
    | _ => False) else Q (.bl false) G3
  | _ => False
section
variable {X : Cx} {K : PySem.W.Frag} {a b c d : Expr} {ea eb ec ed : EE} {pos : Pos}
/-- lists joined: a new one, owned -/
@[simp] def oAddO : OD := fun x y G Q => match lkL G x, lkL G y with
  | some ds, some es => (∀ ns, x ≠ .scr ns) ∧ (∀ ns, y ≠ .scr ns) ∧ ds.length + es.length ≤ sizeLine ∧ ∀ p, G p = none → Q (.ref p) (gput G p (.lst (ds ++ es)))
  | _, _ => False
/-- tuples joined -/
@[simp] def oCatT : OD := fun x y G Q => match x, y with
  | .tup ds, .tup es => ds.length + es.length ≤ sizeLine ∧ Q (.tup (ds ++ es)) G
  | _, _ => False
/-- a list so many times -/
@[simp] def oRep : OD := fun x y G Q => match lkL G x, y with
  | some ds, .int k => (∀ ns, x ≠ .scr ns) ∧ -(2 ^ 63) ≤ k ∧ k < 2 ^ 63 ∧ ds.length * k.toNat ≤ sizeLine ∧ Q (.lst (List.replicate k.toNat ds).flatten) G
  | _, _ => False
theorem reps_rep {P : Addr → Prop} {G : Gp} {H : Hp} {ds : List D} {xs : List V} (q : Reps K H G P ds xs) : ∀ n, Reps K H G P (List.replicate n ds).flatten (List.replicate n xs).flatten
  | 0 => reps_nil
  | n + 1 => by rw [List.replicate_succ, List.replicate_succ, List.flatten_cons, List.flatten_cons]; exact q.append (reps_rep q n)
theorem lo_rep : LO K rRep oRep := fun P G H x y u v Q R h w rx ry k => by
  unfold oRep at h
  split at h
  · rename_i ds kk e1
    obtain ⟨n1, k1, k2, z, q⟩ := h
    rw [rep_i ry]
    obtain ⟨a, xs, rfl, r1, q1, z1⟩ := lk_hp w rx e1 n1
    refine ⟨a, kk, xs, rfl, rfl, r1, k1, k2, by rw [← q1.length]; exact z, fun p hp => ?_⟩
    obtain ⟨f1, f2⟩ := w.fresh hp
    have st : Step G H G (upd H p (.lst (List.replicate kk.toNat xs).flatten)) := Step.new hp
    exact k _ G _ _ st (w.new hp) (rep_lst f1 f2 upd_same (by simp [List.length_flatten]; rw [Nat.mul_comm]; exact z) ((reps_rep q1 _).step st)) q
  · exact h.elim
theorem j_rep (ha : JE X a ea) (hb : JE X b eb) : JE X (.BinOp a .Mult b pos) (eOp oRep ea eb) := j_bin op_rep lo_rep ha hb
/-- a text's slice -/
@[simp] def eSlS (te : EE) (tl th : EO) : EE := fun s G Q => te s G fun x G1 => tl s G1 fun l G2 => th s G2 fun u G3 => match x with
  | .str z => z.length ≤ sizeLine ∧ Q (.str (Txt.slice z l u)) G3
  | _ => False
/-- tuple(x) of a list or a tuple -/
@[simp] def cTuple : CD := fun xs G Q => match xs with
  | [.tup ds] => Q (.tup ds) G
  | [x] => (match lkL G x with
    | some ds => Q (.tup ds) G
    | none => False)
  | _ => False
theorem lc_tuple : LC K (fun xs H Q => ∃ p ys, xs = [.ref p] ∧ ((SqL K H p ys ∧ ∀ l, H l = none → Q (.ref l) (upd H l (.tup ys))) ∨ (SqT K H p ys ∧ Q (.ref p) H))) cTuple := fun P G H xs us Q R h w r k => by
  unfold cTuple at h
  split at h
  · obtain ⟨u, rfl, r1⟩ := reps1 r
    have r1' := r1
    obtain ⟨a, ys, rfl, g, p, rr, z, q⟩ := rep_t r1
    exact ⟨a, ys, rfl, .inr ⟨SqT.of rr, k _ G _ H (Step.refl _ _) w r1' h⟩⟩
  · obtain ⟨u, rfl, r1⟩ := reps1 r
    split at h
    · rename_i ds e
      obtain ⟨a, ys, rfl, s, q, z⟩ := lk_sq w r1 e
      refine ⟨a, ys, rfl, .inl ⟨s, fun p hp => ?_⟩⟩
      obtain ⟨f1, f2⟩ := w.fresh hp
      have st : Step G H G (upd H p (.tup ys)) := Step.new hp
      exact k _ G _ _ st (w.new hp) (rep_tup f1 f2 upd_same z (q.step st)) h
    · exact h.elim
  · exact h.elim
end
end DL
set_option Elab.async false
set_option linter.all false
set_option maxRecDepth 100000
set_option maxHeartbeats 4000000
namespace L2
open PySem PySem.Spec PyProof.Rows
section
variable {X : Cx}
def repS (z : Str) (n : Nat) : Str := ⟨(List.replicate n z.cps).foldl (· ++ ·) #[]⟩
/-- a text so many times (two at least) -/
def rRepS : R2 := fun x y H Q => ∃ (z : Str) (k : Int), x = .str z ∧ y = .int k ∧ 2 ≤ k ∧ k ≤ 1000 ∧ 0 < z.length ∧ z.length ≤ 1000 ∧ Q (.str (repS z k.toNat)) H
theorem long_ok {z : Str} {k : Int} (k1 : 2 ≤ k) (k2 : k ≤ 1000) (z2 : z.length ≤ 1000) : PySem.Builtin.Str.tooLong (z.length * k.toNat) = false := by
  have h1 : z.length * k.toNat ≤ 1000 * 1000 := Nat.mul_le_mul z2 (by omega)
  have h2 : 1000 * 1000 ≤ sizeLine := by decide
  unfold PySem.Builtin.Str.tooLong
  simp
  omega
theorem op_repS : OpR X (binaryOp .Mult) rRepS := by
  intro pins s σ H x y v u Q I rx ry h
  obtain ⟨z, k, rfl, rfl, k1, k2, z1, z2, q⟩ := h
  obtain ⟨t, rfl⟩ := rx
  obtain ⟨t', rfl⟩ := ry
  have e1 : ¬ k < 1 := by omega
  have e2 : (k == 1 || z.length == 0) = false := by
    rw [Bool.or_eq_false_iff]
    exact ⟨by simp; omega, by simp; omega⟩
  refine PySem.P.mul_str ?_ (fun _ _ => ?_) (fun _ _ => ?_) ?_
  · rw [decide_eq_false (by omega), decide_eq_false (by omega)]; rfl
  · have : (1000 : Int) ≤ (2 ^ 63 - 1) / k := Int.le_ediv_of_mul_le (by omega) (by omega)
    omega
  · exact long_ok (z := z) (k := k) k1 k2 z2
  · rw [if_neg e1, e2]
    exact ⟨PySem.fits_reps (long_ok k1 k2 z2), .str (repS z k.toNat), H, I.tok _, ⟨_, rfl⟩, q⟩
end
end L2
namespace DL
open PySem PySem.Spec PyProof.Rows L2
@[simp] def oRepS : OD := fun x y G Q => match x, y with
  | .str z, .int k => 2 ≤ k ∧ k ≤ 1000 ∧ 0 < z.length ∧ z.length ≤ 1000 ∧ Q (.str (repS z k.toNat)) G
  | _, _ => False
section
variable {X : Cx} {K : PySem.W.Frag} {a b : Expr} {ea eb : EE} {pos : Pos}
theorem lo_repS : LO K rRepS oRepS := fun P G H x y u v Q R h w rx ry k => by
  unfold oRepS at h
  split at h
  · rename_i z kk
    rw [rep_s rx, rep_i ry]
    obtain ⟨h1, h2, h3, h4, h5⟩ := h
    exact ⟨z, kk, rfl, rfl, h1, h2, h3, h4, k _ G _ H (Step.refl _ _) w rep_str h5⟩
  · exact h.elim
theorem j_repS (ha : JE X a ea) (hb : JE X b eb) : JE X (.BinOp a .Mult b pos) (eOp oRepS ea eb) := j_bin op_repS lo_repS ha hb
end
end DL
set_option Elab.async false
set_option linter.all false
set_option maxRecDepth 100000
set_option maxHeartbeats 4000000
namespace DL
open PySem PySem.Spec PyProof.Rows L2
@[simp] theorem sizeLine_lit : sizeLine = 16777216 := by decide
@[simp] theorem cpow_10 {n : Int} : CPow 10 n ↔ 0 ≤ n ∧ n ≤ 1000000 := by
  unfold CPow
  exact ⟨fun h => ⟨h.1, h.2.1⟩, fun h => ⟨h.1, h.2, by decide⟩⟩
end DL
set_option Elab.async false
set_option linter.all false
set_option maxRecDepth 100000
set_option maxHeartbeats 4000000
namespace PySem
end PySem
namespace L2
open PySem PySem.Spec PyProof.Rows
end L2
namespace DL
open PySem PySem.Spec PyProof.Rows L2
/-- max(xs, default=d) -/
@[simp] def eMaxD (te td : EE) : EE := fun s G Q => te s G fun x G1 => td s G1 fun d G2 => match (lkL G2 x).bind intsD with
  | some ns => (ns = [] → Q d G2) ∧ (ns ≠ [] → ∀ m, m ∈ ns → (∀ y, y ∈ ns → y ≤ m) → Q (.int m) G2)
  | none => False
end DL
set_option Elab.async false
set_option linter.all false
set_option maxRecDepth 100000
set_option maxHeartbeats 4000000
namespace L2
open PySem PySem.Spec PyProof.Rows PySem.W
end L2
namespace DL
open PySem PySem.Spec PyProof.Rows L2 PySem.W
/-- sorted(xs), xs alike data: a new list, frozen -/
@[simp] def cSrtD : CD := fun xs G Q => match xs with
  | [x] => (match lkL G x with
    | some ds => (match toPys G ds with
      | some ps => AllAlike ps ∧ Sortable ps ∧ (∀ p ∈ ps, p.depth ≤ 40) ∧ Q (.lst (((ds.zip ps).mergeSort (dataLe false (fun z : D × PyData => z.2))).map (·.1))) G
      | none => False)
    | none => False)
  | _ => False
end DL
set_option Elab.async false
set_option linter.all false
set_option maxRecDepth 100000
set_option maxHeartbeats 4000000
namespace DL
open PySem PySem.Spec PyProof.Rows L2
theorem ofStr_injective {a b : String} (h : Str.ofString a = Str.ofString b) : a = b := by
  rw [Str.ofString_eq_toList, Str.ofString_eq_toList] at h
  simp only [Str.mk.injEq] at h
  have h2 := congrArg Array.toList h
  simp only [List.toList_toArray] at h2
  have h3 : a.toList = b.toList := (List.map_inj_right (fun x y e => Char.toNat_inj.mp e)).mp h2
  exact String.toList_inj.mp h3
@[simp] theorem ofStr_eq {a b : String} : Str.ofString a = Str.ofString b ↔ a = b := ⟨ofStr_injective, fun h => by rw [h]⟩
@[simp] def lkF (f : Str) : List Str → List D → Option D
  | k :: ks, d :: ds => if k = f then some d else lkF f ks ds
  | _, _ => none
@[simp] def putFk (f : Str) : List Str → List Str
  | [] => [f]
  | k :: ks => if k = f then k :: ks else k :: putFk f ks
@[simp] def putFv (f : Str) (y : D) : List Str → List D → List D
  | k :: ks, d :: ds => if k = f then y :: ds else d :: putFv f y ks ds
  | _, _ => [y]
section
variable {X : Cx} {Y : Wx} {K : PySem.W.Frag} {P : Addr → Prop} {G : Gp} {H : Hp} {C f : Str}
/-- o.f, an instance of the class named C -/
@[simp] def eFld (C f : Str) (te : EE) : EE := fun s G Q => te s G fun x G1 => match x with
  | .ref a => (match G1 a with
    | some (.ins C' _ ks ds) => C' = C ∧ (match lkF f ks ds with
      | some d => Q d G1
      | none => False)
    | _ => False)
  | _ => False
/-- o.f = e -/
@[simp] def sFldD (C f : Str) (te to : EE) : ES := fun N s G => te s G fun v G1 => to s G1 fun o G2 => match o with
  | .ref a => (match G2 a with
    | some (.ins C' dx ks ds) => C' = C ∧ ks.length < 1000 ∧ N.nx s (gput G2 a (.ins C dx (putFk f ks) (putFv f v ks ds)))
    | _ => False)
  | _ => False
/-- an instance of the class named C without a field m of its own -/
@[simp] def isIns (C m : Str) (G : Gp) : D → Prop
  | .ref a => (match G a with
    | some (.ins C' _ ks _) => C' = C ∧ m ∉ ks
    | _ => False)
  | _ => False
/-- o.m(..) -/
@[simp] def eMeth (C m : Str) (F : Sf) (to : EE) (t : EA) : EE := fun s G Q => to s G fun x G1 => isIns C m G1 x ∧ t s G1 fun xs G2 => F (x :: xs) G2 Q
/-- C(..) -/
@[simp] def eMake (C : Str) (F : Sf) (t : EA) : EE := fun s G Q => t s G fun xs G1 => ∀ x dx, G1 x = none → F (.ref x :: xs) (gput G1 x (.ins C dx [] [])) fun d G2 => d = .non ∧ Q (.ref x) G2
/-- a method as it stands behind the top -/
structure DfM (K : PySem.W.Frag) (C m q : Str) (st : Stmt) : Prop where
  ex : ∃ fd, FunD K m q (defArgs st) (defBody st) (defScope st) [] [] (He.ma K (He.ga K C) m) fd
end
end DL
set_option Elab.async false
set_option linter.all false
set_option maxRecDepth 100000
set_option maxHeartbeats 4000000
namespace LN
/-- sums over 0 .. n - 1 -/
def sumN : Nat → (Nat → Int) → Int
  | 0, _ => 0
  | n + 1, f => sumN n f + f n
def fup {α : Type} (f : Nat → α) (i : Nat) (x : α) : Nat → α := fun j => if j = i then x else f j
structure Sp3 where
  b : Nat
  e : Nat
  w : Int
inductive Kd where
  | idle | fill | unidle | unfill | take | leave
  deriving DecidableEq
structure Arc where
  u : Nat
  v : Nat
  g : Int
  k : Kd
  i : Nat
/-- the line's state -/
structure LS where
  n : Nat
  m : Nat
  sp : Nat → Sp3
  must : Nat → Int
  filled : Nat → Int
  idle : Nat → Int
  taken : Nat → Bool
  great : Int
abbrev Gn := Nat → Option Int
abbrev La := Nat → Option Arc
/-- one arc looked at; whether anything changed -/
structure RS where
  g : Gn
  l : La
  ch : Bool
/-- what a change makes less -/
def nones (n : Nat) (g : Gn) : Int := sumN n fun v => if g v = none then 1 else 0
def gap (n : Nat) (p : Nat → Int) (g : Gn) : Int := sumN n fun v => match g v with
  | none => 0
  | some x => p v - p 0 - x
def Less (n : Nat) (p : Nat → Int) (g' g : Gn) : Prop := nones n g' < nones n g ∨ (nones n g' = nones n g ∧ gap n p g' < gap n p g)
theorem Less.trans {n : Nat} {p : Nat → Int} {a b c : Gn} (h : Less n p a b) (k : Less n p b c) : Less n p a c := by
  unfold Less at *; omega
def start : RS := ⟨fup (fun _ => none) 0 (some 0), fun _ => none, true⟩
def go (S : LS) (a : Arc) : LS := match a.k with
  | .idle => { S with idle := fup S.idle a.i (S.idle a.i + 1) }
  | .unidle => { S with idle := fup S.idle a.i (S.idle a.i - 1) }
  | .fill => { S with filled := fup S.filled a.i (S.filled a.i + 1) }
  | .unfill => { S with filled := fup S.filled a.i (S.filled a.i - 1) }
  | .take => { S with taken := fup S.taken a.i true }
  | .leave => { S with taken := fup S.taken a.i false }
/-- the gain of all that was sent -/
def val (S : LS) : Int := sumN S.m (fun i => if S.taken i = true then (S.sp i).w else 0) + sumN S.n S.filled * S.great
end LN
set_option Elab.async false
set_option linter.all false
set_option maxRecDepth 100000
set_option maxHeartbeats 4000000
namespace DL
open PySem PySem.Spec PyProof.Rows L2 LN
def fnL (n : Nat) (f : Nat → D) : List D := (List.range n).map f
@[simp] theorem fnL_len {n : Nat} {f : Nat → D} : (fnL n f).length = n := by simp [fnL]
def kdS : Kd → Str
  | .idle => "idle"
  | .fill => "fill"
  | .unidle => "unidle"
  | .unfill => "unfill"
  | .take => "take"
  | .leave => "leave"
def arcD (a : Arc) : D := .tup [.int (a.u : Nat), .int (a.v : Nat), .int a.g, .str (kdS a.k), .int (a.i : Nat)]
def sp3D (s : Sp3) : D := .tup [.int (s.b : Nat), .int (s.e : Nat), .int s.w]
@[simp ↓ high] theorem ixa_0 {a : Arc} {G : Gp} {Q : DK} : oIx (arcD a) (.int 0) G Q = Q (.int (a.u : Nat)) G := by simp [arcD, atI, ixN]
@[simp ↓ high] theorem ixa_1 {a : Arc} {G : Gp} {Q : DK} : oIx (arcD a) (.int 1) G Q = Q (.int (a.v : Nat)) G := by simp [arcD, atI, ixN]
@[simp ↓ high] theorem ixa_2 {a : Arc} {G : Gp} {Q : DK} : oIx (arcD a) (.int 2) G Q = Q (.int a.g) G := by simp [arcD, atI, ixN]
def lineKs : List Str := ["own_spans", "own_must", "filled", "idle", "taken", "great"]
def lineDs (S : LN.LS) (af ai at_ : Addr) : List D := [.lst (fnL S.m fun i => sp3D (S.sp i)), .lst (fnL S.n fun k => .int (S.must k)), .ref af, .ref ai, .ref at_, .int S.great]
def lineO (S : LN.LS) (dx af ai at_ : Addr) : GO := .ins "Line" dx lineKs (lineDs S af ai at_)
section
variable {S : LN.LS} {af ai at_ : Addr}
@[simp] theorem lf_spans : lkF "own_spans" lineKs (lineDs S af ai at_) = some (.lst (fnL S.m fun i => sp3D (S.sp i))) := by simp [lineKs, lineDs]
@[simp] theorem lf_must : lkF "own_must" lineKs (lineDs S af ai at_) = some (.lst (fnL S.n fun k => .int (S.must k))) := by simp [lineKs, lineDs]
@[simp] theorem lf_filled : lkF "filled" lineKs (lineDs S af ai at_) = some (.ref af) := by simp [lineKs, lineDs]
@[simp] theorem lf_idle : lkF "idle" lineKs (lineDs S af ai at_) = some (.ref ai) := by simp [lineKs, lineDs]
@[simp] theorem lf_taken : lkF "taken" lineKs (lineDs S af ai at_) = some (.ref at_) := by simp [lineKs, lineDs]
@[simp] theorem lf_great : lkF "great" lineKs (lineDs S af ai at_) = some (.int S.great) := by simp [lineKs, lineDs]
@[simp] theorem lm_1 : ("piece_arcs" : Str) ∉ lineKs := by simp [lineKs]
@[simp] theorem lm_2 : ("span_arc" : Str) ∉ lineKs := by simp [lineKs]
@[simp] theorem lm_3 : ("arcs_left" : Str) ∉ lineKs := by simp [lineKs]
@[simp] theorem lm_4 : ("roads_told" : Str) ∉ lineKs := by simp [lineKs]
@[simp] theorem lm_5 : ("go_along" : Str) ∉ lineKs := by simp [lineKs]
@[simp] theorem lm_6 : ("send_unit" : Str) ∉ lineKs := by simp [lineKs]
@[simp] theorem lm_7 : ("greatest_over" : Str) ∉ lineKs := by simp [lineKs]
@[simp] theorem lm_8 : ("prices_now" : Str) ∉ lineKs := by simp [lineKs]
@[simp] theorem lm_9 : ("taken_now" : Str) ∉ lineKs := by simp [lineKs]
end
/-- a line stands at x -/
structure LnA (G : Gp) (x dx af ai at_ : Addr) (S : LN.LS) : Prop where
  ob : G x = some (lineO S dx af ai at_)
  fi : G af = some (.lst (fnL S.n fun k => .int (S.filled k)))
  id : G ai = some (.lst (fnL S.n fun k => .int (S.idle k)))
  tk : G at_ = some (.lst (fnL S.m fun i => .bl (S.taken i)))
  n1 : af ≠ ai
  n2 : af ≠ at_
  n3 : ai ≠ at_
  zn : S.n ≤ 1000
  zm : S.m ≤ 1000
end DL
set_option Elab.async false
set_option linter.all false
set_option maxRecDepth 100000
set_option maxHeartbeats 4000000
namespace DL
open PySem PySem.Spec PyProof.Rows L2 LN
theorem LnA.mono {G G' : Gp} {x dx af ai at_ : Addr} {S : LN.LS} (L : LnA G x dx af ai at_ S) (h : ∀ a o, G a = some o → G' a = some o) : LnA G' x dx af ai at_ S := ⟨h _ _ L.ob, h _ _ L.fi, h _ _ L.id, h _ _ L.tk, L.n1, L.n2, L.n3, L.zn, L.zm⟩
end DL
set_option Elab.async false
set_option linter.all false
set_option maxRecDepth 100000
set_option maxHeartbeats 4000000
namespace DL
open PySem PySem.Spec PyProof.Rows L2 LN
end DL
set_option Elab.async false
set_option linter.all false
set_option maxRecDepth 100000
set_option maxHeartbeats 4000000
namespace DL
open PySem PySem.Spec PyProof.Rows L2 LN
end DL
set_option Elab.async false
set_option linter.all false
set_option maxRecDepth 100000
set_option maxHeartbeats 4000000
namespace DL
open PySem PySem.Spec PyProof.Rows L2 LN
end DL
set_option Elab.async false
set_option linter.all false
set_option maxRecDepth 100000
set_option maxHeartbeats 4000000
namespace DL
open PySem PySem.Spec PyProof.Rows L2
mutual
def frzD (G : Gp) : D → Option D
  | .ref a => match G a with
    | some (.lst es) => if plainDs es = true then some (.lst es) else none
    | _ => none
  | .lst ds => (frzDs G ds).map .lst
  | .tup ds => (frzDs G ds).map .tup
  | .dct ks ds => (frzDs G ds).map (.dct ks)
  | .non => some .non
  | .bl b => some (.bl b)
  | .int b => some (.int b)
  | .str b => some (.str b)
  | .ty b => some (.ty b)
  | .cl b => some (.cl b)
  | .exc _ _ _ _ => none
  | .scr b => some (.scr b)
def frzDs (G : Gp) : List D → Option (List D)
  | [] => some []
  | d :: ds => match frzD G d, frzDs G ds with
    | some a, some r => some (a :: r)
    | _, _ => none
end
mutual
def flatT : D → Bool
  | .non => true
  | .bl _ => true
  | .int _ => true
  | .str _ => true
  | .tup ds => flatTs ds
  | _ => false
def flatTs : List D → Bool
  | [] => true
  | d :: ds => flatT d && flatTs ds
end
mutual
def resT : D → Bool
  | .non => true
  | .bl _ => true
  | .int _ => true
  | .str _ => true
  | .ref _ => true
  | .tup ds => resTs ds
  | _ => false
def resTs : List D → Bool
  | [] => true
  | d :: ds => resT d && resTs ds
end
def flatO : GO → Bool
  | .lst ds => flatTs ds
  | _ => false
def gmerge (G G' : Gp) : Gp := fun a => match G' a with
  | some o => some o
  | none => G a
@[simp] theorem gmerge_none {G : Gp} : gmerge G (fun _ => none) = G := rfl
@[simp] theorem gmerge_put {G G' : Gp} {a : Addr} {o : GO} : gmerge G (gput G' a o) = gput (gmerge G G') a o := by
  funext b
  unfold gmerge
  by_cases h : b = a
  · subst h; rw [gput_same, gput_same]
  · rw [gput_ne h, gput_ne h]
@[simp] def eCallB (F : Sf) (ea : EA) : EE := fun s G Q => ea s G fun ds G1 => match frzDs G1 ds with
  | some ds' => F ds' (fun _ => none) fun d G' => resT d = true ∧ (∀ a o, G' a = some o → flatO o = true) ∧ ((∀ a o, G' a = some o → G1 a = none) → Q d (gmerge G1 G'))
  | none => False
section
variable {K : PySem.W.Frag} {P : Addr → Prop} {G : Gp} {H : Hp}
mutual
theorem Rep.bare (w : Wo K P G H) : ∀ {d : D} {v : V}, plainD d = true → Rep K H G P d v → Rep K H (fun _ => none) P d v
  | .non, _, _, h => by unfold Rep at h ⊢; exact h
  | .bl _, _, _, h => by unfold Rep at h ⊢; exact h
  | .int _, _, _, h => by unfold Rep at h ⊢; exact h
  | .str _, _, _, h => by unfold Rep at h ⊢; exact h
  | .ty _, _, _, h => by unfold Rep at h ⊢; exact h
  | .cl _, _, _, h => by unfold Rep at h ⊢; exact h
  | .ref a, _, q, h => by simp [plainD] at q
  | .exc a dd f e, _, q, h => by simp [plainD] at q
  | .scr ns, _, _, h => by
    unfold Rep at h ⊢
    obtain ⟨a, rfl, z, ⟨⟨o, h⟩, g⟩ | ⟨h, g, pp⟩ | h⟩ := h
    · exact ⟨a, rfl, z, .inl ⟨⟨o, h⟩, rfl⟩⟩
    · exact ⟨a, rfl, z, .inr (.inl ⟨h, rfl, pp⟩)⟩
    · exact ⟨a, rfl, z, .inr (.inr h)⟩
  | .lst ds, _, q, h => by
    unfold Rep at h ⊢
    obtain ⟨a, xs, rfl, g, p, r, z, t⟩ := h
    simp only [plainD] at q
    exact ⟨a, xs, rfl, rfl, p, r, z, Reps.bare w q t⟩
  | .tup ds, _, q, h => by
    unfold Rep at h ⊢
    obtain ⟨a, xs, rfl, g, p, r, z, t⟩ := h
    simp only [plainD] at q
    exact ⟨a, xs, rfl, rfl, p, r, z, Reps.bare w q t⟩
  | .dct ks ds, _, q, h => by
    unfold Rep at h ⊢
    obtain ⟨a, xs, rfl, g, p, r, z, t⟩ := h
    simp only [plainD] at q
    exact ⟨a, xs, rfl, rfl, p, r, z, Reps.bare w q t⟩
theorem Reps.bare (w : Wo K P G H) : ∀ {ds : List D} {vs : List V}, plainDs ds = true → Reps K H G P ds vs → Reps K H (fun _ => none) P ds vs
  | [], _, _, h => by unfold Reps at h ⊢; exact h
  | d :: ds, _, q, h => by
    unfold Reps at h ⊢
    obtain ⟨x, r, rfl, h1, h2⟩ := h
    simp only [plainDs, Bool.and_eq_true] at q
    exact ⟨x, r, rfl, Rep.bare w q.1 h1, Reps.bare w q.2 h2⟩
end
end
@[simp] theorem frzDs_nil {G : Gp} : frzDs G [] = some [] := by simp only [frzDs]
@[simp] theorem frzDs_cons {G : Gp} {d : D} {ds : List D} : frzDs G (d :: ds) = match frzD G d, frzDs G ds with
    | some a, some r => some (a :: r)
    | _, _ => none := by rw [frzDs]
@[simp] theorem frzD_int {G : Gp} {i : Int} : frzD G (.int i) = some (.int i) := by simp only [frzD]
@[simp] theorem frzD_bl {G : Gp} {i : Bool} : frzD G (.bl i) = some (.bl i) := by simp only [frzD]
@[simp] theorem frzD_str {G : Gp} {i : Str} : frzD G (.str i) = some (.str i) := by simp only [frzD]
@[simp] theorem frzD_non {G : Gp} : frzD G .non = some .non := by simp only [frzD]
@[simp] theorem frzD_tup {G : Gp} {ds : List D} : frzD G (.tup ds) = (frzDs G ds).map .tup := by rw [frzD]
end DL
set_option Elab.async false
set_option linter.all false
set_option maxRecDepth 100000
set_option maxHeartbeats 4000000
namespace DL
open PySem PySem.Spec PyProof.Rows L2
section
variable {X : Cx} {K : PySem.W.Frag} {P : Addr → Prop} {G : Gp} {H : Hp} {tg : Expr}
/-- what is walked: a tuple -/
@[simp] def iT (t : EE) : EI := fun s G Q => t s G fun x G1 => match x with
  | .tup ds => Q ds (fun _ => True) G1
  | _ => False
theorem ji_tup {l : Expr} {el : EE} (hl : JE X l el) : JI X tg l (iT el) := ⟨pi_tup hl.pe, fun P s G Q σ H R h r k => by
  refine hl.le P s G _ σ H _ h r fun x G1 u H1 s1 w1 r1 h1 => ?_
  split at h1
  · rename_i ds
    obtain ⟨a, xs, rfl, g, p, rr, z, q⟩ := rep_t r1
    refine ⟨a, rfl, ⟨xs, SqT.of rr⟩, k ds _ G1 _ H1 s1 w1 ⟨z, fun P' G2 H2 i hP st w kp => ?_⟩ h1⟩
    have q2 : Reps X.K H2 G2 P' ds xs := Reps.mono st hP q
    have rr2 := (st.keep a _ rr g).1
    refine ⟨fun d hd => ?_, fun hi => ⟨xs, SqT.of rr2, by rw [← q2.length]; exact hi⟩⟩
    obtain ⟨v, e1, r1⟩ := q2.get hd
    refine ⟨⟨xs, v, SqT.of rr2, e1⟩, fun y H' hy => ?_⟩
    obtain ⟨rfl, f⟩ := hy
    have := f xs (SqT.of rr2)
    rw [e1] at this
    cases this
    exact ⟨Step.refl _ _, w, r1⟩
  · exact h1.elim⟩
/-- xs.pop(i) -/
@[simp] def mPopAt : MD := fun x xs G Q => match x, xs with
  | .ref p, [.int i] => (match G p with
    | some (.lst ds) => 0 ≤ i ∧ i < 2 ^ 62 ∧ (match ds[i.toNat]? with
      | some d => Q d (gput G p (.lst (ds.eraseIdx i.toNat)))
      | none => False)
    | _ => False)
  | _, _ => False
end
end DL
set_option Elab.async false
set_option linter.all false
set_option maxRecDepth 100000
set_option maxHeartbeats 4000000
namespace DL
open PySem PySem.Spec PyProof.Rows L2 LN
end DL
set_option Elab.async false
set_option linter.all false
set_option maxRecDepth 100000
set_option maxHeartbeats 4000000
namespace DL
open PySem PySem.Spec PyProof.Rows L2 LN
theorem bk_split {bk : List Stretch} {i : Nat} (h : i < bk.length) : bk = bk.take i ++ st bk i :: bk.drop (i + 1) := by
  have e : bk.drop i = st bk i :: bk.drop (i + 1) := by
    rw [List.drop_eq_getElem_cons h]
    congr 1
    unfold st
    rw [List.getD_eq_getElem?_getD, List.getElem?_eq_getElem h]; rfl
  rw [← e, List.take_append_drop]
end DL
set_option Elab.async false
set_option linter.all false
set_option maxRecDepth 100000
set_option maxHeartbeats 4000000
namespace DL
open PySem PySem.Spec PyProof.Rows L2 LN
end DL
set_option Elab.async false
set_option linter.all false
set_option maxRecDepth 100000
set_option maxHeartbeats 4000000
namespace DL
open PySem PySem.Spec PyProof.Rows L2 LN
end DL
set_option Elab.async false
set_option linter.all false
set_option maxRecDepth 100000
set_option maxHeartbeats 4000000
namespace DL
open PySem PySem.Spec PyProof.Rows L2
def sqP : PyData → Option (List PyData)
  | .list xs => some xs
  | .tuple xs => some xs
  | _ => none
variable {K : PySem.W.Frag}
/-- x in xs, of any data -/
@[simp] def oInD (neg : Bool) : OD := fun x y G Q => match toPy G x, toPy G y with
  | some a, some b => match sqP b with
    | some ds => SeqAt.shaped a = true ∧ a.depth ≤ 60 ∧ SeqAt.shaped b = true ∧ Q (.bl (if neg then !(ds.any fun z => PyData.eqv z a) else ds.any fun z => PyData.eqv z a)) G
    | none => False
  | _, _ => False
@[simp] theorem sqP_list {xs : List PyData} : sqP (.list xs) = some xs := rfl
@[simp] theorem sqP_tuple {xs : List PyData} : sqP (.tuple xs) = some xs := rfl
end DL
set_option Elab.async false
set_option linter.all false
set_option maxRecDepth 100000
set_option maxHeartbeats 4000000
namespace DL
open PySem PySem.Spec PyProof.Rows L2 LN
theorem LnA.put {G : Gp} {x dx af ai at_ q : Addr} {o : GO} {S : LN.LS} (L : LnA G x dx af ai at_ S) (n0 : q ≠ x) (n1 : q ≠ af) (n2 : q ≠ ai) (n3 : q ≠ at_) : LnA (gput G q o) x dx af ai at_ S :=
  ⟨by rw [gput_ne (Ne.symm n0)]; exact L.ob, by rw [gput_ne (Ne.symm n1)]; exact L.fi, by rw [gput_ne (Ne.symm n2)]; exact L.id, by rw [gput_ne (Ne.symm n3)]; exact L.tk, L.n1, L.n2, L.n3, L.zn, L.zm⟩
end DL
set_option Elab.async false
set_option linter.all false
set_option maxRecDepth 100000
set_option maxHeartbeats 4000000
namespace DL
open PySem PySem.Spec PyProof.Rows L2 LN
end DL
set_option Elab.async false
set_option linter.all false
set_option maxRecDepth 100000
set_option maxHeartbeats 4000000
namespace DL
open PySem PySem.Spec PyProof.Rows L2
/-- sorted(xs, reverse=True) of ints -/
@[simp] def eSrtR (te td : EE) : EE := fun s G Q => te s G fun x G1 => td s G1 fun d G2 => match d with
  | .bl true => (match (lkL G2 x).bind intsD with
    | some ns => ∀ ms : List Int, ms.Perm ns → ms.Pairwise (· ≥ ·) → Q (.lst (ms.map D.int)) G2
    | none => False)
  | _ => False
end DL
set_option Elab.async false
set_option linter.all false
set_option maxRecDepth 100000
set_option maxHeartbeats 4000000
namespace DL
open PySem PySem.Spec PyProof.Rows L2 LN
end DL
set_option Elab.async false
set_option linter.all false
set_option maxRecDepth 100000
set_option maxHeartbeats 4000000
namespace DL
open PySem PySem.Spec PyProof.Rows L2 LN
end DL
set_option Elab.async false
set_option linter.all false
set_option maxRecDepth 100000
set_option maxHeartbeats 4000000
namespace DL
open PySem PySem.Spec PyProof.Rows L2 LN
end DL
set_option Elab.async false
set_option linter.all false
set_option maxRecDepth 100000
set_option maxHeartbeats 4000000
namespace DL
open PySem PySem.Spec PyProof.Rows L2 LN
end DL
set_option Elab.async false
set_option linter.all false
set_option maxRecDepth 100000
set_option maxHeartbeats 4000000
namespace DL
open PySem PySem.Spec PyProof.Rows L2 LN
end DL
set_option Elab.async false
set_option linter.all false
set_option maxRecDepth 100000
set_option maxHeartbeats 4000000
namespace DL
open PySem PySem.Spec PyProof.Rows L2
section
variable {X : Cx} {K : PySem.W.Frag} {a b : Expr} {ea eb : EE} {pos : Pos}
@[simp] def oRepO : OD := fun x y G Q => match lkL G x, y with
  | some ds, .int k => (∀ ns, x ≠ .scr ns) ∧ -(2 ^ 63) ≤ k ∧ k < 2 ^ 63 ∧ ds.length * k.toNat ≤ sizeLine ∧ ∀ p, G p = none → Q (.ref p) (gput G p (.lst (List.replicate k.toNat ds).flatten))
  | _, _ => False
/-- list(d): its keys, ints; frozen -/
@[simp] def cListDI : CD := fun xs G Q => match xs with
  | [x] => (match (lkD G x).bind fun p => intKs p.1 with
    | some ns => ns.length ≤ 1000 ∧ Q (.lst (ns.map D.int)) G
    | none => False)
  | _ => False
/-- a, b = e, e's value a list -/
@[simp] def sAsgL (te : EE) (is : List Nat) : ES := fun N s G => te s G fun d G1 => match lkL G1 d with
  | some ds => (match setAll s is ds with
    | some s' => N.nx s' G1
    | none => False)
  | none => False
end
end DL
set_option Elab.async false
set_option linter.all false
set_option maxRecDepth 100000
set_option maxHeartbeats 4000000
namespace L2
open PySem PySem.Spec PyProof.Rows
end L2
namespace DL
open PySem PySem.Spec PyProof.Rows L2
@[simp] def oNeNil : OD := fun x y G Q => match lkL G x, lkL G y with
  | some ds, some [] => Q (.bl (!ds.isEmpty)) G
  | _, _ => False
end DL
set_option Elab.async false
set_option linter.all false
set_option maxRecDepth 100000
set_option maxHeartbeats 4000000
namespace L2
open PySem PySem.Spec PyProof.Rows
end L2
namespace DL
open PySem PySem.Spec PyProof.Rows L2
section
variable {K : PySem.W.Frag}
@[simp] def cListX : CD := fun xs G Q => match xs with
  | [.str z] => z.length ≤ sizeLine ∧ Q (.lst (sgnD z)) G
  | _ => False
@[simp] def cTupX : CD := fun xs G Q => match xs with
  | [.str z] => z.length ≤ sizeLine ∧ Q (.tup (sgnD z)) G
  | _ => False
end
end DL
set_option Elab.async false
set_option linter.all false
set_option maxRecDepth 100000
set_option maxHeartbeats 4000000
namespace DL
open PySem PySem.Spec PyProof.Rows L2
/-- as FnOk, where no repr is under way -/
structure FnG (P : Program) (w : World) (K : PySem.W.Frag) (mg : Str → Option Value) (base : Heap) (k : Nat) (f : Addr) (fd : FuncData) (ps : List Str) (sp : Sp) : Prop where
  ln : ∀ vs H Q E, sp vs H Q E → vs.length = ps.length
  go : ∀ (A : Around) (l : List Env) (s : Shared) (H : Hp) (ar : Args) (us : List Value) (vs : List V) (Q : VK) (E : XK), Room k A → A.guards = some [] → Env0 P w K mg base A l s H → BindsTo s fd ar (ps.zip us) → Vals vs us → sp vs H Q E → codeAny (model P w) A (.call (.ref f) ar) (CR CX0 l P w H s Q E) s
theorem fnG_ok {P : Program} {w : World} {K : PySem.W.Frag} {mg : Str → Option Value} {base : Heap} {x qual : Str} {params : Arguments} {body : List Stmt} {scope : Scope} {kws : List (Str × V)} {dvs : List V} {f : Addr} {fd : FuncData} {N ps : List Str} {k : Nat} {sp : Sp}
    (FF : FunD K x qual params body scope dvs kws f fd) (S : FnScope N ps scope) (ln : ∀ vs H Q E, sp vs H Q E → vs.length = ps.length)
    (hb : ∀ (cdv : Value) (A : Around) (l : List Env) (s : Shared) (H : Hp) (vs : List V) (Q : VK) (E : XK), Room k (A.deeper (envOfC qual scope s.heap.objs.size f cdv)) → A.guards = some [] → sp vs H Q E → ∃ t, PSs (cxOf CX0 P w K mg base N qual scope f cdv A l s H E) body t ∧ t { nx := fun _ H' => Q .non H', rt := Q } (L2.start N vs) H) :
    FnG P w K mg base (k + 1) f fd ps sp := by
  obtain ⟨oc, od, dV, kV, doc, pm, an, cdv, ct, osl, rfl, lk, hcd, _, _⟩ := FF.ex
  refine ⟨ln, fun A l s H ar us vs Q E room gd e0 bt rel hs => ?_⟩
  have hl := ln _ _ _ _ hs
  have kin := e0.mod.kin.keeps fun b o e => (e0.bs b o e).1
  have lim := e0.mod.nolimit.keeps fun b o e => (e0.bs b o e).1
  refine codeAny_call_function room.depth (kin _ _ lk) rfl S.co S.gen rfl (PySem.W.codeRec_of kin hcd) (bt _ _ _ _ ?_)
  refine wpAny_newFunctionEnv_cells S.kind (fun y hy => ?_) fun env he s1 ic => ?_
  · rcases S.par y.1 (List.of_mem_zip (a := y.1) (b := y.2) hy).1 with q | q
    · exact .inl q
    · exact .inr ⟨q, PySem.W.cellsFrom_some _ _ _ (.inl q)⟩
  subst he
  obtain ⟨t, pt, tq⟩ := hb cdv A l s H vs Q E (room.deeper _) gd hs
  refine ⟨lim.keeps ic.toInCall.keep, codeAny_func (wpAny_mono (pt.run [] s1 (L2.start N vs) H _ (inv_start S room.hd e0 hl rel ic) tq) (fun fl s' out => ?_) fun _ _ z => z)⟩
  cases fl with
  | ret u => exact let ⟨v, _, H', J, rv, q⟩ := out; ⟨v, H', J.os, J.bare, J.base, J.hok, rv, q⟩
  | next => exact let ⟨_, H', J, q⟩ := out; ⟨V.non, H', J.os, J.bare, J.base, J.hok, rfl, q⟩
  | brk => exact let ⟨_, _, _, q⟩ := out; q.elim
  | cont => exact let ⟨_, _, _, q⟩ := out; q.elim
abbrev FKG (P : Program) (w : World) (K : PySem.W.Frag) (mg : Str → Option Value) (base : Heap) (k : Nat) (f : Addr) (fd : FuncData) (ps : List Str) (F : Sf) : Prop := FnG P w K mg base k f fd ps (Lf K ps.length F)
/-- the rule for such a def -/
theorem fkG_ok {P : Program} {w : World} {K : PySem.W.Frag} {mg : Str → Option Value} {base : Heap} {x qual : Str} {params : Arguments} {body : List Stmt} {scope : Scope} {kws : List (Str × V)} {dvs : List V} {f : Addr} {fd : FuncData} {N ps : List Str} {k : Nat} {F : Sf} {es : ES}
    (FF : FunD K x qual params body scope dvs kws f fd) (S : FnScope N ps scope)
    (hJ : ∀ (cdv : Value) (A : Around) (outer : List Env) (s : Shared) (H : Hp) (E : XK), Room k (A.deeper (envOfC qual scope s.heap.objs.size f cdv)) → A.guards = some [] → JSs (cxOf CX0 P w K mg base N qual scope f cdv A outer s H E).nox y0 body es)
    (hR : ∀ ds G Q, F ds G Q → es (fin G Q) (startD N.length ds) G) : FKG P w K mg base (k + 1) f fd ps F := by
  refine fnG_ok FF S (fun vs H Q E h => h.1) fun cdv A outer s H vs Q E hr gd h => ?_
  obtain ⟨_, P', ds, G, Q', wo, r, hf, kk⟩ := h
  have j := hJ cdv A outer s H E hr gd
  refine ⟨_, PSs.nox j.ps, j.ls P' (startD N.length ds) G (fin G Q') (L2.start N vs) H _ (hR ds G Q' hf) (rl_start wo r) ⟨fun s' G' σ' H' st rl hq => ?_, fun d G' v H' st w' rp hq => ?_, fun _ _ _ _ _ _ hq => hq.elim, fun _ _ _ _ _ _ hq => hq.elim, fun _ _ _ _ _ _ _ _ _ _ hq => hq.elim⟩⟩
  · obtain ⟨d2, G2, fz, q2⟩ := hq
    obtain ⟨b1, b2, b3⟩ := fz K P' H H' .non wo st rl.wo rep_non
    exact kk d2 G2 .non H' b1 b2 b3 q2
  · obtain ⟨d2, G2, fz, q2⟩ := hq
    obtain ⟨b1, b2, b3⟩ := fz K P' H H' v wo st w' rp
    exact kk d2 G2 v H' b1 b2 b3 q2
/-- what the law's call leaves -/
def Good (s₁ : Shared) (r : Result) (s' : Shared) : Prop := r = .ok (.ret (.bool true)) ∧ OldK s₁.heap s'.heap ∧ s'.os = s₁.os ∧ AllBare s'.gens
section
variable {P : Program} {w : World} {K : PySem.W.Frag} {mg mb : Str → Option Value} {k : Nat} {fa a : Addr} {fd : FuncData} {x : Str} {F : Sf} {s₁ : Shared} {vs : List Value} {ns : List Int}
/-- from an abstract heap that tracks at most the script -/
theorem lawG_at {H : Hp} (KX : K.In s₁.heap) (hns : s₁.heap.Ns mainGlobals mg) (hb : s₁.heap.Ns builtinsNs mb) (hbb : ∀ x : Str, x ≠ "__name__" → mb x = bootBuiltins x) (hlim : s₁.heap.NoLimit) (hsy : ∃ m, s₁.heap.Ns sysModules m) (hg : s₁.gens = #[])
    (ha : s₁.heap.get? a = some { cls := .type "list", data := .seq vs.toArray }) (room : Room k callerA) (hF : ∀ base : Heap, K.In base → base.Ns mainGlobals mg → (∃ m, base.Ns sysModules m) → FKG P w K mg base k fa fd [x] F) (hbind : ∀ (s : Shared) (u : Value), BindsTo s fd ⟨[u], []⟩ [(x, u)])
    (hsp : Lf K 1 F [.ref a] H (fun v _ => v = .bl true) fun _ _ _ => False) (hO : Only H) (hok : HOk P w H s₁.heap) (hA : ∀ b, H b ≠ none → b = a) (hK : H a ≠ none → K.lookup a = none) : codeAny (model P w) callerA (.call (.ref fa) ⟨[.ref a], []⟩) (Good s₁) s₁ := by
  have un : ∀ {b : Addr} {u : HO}, H b = some u → b = a ∧ K.lookup a = none := fun {b u} q => by
    have e := hA b (by rw [q]; simp)
    subst e
    exact ⟨rfl, hK (by rw [q]; simp)⟩
  have free : ∀ {b : Addr}, (b ≠ a ∨ K.lookup a ≠ none) → H b = none := fun {b} h => by
    cases q : H b with
    | none => rfl
    | some u => exact h.elim (fun z => absurd (un q).1 z) fun z => absurd (un q).2 z
  have nsk : ∀ {b : Addr} {m : Str → Option Value}, s₁.heap.Ns b m → (hidT s₁.heap H).Ns b m := fun {b m} z => by
    obtain ⟨o, es, ep, e, d, r⟩ := z
    refine ⟨o, es, ep, hidT_get e (free (.inl fun q => ?_)), d, r⟩
    subst q
    rw [ha] at e
    cases e
    exact nomatch d
  have kb : K.In (hidT s₁.heap H) := fun b o e => hidT_get (KX b o e) (by
    by_cases q : b = a
    · subst q; exact free (.inr (by rw [e]; simp))
    · exact free (.inl q))
  have e0 : Env0 P w K mg (hidT s₁.heap H) callerA [] s₁ H := ⟨rfl, ⟨kb, nsk hns, ⟨mb, nsk hb, hbb⟩, let ⟨mc, h1, h2⟩ := hlim; ⟨mc, nsk h1, h2⟩⟩, fun b o e => of_hidT e, Nat.le_of_eq (hidT_size _ _), trivial, fun b z => (nomatch (show b ∈ ([] : List Addr) from z)), hok, .of_eq hg⟩
  refine codeAny_mono ((hF _ kb (nsk hns) (let ⟨m, h⟩ := hsy; ⟨m, nsk h⟩)).go callerA [] s₁ H ⟨[.ref a], []⟩ [.ref a] [.ref a] _ _ room rfl e0 (hbind s₁ (.ref a)) (.cons rfl .nil) hsp) fun r s' out => ?_
  cases r with
  | error e => exact out.elim
  | ok fl =>
    cases fl with
    | next => exact out.elim
    | brk => exact out.elim
    | cont => exact out.elim
    | ret u =>
      obtain ⟨v, H', os, bare, grown, hok', rv, ev⟩ := out
      have ev' : v = .bl true := ev
      subst ev'
      obtain rfl : u = Value.bool true := rv
      refine ⟨rfl, OldK.of_keep fun b o e => ?_, os, bare⟩
      rcases hO b with z | ⟨ob, xs, z⟩
      · exact grown.keep b o e z (fun q => nomatch (show b ∈ ([] : List Addr) from q)) (by simp)
      · have g1 := (hok b _ z).1
        rw [e] at g1
        cases g1
        exact (hok' b _ (grown.frzs b o _ z)).1
theorem lawG (KX : K.In s₁.heap) (hns : s₁.heap.Ns mainGlobals mg) (hb : s₁.heap.Ns builtinsNs mb) (hbb : ∀ x : Str, x ≠ "__name__" → mb x = bootBuiltins x) (hlim : s₁.heap.NoLimit) (hsy : ∃ m, s₁.heap.Ns sysModules m) (hg : s₁.gens = #[])
    (ha : s₁.heap.get? a = some { cls := .type "list", data := .seq vs.toArray }) (hi : IntsAre vs ns) (hl : ns.length ≤ sizeLine) (room : Room k callerA) (hF : ∀ base : Heap, K.In base → base.Ns mainGlobals mg → (∃ m, base.Ns sysModules m) → FKG P w K mg base k fa fd [x] F) (hbind : ∀ (s : Shared) (u : Value), BindsTo s fd ⟨[u], []⟩ [(x, u)])
    (hsp : ∀ H : Hp, Only H → SqL K H a (ns.map V.int) → Lf K 1 F [.ref a] H (fun v _ => v = .bl true) fun _ _ _ => False) : codeAny (model P w) callerA (.call (.ref fa) ⟨[.ref a], []⟩) (Good s₁) s₁ := by
  have rel := vals_ints hi
  cases hk : K.lookup a with
  | some o =>
    have e := KX a o hk
    rw [ha] at e
    cases e
    have hO : Only (fun _ => none) := fun _ => .inl rfl
    exact lawG_at KX hns hb hbb hlim hsy hg ha room hF hbind (hsp _ hO (.inr ⟨_, vs.toArray, _, hk, rfl, rfl, rfl, by rw [List.size_toArray, hi.length]; exact hl, by simpa using rel⟩)) hO (fun _ _ z => nomatch z) (fun _ z => absurd rfl z) fun z => absurd rfl z
  | none =>
    obtain ⟨H, hH⟩ : ∃ H : Hp, H = fun b => if b = a then some (.frz { cls := .type "list", data := .seq vs.toArray } (.lst (ns.map V.int))) else none := ⟨_, rfl⟩
    have at_ : H a = some (.frz { cls := .type "list", data := .seq vs.toArray } (.lst (ns.map V.int))) := by rw [hH]; exact if_pos rfl
    have no : ∀ b, b ≠ a → H b = none := fun b n => by rw [hH]; exact if_neg n
    have hO : Only H := fun b => by
      by_cases q : b = a
      · subst q; exact .inr ⟨_, _, at_⟩
      · exact .inl (no b q)
    refine lawG_at KX hns hb hbb hlim hsy hg ha room hF hbind (hsp H hO (.inl (.inr ⟨_, at_⟩))) hO (fun b u z => ?_) (fun b z => ?_) fun _ => hk
    · by_cases q : b = a
      · subst q
        rw [at_] at z
        cases z
        exact ⟨ha, by rw [List.length_map]; exact hl, vs, _, rel, ha⟩
      · rw [no b q] at z; cases z
    · by_cases q : b = a
      · exact q
      · exact absurd (no b q) z
end
/-- a law's end -/
theorem walkG {l : PySem.W.OpenLaw} {n k : Nat} {q : Program} {loose : List Str} {XP : (Str → Option Value) → Heap → Prop} {YP : World → Heap → Prop} {d : DefRec} {x : Str} (hn : l.most = some n) (hn2 : n ≤ sizeLine) (hdf : d.params.defaults = []) (room : Room k callerA)
    (F : ∀ (w : World) (mg : Str → Option Value) (fa : Addr) (h : Heap), YP w h → h.Ns mainGlobals mg → mg d.name = some (.ref fa) → ∃ (K : PySem.W.Frag) (fd : FuncData), K.In h ∧ (∀ (s : Shared) (u : Value), BindsTo s fd ⟨[u], []⟩ [(x, u)]) ∧
      ∀ base : Heap, K.In base → base.Ns mainGlobals mg → (∃ m, base.Ns sysModules m) → FKG l.prog w K mg base k fa fd [x] (lawF n)) (hi : importsNone q = true) : PySem.W.WalkO q loose XP YP l.row.toRowW d [] (fun f vs => PySem.call f vs) := by
  refine Att.attach_call hn hdf fun w s₀ s₁ mg mb fa o pm cd doc a vs ns G Y ho hd hcd hmg hobj hints hlen hg => ?_
  obtain ⟨K, fd, KX, hb, hF⟩ := F w mg fa _ Y G.T.g hmg
  exact lawG KX G.T.g G.T.b G.T.builtins G.T.nolimit (let ⟨m, h, _⟩ := (G.T.seer hi).mods; ⟨m, h⟩) hg hobj hints (Nat.le_trans hlen hn2) room hF hb fun H hO hS => law_sp hn2 hlen hO hS
end DL
set_option Elab.async false
set_option linter.all false
set_option maxRecDepth 100000
set_option maxHeartbeats 4000000
namespace L2
open PySem PySem.Spec PyProof.Rows PySem.W
end L2
namespace DL
open PySem PySem.Spec PyProof.Rows L2 PySem.W
@[simp] def cRepr : CD := fun xs G Q => match xs with
  | [x] => (match toPy G x with
    | some p => p.showable = true ∧ p.hasDict = false ∧ p.depth ≤ 40 ∧ p.shown.length ≤ sizeLine ∧ Q (.str p.shown) G
    | none => False)
  | _ => False
@[simp] def boxD : D → Bool
  | .lst _ => true
  | .tup _ => true
  | .ref _ => true
  | .scr _ => true
  | _ => false
@[simp] def cStrD : CD := fun xs G Q => match xs with
  | [.int i] => i.natAbs.log2 < 1920 ∧ Q (.str (toString i)) G
  | [.str z] => Q (.str z) G
  | [x] => boxD x = true ∧ (match toPy G x with
    | some p => p.showable = true ∧ p.hasDict = false ∧ p.depth ≤ 40 ∧ p.shown.length ≤ sizeLine ∧ Q (.str p.shown) G
    | none => False)
  | _ => False
@[simp] def cStrI : CD := fun xs G Q => match xs with
  | [.int i] => i.natAbs.log2 < 1920 ∧ Q (.str (toString i)) G
  | _ => False
def Asc (t : Str) : Prop := ∀ c ∈ t.cps.toList, c < 1114112
theorem asc_of (s : String) : Asc (Str.ofString s) := fun c hc => by
  rw [Str.ofString_eq_toList] at hc
  simp at hc
  obtain ⟨a, _, rfl⟩ := hc
  have := a.valid
  unfold UInt32.isValidChar Nat.isValidChar at this
  show a.val.toNat < _
  omega
theorem asc_app {a b : Str} (h : Asc a) (k : Asc b) : Asc (a ++ b) := fun c hc => by
  have e : (a ++ b).cps = a.cps ++ b.cps := rfl
  rw [e, Array.toList_append] at hc
  have this := hc
  rcases List.mem_append.mp this with q | q
  · exact h c q
  · exact k c q
theorem len_app (a b : Str) : (a ++ b).length = a.length + b.length := strLen_append a b
theorem asc_join {sep : Str} (hs : Asc sep) : ∀ {ts : List Str}, (∀ t ∈ ts, Asc t) → Asc (Str.join sep ts)
  | [], _ => fun c hc => by simp [Str.join, Str.empty] at hc
  | [x], h => h x List.mem_cons_self
  | x :: y :: r, h => asc_app (asc_app (h x List.mem_cons_self) hs) (asc_join hs fun t ht => h t (List.mem_cons_of_mem _ ht))
theorem asc_from : ∀ {ts : List Str} {k : Nat} {acc : Str}, Asc acc → (∀ t ∈ ts, Asc t) → Asc (textFrom k acc ts)
  | [], _, _, h, _ => h
  | t :: ts, k, acc, h, ht => asc_from (ts := ts) (k := k + 1) (acc := acc ++ (if k > 0 then ", " else "" : String) ++ t) (asc_app (asc_app h (asc_of _)) (ht t List.mem_cons_self)) fun u hu => ht u (List.mem_cons_of_mem _ hu)
structure Tx (n : Nat) (p : PyData) : Prop where
  sh : p.showable = true
  nd : p.hasDict = false
  asc : Asc p.shown
  len : p.shown.length ≤ n
theorem tx_none : Tx 4 .none := ⟨rfl, rfl, asc_of _, by decide⟩
theorem tx_bool (b : Bool) : Tx 5 (.bool b) := ⟨rfl, rfl, by cases b <;> exact asc_of _, by cases b <;> decide⟩
theorem log_small {n : Nat} (h : n < 10 ^ 60) : n.log2 < 1920 := by
  by_cases z : n = 0
  · subst z; decide
  · rw [Nat.log2_lt z]
    exact Nat.lt_trans h (by decide +kernel)
theorem tx_int {i : Int} (h : i.natAbs < 10 ^ 60) : Tx 61 (.int i) := by
  refine ⟨?_, rfl, asc_of _, ?_⟩
  · simp only [PyData.showable]
    exact decide_eq_true (log_small h)
  · have := int_text_length_le10 (a := i) (k := 60) (by decide) h
    simp only [PyData.shown]
    rw [PySem.ofString_length]
    exact this
theorem asc_char {q c : Nat} (hc : c < 1114112) : ∀ d ∈ Builtin.Str.reprChar q c, d < 1114112 := by
  have hx : ∀ w : Nat, ∀ d ∈ List.replicate (w - ((Nat.toDigits 16 c).map Char.toNat).length) 48 ++ (Nat.toDigits 16 c).map Char.toNat, d < 1114112 := fun w d hd => by
    rcases List.mem_append.mp hd with z | z
    · have := List.eq_of_mem_replicate z; omega
    · obtain ⟨a, _, rfl⟩ := List.mem_map.mp z
      have := a.valid
      unfold UInt32.isValidChar Nat.isValidChar at this
      show a.val.toNat < _
      omega
  intro d hd
  unfold Builtin.Str.reprChar at hd
  dsimp only at hd
  have two : ∀ a b : Nat, a < 1114112 → b < 1114112 → d ∈ [a, b] → d < 1114112 := fun a b ha hb h => by
    simp at h
    rcases h with rfl | rfl <;> assumption
  have app : ∀ (a b : Nat) (w : Nat), a < 1114112 → b < 1114112 → d ∈ [a, b] ++ (List.replicate (w - ((Nat.toDigits 16 c).map Char.toNat).length) 48 ++ (Nat.toDigits 16 c).map Char.toNat) → d < 1114112 := fun a b w ha hb h => by
    rcases List.mem_append.mp h with z | z
    · exact two a b ha hb z
    · exact hx w d z
  repeat' split at hd
  · exact two _ _ (by decide) hc hd
  · exact two _ _ (by decide) (by decide) hd
  · exact two _ _ (by decide) (by decide) hd
  · exact two _ _ (by decide) (by decide) hd
  · simp at hd; subst hd; exact hc
  · exact app _ _ _ (by decide) (by decide) hd
  · exact app _ _ _ (by decide) (by decide) hd
  · exact app _ _ _ (by decide) (by decide) hd
theorem asc_fold {q : Nat} : ∀ {l : List Nat} {acc : Array Nat}, (∀ c ∈ l, c < 1114112) → (∀ c ∈ acc.toList, c < 1114112) → ∀ c ∈ (l.foldl (fun out c => out ++ (Builtin.Str.reprChar q c).toArray) acc).toList, c < 1114112
  | [], _, _, h => h
  | x :: l, acc, hl, h => by
    rw [List.foldl_cons]
    refine asc_fold (fun c hc => hl c (List.mem_cons_of_mem _ hc)) fun c hc => ?_
    rw [Array.toList_append] at hc
    rcases List.mem_append.mp hc with z | z
    · exact h c z
    · exact asc_char (hl x List.mem_cons_self) c (by simpa using z)
theorem asc_repr {x : Str} (h : Asc x) : Asc (reprText x) := fun c hc => by
  have hq : reprQuote x < 1114112 := by unfold reprQuote; split <;> decide
  unfold reprText at hc
  rw [Array.toList_push, ← Array.foldl_toList] at hc
  rcases List.mem_append.mp hc with z | z
  · exact asc_fold h (by simpa using hq) c z
  · simp at z; subst z; exact hq
theorem tx_str {x : Str} {n : Nat} (h : Asc x) (hn : x.length ≤ n) : Tx (10 * n + 2) (.str x) := by
  refine ⟨rfl, rfl, asc_repr h, ?_⟩
  have := StrLaws.reprText_len x fun c hc => by have := h c hc; omega
  simp only [PyData.shown]
  omega
theorem shownAll_map : ∀ xs : List PyData, PyData.shownAll xs = xs.map PyData.shown
  | [] => rfl
  | x :: xs => by simp [PyData.shownAll, shownAll_map xs]
theorem showableAll_of : ∀ {xs : List PyData}, (∀ x ∈ xs, x.showable = true) → PyData.showableAll xs = true
  | [], _ => by simp [PyData.showableAll]
  | x :: xs, h => by simp [PyData.showableAll, h x List.mem_cons_self, showableAll_of fun y hy => h y (List.mem_cons_of_mem _ hy)]
theorem piled_le {n : Nat} : ∀ {ts : List Str}, (∀ t ∈ ts, t.length ≤ n) → piled ts ≤ ts.length * (n + 2)
  | [], _ => by simp [piled]
  | t :: ts, h => by
    rw [piled_cons, List.length_cons, Nat.succ_mul]
    have := h t List.mem_cons_self
    have := piled_le (ts := ts) fun y hy => h y (List.mem_cons_of_mem _ hy)
    omega
theorem listText_le : ∀ ts : List Str, (listText ts).length ≤ piled ts + 2
  | [] => by decide
  | t :: r => by
    unfold listText
    rw [len_app]
    have h := textFrom_length_pos r 1 (("[" : Str) ++ (if (0 : Nat) > 0 then ", " else "" : String) ++ t) (Nat.succ_pos 0)
    have e : ((("[" : Str) ++ (if (0 : Nat) > 0 then ", " else "" : String) ++ t)).length = 1 + t.length := by rw [len_app, len_app]; rfl
    show (textFrom 1 (("[" : Str) ++ (if (0 : Nat) > 0 then ", " else "" : String) ++ t) r).length + 1 ≤ _
    rw [h, e, piled_cons]
    omega
theorem tupleText_le (ts : List Str) : (tupleText ts).length ≤ piled ts + 4 := by
  unfold tupleText
  rw [len_app, len_app]
  have e1 : ((("(" : String) : Str)).length = 1 := rfl
  have e3 : (((if ts.length == 1 then ",)" else ")" : String) : Str)).length ≤ 2 := by split <;> decide
  have e2 : (Str.join ", " ts).length ≤ piled ts := by
    cases ts with
    | nil => decide
    | cons a b => have := join_length_add (a :: b) (by simp); omega
  omega
theorem Tx.mono {n m : Nat} {p : PyData} (h : Tx n p) (hm : n ≤ m) : Tx m p := ⟨h.sh, h.nd, h.asc, Nat.le_trans h.len hm⟩
end DL
set_option Elab.async false
set_option linter.all false
set_option maxRecDepth 100000
set_option maxHeartbeats 4000000
namespace L2
open PySem PySem.Spec PyProof.Rows PySem.W
def encK : Key → PyData
  | .inl i => .int i
  | .inr x => .str x
mutual
inductive DpX (K : PySem.W.Frag) (H : Hp) : V → PyData → Prop
  | non : DpX K H .non .none
  | bl (b : Bool) : DpX K H (.bl b) (.bool b)
  | int (i : Int) : DpX K H (.int i) (.int i)
  | str (x : Str) : DpX K H (.str x) (.str x)
  | lst {a : Addr} {xs : List V} {ds : List PyData} : SqL K H a xs → DpXs K H xs ds → DpX K H (.ref a) (.list ds)
  | tup {a : Addr} {xs : List V} {ds : List PyData} : SqT K H a xs → DpXs K H xs ds → DpX K H (.ref a) (.tuple ds)
  | dct {a : Addr} {kvs : List (Key × V)} {ds : List PyData} : H a = some (.dK kvs) → DpXs K H (kvs.map (·.2)) ds → DpX K H (.ref a) (.dict ((kvs.map fun p => encK p.1).zip ds))
inductive DpXs (K : PySem.W.Frag) (H : Hp) : List V → List PyData → Prop
  | nil : DpXs K H [] []
  | cons {v : V} {vs : List V} {d : PyData} {ds : List PyData} : DpX K H v d → DpXs K H vs ds → DpXs K H (v :: vs) (d :: ds)
end
section
variable {X : Cx} {pins : List (Addr × Obj)} {σ : L2.St} {H : Hp} {s : Shared}
theorem trk_ne (I : Inv X pins σ H s) (hsy : ∃ m, X.base.Ns sysModules m) {a : Addr} {o : HO} (h : H a = some o) : sysModules ≠ a := fun e => by
  subst e
  obtain ⟨m, o', es, ep, e1, _⟩ := hsy
  have := (I.bs _ _ e1).2
  rw [h] at this
  cases this
theorem sq_ne (I : Inv X pins σ H s) (hsy : ∃ m, X.base.Ns sysModules m) {a : Addr} {xs : List V} (h : SqL X.K H a xs) : sysModules ≠ a := by
  rcases h with (h | ⟨o, h⟩) | ⟨o, its, n, hk, hc, hd, hs, _⟩
  · exact trk_ne I hsy h
  · exact trk_ne I hsy h
  · intro e
    subst e
    obtain ⟨m, o', es, ep, e1, d1, _⟩ := hsy
    have := I.ok.mod.kin _ _ hk
    rw [e1] at this
    cases this
    rw [hs] at d1
    cases d1
theorem kv_vals : ∀ {kvs : List (Key × V)} {vs : List (Key × Value)}, KV kvs vs → Vals (kvs.map (·.2)) (vs.map (·.2))
  | _, _, .nil => .nil
  | _, _, .cons h t => .cons h.2 (kv_vals t)
theorem kv_pairs {h : Heap} : ∀ {kvs : List (Key × V)} {vs : List (Key × Value)} {ds : List PyData} {as : List Addr}, KV kvs vs → ReadsAll h (vs.map (·.2)) ds as → PyProof.V.PairsRead h encK vs ((kvs.map fun p => encK p.1).zip ds) as
  | _, _, _, _, .nil, r => by cases r; exact .nil
  | _, _, _, _, .cons (a := p) (b := q) e t, r => by
    obtain ⟨k, v⟩ := q
    cases r with
    | cons r1 r2 =>
      have := kv_pairs t r2
      obtain ⟨e1, _⟩ := e
      simp only [List.map_cons, List.zip_cons_cons, e1]
      exact .cons r1 this
mutual
theorem readsX (I : Inv X pins σ H s) (hsy : ∃ m, X.base.Ns sysModules m) : ∀ {v : V} {d : PyData} {u : Value}, DpX X.K H v d → RelV v u → ∃ as, Reads s.heap u d as ∧ sysModules ∉ as
  | _, _, _, .non, r => by cases r; exact ⟨_, Reads.none, by simp⟩
  | _, _, _, .bl b, r => by cases r; exact ⟨_, Reads.bool b, by simp⟩
  | _, _, _, .int i, r => by obtain ⟨t, rfl⟩ := r; exact ⟨_, Reads.int i t, by simp⟩
  | _, _, _, .str i, r => by obtain ⟨t, rfl⟩ := r; exact ⟨_, Reads.str i t, by simp⟩
  | _, _, _, .lst hs ha, r => by
    cases r
    obtain ⟨its, rv, ⟨o, n, ho, hc, _, hd⟩, _⟩ := I.list hs
    obtain ⟨as, hr, hn⟩ := readsXs I hsy ha rv
    exact ⟨_, Reads.list ho hc hd hr, by simp [sq_ne I hsy hs, hn]⟩
  | _, _, _, .tup hs ha, r => by
    cases r
    obtain ⟨its, rv, ⟨o, ho, hc, n, hd⟩, _⟩ := I.tuple hs
    obtain ⟨as, hr, hn⟩ := readsXs I hsy ha rv
    exact ⟨_, Reads.tuple ho hc hd hr, hn⟩
  | _, _, _, .dct (kvs := kvs) (ds := ds) hs ha, r => by
    cases r
    obtain ⟨_, _, vs, kv, hd⟩ := dk_of I.hok hs
    obtain ⟨bs, hr, hn⟩ := readsXs I hsy ha (kv_vals kv)
    have hp := kv_pairs kv hr
    exact ⟨_, PyProof.V.reads_dictOf (fun k key hk => by
      rcases keyIs_shape hk with ⟨i, t, rfl, rfl⟩ | ⟨x, t, rfl, rfl⟩
      · exact Reads.int i t
      · exact Reads.str x t) hd hp, by simp [trk_ne I hsy hs, hn]⟩
theorem readsXs (I : Inv X pins σ H s) (hsy : ∃ m, X.base.Ns sysModules m) : ∀ {vs : List V} {ds : List PyData} {us : List Value}, DpXs X.K H vs ds → Vals vs us → ∃ as, ReadsAll s.heap us ds as ∧ sysModules ∉ as
  | _, _, _, .nil, r => by cases r; exact ⟨_, ReadsAll.nil, by simp⟩
  | _, _, _, .cons h1 h2, r => by
    cases r with
    | cons r1 r2 =>
      obtain ⟨as, q1, n1⟩ := readsX I hsy h1 r1
      obtain ⟨bs, q2, n2⟩ := readsXs I hsy h2 r2
      exact ⟨_, ReadsAll.cons q1 q2, by simp [n1, n2]⟩
end
def rStrX (K : PySem.W.Frag) : List V → Hp → VK → Prop := fun vs H Q => (∃ (a : Addr) (p : PyData), vs = [.ref a] ∧ DpX K H (.ref a) p ∧ p.showable = true ∧ p.depth ≤ 40 ∧ p.shown.length ≤ sizeLine ∧ Q (.str p.shown) H) ∨ (∃ i, vs = [.int i] ∧ i.natAbs.log2 < 1920 ∧ Q (.str (toString i)) H) ∨ (∃ z, vs = [.str z] ∧ Q (.str z) H) ∨ (∃ b, vs = [.bl b] ∧ Q (.str (if b then "True" else "False")) H) ∨ (vs = [.non] ∧ Q (.str "None") H)
end
end L2
namespace DL
open PySem PySem.Spec PyProof.Rows L2 PySem.W
mutual
@[simp] def toPx (G : Gp) : D → Option PyData
  | .non => some .none
  | .bl b => some (.bool b)
  | .int i => some (.int i)
  | .str x => some (.str x)
  | .lst ds => (toPxs G ds).map .list
  | .tup ds => (toPxs G ds).map .tuple
  | .dct ks ds => (toPxs G ds).map fun ps => .dict ((ks.map encK).zip ps)
  | .scr ns => some (.list (ns.map .int))
  | .ref a => toPy G (.ref a)
  | _ => none
@[simp] def toPxs (G : Gp) : List D → Option (List PyData)
  | [] => some []
  | d :: ds => match toPx G d, toPxs G ds with
    | some a, some r => some (a :: r)
    | _, _ => none
end
section
variable {K : PySem.W.Frag} {P : Addr → Prop} {G : Gp} {H : Hp}
mutual
theorem dpx_dp : ∀ {v : V} {p : PyData}, Dp K H v p → DpX K H v p
  | _, _, .non => .non
  | _, _, .bl b => .bl b
  | _, _, .int b => .int b
  | _, _, .str b => .str b
  | _, _, .lst a b => .lst a (dpxs_dp b)
  | _, _, .tup a b => .tup a (dpxs_dp b)
theorem dpxs_dp : ∀ {vs : List V} {ps : List PyData}, DpAll K H vs ps → DpXs K H vs ps
  | _, _, .nil => .nil
  | _, _, .cons a b => .cons (dpx_dp a) (dpxs_dp b)
end
mutual
theorem dpx_of (w : Wo K P G H) : ∀ (d : D) {v : V} {p : PyData}, Rep K H G P d v → toPx G d = some p → DpX K H v p
  | .non, v, p, h, e => by rw [toPx] at e; cases e; rw [rep_n h]; exact .non
  | .bl b, v, p, h, e => by rw [toPx] at e; cases e; rw [rep_b h]; exact .bl b
  | .int b, v, p, h, e => by rw [toPx] at e; cases e; rw [rep_i h]; exact .int b
  | .str b, v, p, h, e => by rw [toPx] at e; cases e; rw [rep_s h]; exact .str b
  | .ty n, v, p, h, e => by simp [toPx] at e
  | .cl n, v, p, h, e => by simp [toPx] at e
  | .exc a dd f x, v, p, h, e => by simp [toPx] at e
  | .scr ns, v, p, h, e => dpx_dp (dp_of w (.scr ns) h (by simpa using e))
  | .ref a, v, p, h, e => dpx_dp (dp_of w (.ref a) h (by rw [toPx] at e; exact e))
  | .lst ds, v, p, h, e => by
    rw [toPx] at e
    obtain ⟨ps, e1, rfl⟩ := opt_map e
    obtain ⟨a, xs, rfl, g, pp, r, z, q⟩ := rep_l h
    exact .lst (SqL.of r) (dpxs_of w ds q e1)
  | .tup ds, v, p, h, e => by
    rw [toPx] at e
    obtain ⟨ps, e1, rfl⟩ := opt_map e
    obtain ⟨a, xs, rfl, g, pp, r, z, q⟩ := rep_t h
    exact .tup (SqT.of r) (dpxs_of w ds q e1)
  | .dct ks ds, v, p, h, e => by
    rw [toPx] at e
    obtain ⟨ps, e1, rfl⟩ := opt_map e
    unfold Rep at h
    obtain ⟨a, xs, rfl, g, pp, r, z, q⟩ := h
    have hl : ks.length = xs.length := by rw [z, q.length]
    have e3 : (ks.zip xs).map (·.2) = xs := List.map_snd_zip (by omega)
    have e4 : (ks.zip xs).map (fun p => encK p.1) = ks.map encK := by
      have : (ks.zip xs).map (fun p => encK p.1) = ((ks.zip xs).map (·.1)).map encK := by rw [List.map_map]; rfl
      rw [this, List.map_fst_zip (by omega)]
    have := DpX.dct (K := K) r (ds := ps) (by rw [e3]; exact dpxs_of w ds q e1)
    rw [e4] at this
    exact this
theorem dpxs_of (w : Wo K P G H) : ∀ (ds : List D) {vs : List V} {ps : List PyData}, Reps K H G P ds vs → toPxs G ds = some ps → DpXs K H vs ps
  | [], _, _, h, e => by unfold Reps at h; subst h; rw [toPxs] at e; cases e; exact .nil
  | d :: ds, _, _, h, e => by
    unfold Reps at h
    obtain ⟨x, r, rfl, h1, h2⟩ := h
    rw [toPxs] at e
    split at e
    · rename_i a b ea eb
      cases e
      exact .cons (dpx_of w d h1 ea) (dpxs_of w ds h2 eb)
    · cases e
end
end
end DL
set_option Elab.async false
set_option linter.all false
set_option maxRecDepth 100000
set_option maxHeartbeats 4000000
namespace DL
open PySem PySem.Spec PyProof.Rows L2 LN
theorem asc_name {x : Str} (h : NameOk x) : Asc x := fun c hc => by have := h.az c hc; omega
end DL
set_option Elab.async false
set_option linter.all false
set_option maxRecDepth 100000
set_option maxHeartbeats 4000000
namespace DL
open PySem PySem.Spec PyProof.Rows L2 LN
mutual
def anyD : D → Bool
  | .non => true
  | .bl _ => true
  | .int _ => true
  | .str _ => true
  | .lst ds => anyDs ds
  | .tup ds => anyDs ds
  | .dct _ ds => anyDs ds
  | _ => false
def anyDs : List D → Bool
  | [] => true
  | d :: ds => anyD d && anyDs ds
end
mutual
theorem any_plain : ∀ {d : D}, anyD d = true → plainD d = true
  | .non, _ => rfl
  | .bl _, _ => rfl
  | .int _, _ => rfl
  | .str _, _ => rfl
  | .ty _, h => by simp [anyD] at h
  | .cl _, h => by simp [anyD] at h
  | .ref _, h => by simp [anyD] at h
  | .exc _ _ _ _, h => by simp [anyD] at h
  | .scr _, h => by simp [anyD] at h
  | .lst ds, h => by simp only [anyD] at h; simp only [plainD]; exact anys_plain h
  | .tup ds, h => by simp only [anyD] at h; simp only [plainD]; exact anys_plain h
  | .dct _ ds, h => by simp only [anyD] at h; simp only [plainD]; exact anys_plain h
theorem anys_plain : ∀ {ds : List D}, anyDs ds = true → plainDs ds = true
  | [], _ => rfl
  | d :: ds, h => by
    simp only [anyDs, Bool.and_eq_true] at h
    simp only [plainDs, Bool.and_eq_true]
    exact ⟨any_plain h.1, anys_plain h.2⟩
end
@[simp] def isI : D → Bool
  | .int _ => true
  | .bl _ => true
  | _ => false
@[simp] def isB : D → Bool
  | .bl _ => true
  | _ => false
@[simp] def isS : D → Bool
  | .str _ => true
  | _ => false
@[simp] def isL : D → Bool
  | .lst _ => true
  | _ => false
@[simp] def isT : D → Bool
  | .tup _ => true
  | _ => false
theorem isi_int {d : D} {G : Gp} {Q : DK} (h : anyD d = true) : cIsi [d, .ty "int"] G Q = Q (.bl (isI d)) G := by
  have k1 : kitB "NoneType" "int" = some false := by decide +kernel
  have k2 : kitB "bool" "int" = some true := by decide +kernel
  have k3 : kitB "str" "int" = some false := by decide +kernel
  have k4 : kitB "list" "int" = some false := by decide +kernel
  have k5 : kitB "tuple" "int" = some false := by decide +kernel
  have k6 : kitB "dict" "int" = some false := by decide +kernel
  cases d with
  | non => simp [tyD, k1]
  | bl b => simp [tyD, k2]
  | int b => simp [tyD]
  | str b => simp [tyD, k3]
  | lst b => simp [tyD, k4]
  | tup b => simp [tyD, k5]
  | dct b c => simp [tyD, k6]
  | _ => simp [anyD] at h
theorem isi_bool {d : D} {G : Gp} {Q : DK} (h : anyD d = true) : cIsi [d, .ty "bool"] G Q = Q (.bl (isB d)) G := by
  have k1 : kitB "NoneType" "bool" = some false := by decide +kernel
  have k3 : kitB "str" "bool" = some false := by decide +kernel
  have k4 : kitB "list" "bool" = some false := by decide +kernel
  have k5 : kitB "tuple" "bool" = some false := by decide +kernel
  have k6 : kitB "dict" "bool" = some false := by decide +kernel
  cases d with
  | non => simp [tyD, k1]
  | bl b => simp [tyD]
  | int b => simp [tyD]
  | str b => simp [tyD, k3]
  | lst b => simp [tyD, k4]
  | tup b => simp [tyD, k5]
  | dct b c => simp [tyD, k6]
  | _ => simp [anyD] at h
theorem isi_list {d : D} {G : Gp} {Q : DK} (h : anyD d = true) : cIsi [d, .ty "list"] G Q = Q (.bl (isL d)) G := by
  have k1 : kitB "NoneType" "list" = some false := by decide +kernel
  have k2 : kitB "bool" "list" = some false := by decide +kernel
  have k3 : kitB "int" "list" = some false := by decide +kernel
  have k4 : kitB "str" "list" = some false := by decide +kernel
  have k5 : kitB "tuple" "list" = some false := by decide +kernel
  have k6 : kitB "dict" "list" = some false := by decide +kernel
  cases d with
  | non => simp [tyD, k1]
  | bl b => simp [tyD, k2]
  | int b => simp [tyD, k3]
  | str b => simp [tyD, k4]
  | lst b => simp [tyD]
  | tup b => simp [tyD, k5]
  | dct b c => simp [tyD, k6]
  | _ => simp [anyD] at h
theorem isi_tuple {d : D} {G : Gp} {Q : DK} (h : anyD d = true) : cIsi [d, .ty "tuple"] G Q = Q (.bl (isT d)) G := by
  have k1 : kitB "NoneType" "tuple" = some false := by decide +kernel
  have k2 : kitB "bool" "tuple" = some false := by decide +kernel
  have k3 : kitB "int" "tuple" = some false := by decide +kernel
  have k4 : kitB "str" "tuple" = some false := by decide +kernel
  have k5 : kitB "list" "tuple" = some false := by decide +kernel
  have k6 : kitB "dict" "tuple" = some false := by decide +kernel
  cases d with
  | non => simp [tyD, k1]
  | bl b => simp [tyD, k2]
  | int b => simp [tyD, k3]
  | str b => simp [tyD, k4]
  | lst b => simp [tyD, k5]
  | tup b => simp [tyD]
  | dct b c => simp [tyD, k6]
  | _ => simp [anyD] at h
theorem isi_str {d : D} {G : Gp} {Q : DK} (h : anyD d = true) : cIsi [d, .ty "str"] G Q = Q (.bl (isS d)) G := by
  have k1 : kitB "NoneType" "str" = some false := by decide +kernel
  have k2 : kitB "bool" "str" = some false := by decide +kernel
  have k3 : kitB "int" "str" = some false := by decide +kernel
  have k4 : kitB "list" "str" = some false := by decide +kernel
  have k5 : kitB "tuple" "str" = some false := by decide +kernel
  have k6 : kitB "dict" "str" = some false := by decide +kernel
  have k7 : kitB "str" "str" = some true := by decide +kernel
  cases d with
  | non => simp [tyD, k1]
  | bl b => simp [tyD, k2]
  | int b => simp [tyD, k3]
  | str b => simp [tyD, k7]
  | lst b => simp [tyD, k4]
  | tup b => simp [tyD, k5]
  | dct b c => simp [tyD, k6]
  | _ => simp [anyD] at h
/-- is_whole of anything -/
@[simp] def whB : D → Bool
  | .int _ => true
  | _ => false
theorem whole_any {d : D} {G : Gp} {Q : DK} (h : anyD d = true) (q : Q (.bl (whB d)) G) : F_is_whole [d] G Q := by
  have e1 := isi_int (d := d) (G := G) (Q := fun x _ => x = .bl (isI d)) h
  have e2 := isi_bool (d := d) (G := G) (Q := fun x _ => x = .bl (isB d)) h
  simp only [cIsi, eq_iff_iff, iff_true] at e1 e2
  cases ty : tyD G d with
  | none => rw [ty] at e1; simp at e1
  | some m =>
    rw [ty] at e1 e2
    simp only [Option.bind_some] at e1 e2
    cases k1 : kitB m "int" with
    | none => rw [k1] at e1; simp at e1
    | some a =>
      cases k2 : kitB m "bool" with
      | none => rw [k2] at e2; simp at e2
      | some b =>
        rw [k1] at e1
        rw [k2] at e2
        have e1 : D.bl a = D.bl (isI d) := e1
        have e2 : D.bl b = D.bl (isB d) := e2
        refine ⟨d, m, a, b, rfl, ty, k1, k2, ?_⟩
        rw [D.bl.inj e1, D.bl.inj e2]
        have : (isI d && !isB d) = whB d := by cases d <;> rfl
        rw [this]; exact q
def Thg (k n : Nat) (d : D) : Prop := anyD d = true ∧ ∃ p, (∀ G, toPx G d = some p) ∧ p.showable = true ∧ p.depth ≤ k ∧ Asc p.shown ∧ p.shown.length ≤ n
theorem Thg.mono {k k' n n' : Nat} {d : D} (h : Thg k n d) (hk : k ≤ k') (hn : n ≤ n') : Thg k' n' d := by
  obtain ⟨h1, p, h2, h3, h4, h5, h6⟩ := h
  exact ⟨h1, p, h2, h3, by omega, h5, by omega⟩
theorem thg_of {k n : Nat} {d : D} {p : PyData} (ha : anyD d = true) (hp : ∀ G, toPx G d = some p) (hd : p.depth ≤ k) (t : Tx n p) : Thg k n d := ⟨ha, p, hp, t.sh, hd, t.asc, t.len⟩
theorem thg_non : Thg 0 4 .non := thg_of rfl (fun _ => by simp) (by simp [PyData.depth]) tx_none
theorem thg_bl (b : Bool) : Thg 0 5 (.bl b) := thg_of rfl (fun _ => by simp) (by simp [PyData.depth]) (tx_bool b)
theorem thg_int {i : Int} (h : i.natAbs < 10 ^ 60) : Thg 0 61 (.int i) := thg_of rfl (fun _ => by simp) (by simp [PyData.depth]) (tx_int h)
theorem thg_i {i : Int} (h1 : -1000000000000000000000000000000000000000000000000000 ≤ i) (h2 : i ≤ 1000000000000000000000000000000000000000000000000000) : Thg 0 61 (.int i) := thg_int (by
  have e : (10 : Nat) ^ 60 = 1000000000000000000000000000000000000000000000000000000000000 := by decide
  rw [e]; omega)
theorem thg_str {x : Str} {n : Nat} (h : Asc x) (hn : x.length ≤ n) : Thg 0 (10 * n + 2) (.str x) := thg_of rfl (fun _ => by simp) (by simp [PyData.depth]) (tx_str h hn)
theorem thg_list {k n : Nat} : ∀ {ds : List D}, (∀ d ∈ ds, Thg k n d) → anyDs ds = true ∧ ∃ ps : List PyData, (∀ G, toPxs G ds = some ps) ∧ ps.length = ds.length ∧ ∀ p ∈ ps, p.showable = true ∧ p.depth ≤ k ∧ Asc p.shown ∧ p.shown.length ≤ n
  | [], _ => ⟨rfl, [], fun _ => by simp, rfl, by simp⟩
  | d :: ds, h => by
    obtain ⟨a1, p, a2, a3⟩ := h d List.mem_cons_self
    obtain ⟨b1, ps, b2, b3, b4⟩ := thg_list (ds := ds) fun e he => h e (List.mem_cons_of_mem _ he)
    refine ⟨by simp [anyDs, a1, b1], p :: ps, fun G => by simp [a2 G, b2 G], by simp [b3], fun q hq => ?_⟩
    rcases List.mem_cons.mp hq with rfl | z
    · exact a3
    · exact b4 q z
theorem depthAll_le' {k : Nat} : ∀ {ps : List PyData}, (∀ p ∈ ps, p.depth ≤ k) → PyData.depthAll ps ≤ k
  | [], _ => by simp [PyData.depthAll]
  | p :: ps, h => by
    have := h p List.mem_cons_self
    have := depthAll_le' (ps := ps) fun q hq => h q (List.mem_cons_of_mem _ hq)
    simp only [PyData.depthAll]
    omega
theorem thg_lst {k n m : Nat} {ds : List D} (h : ∀ d ∈ ds, Thg k n d) (hm : ds.length ≤ m) : Thg (k + 1) (m * (n + 2) + 2) (.lst ds) := by
  obtain ⟨a, ps, e, l, q⟩ := thg_list h
  refine ⟨by simpa [anyD] using a, .list ps, fun G => by simp [e G], by simp only [PyData.showable]; exact showableAll_of fun x hx => (q x hx).1, by simp only [PyData.depth]; have := depthAll_le' (ps := ps) fun x hx => (q x hx).2.1; omega, ?_, ?_⟩
  · simp only [PyData.shown, shownAll_map]
    exact asc_app (asc_from (asc_of _) fun t ht => by obtain ⟨x, hx, rfl⟩ := List.mem_map.mp ht; exact (q x hx).2.2.1) (asc_of _)
  · simp only [PyData.shown, shownAll_map]
    have h1 := listText_le (ps.map PyData.shown)
    have h2 := piled_le (n := n) (ts := ps.map PyData.shown) fun t ht => by obtain ⟨x, hx, rfl⟩ := List.mem_map.mp ht; exact (q x hx).2.2.2
    rw [List.length_map] at h2
    have h3 : ps.length * (n + 2) ≤ m * (n + 2) := Nat.mul_le_mul_right _ (by omega)
    omega
theorem thg_tup {k n m : Nat} {ds : List D} (h : ∀ d ∈ ds, Thg k n d) (hm : ds.length ≤ m) : Thg (k + 1) (m * (n + 2) + 4) (.tup ds) := by
  obtain ⟨a, ps, e, l, q⟩ := thg_list h
  refine ⟨by simpa [anyD] using a, .tuple ps, fun G => by simp [e G], by simp only [PyData.showable]; exact showableAll_of fun x hx => (q x hx).1, by simp only [PyData.depth]; have := depthAll_le' (ps := ps) fun x hx => (q x hx).2.1; omega, ?_, ?_⟩
  · simp only [PyData.shown, shownAll_map]
    exact asc_app (asc_app (asc_of _) (asc_join (asc_of _) fun t ht => by obtain ⟨x, hx, rfl⟩ := List.mem_map.mp ht; exact (q x hx).2.2.1)) (asc_of _)
  · simp only [PyData.shown, shownAll_map]
    have h1 := tupleText_le (ps.map PyData.shown)
    have h2 := piled_le (n := n) (ts := ps.map PyData.shown) fun t ht => by obtain ⟨x, hx, rfl⟩ := List.mem_map.mp ht; exact (q x hx).2.2.2
    rw [List.length_map] at h2
    have h3 : ps.length * (n + 2) ≤ m * (n + 2) := Nat.mul_le_mul_right _ (by omega)
    omega
theorem thg_dnil : Thg 1 2 (.dct [] []) := ⟨rfl, .dict [], fun _ => by simp, rfl, by simp [PyData.depth, PyData.depthKv], by simp only [PyData.shown, PyData.shownKv]; exact asc_app (asc_app (asc_of _) (asc_join (asc_of _) (by simp))) (asc_of _), by decide⟩
theorem ix_at {L : List D} {i : Int} {d : D} {G : Gp} {Q : DK} (e : atI L i = some d) (q : Q d G) : oIx (.lst L) (.int i) G Q := by
  simp only [oIx, lkQ, lkL, e]; exact q
theorem add_ok {L M : List D} {G : Gp} {Q : DK} (h : L.length + M.length ≤ 16777216) (q : Q (.lst (L ++ M)) G) : oAdd (.lst L) (.lst M) G Q := by
  simp only [oAdd, lkL]; exact ⟨h, q⟩
theorem Thg.any {k n : Nat} {d : D} (h : Thg k n d) : anyD d = true := h.1
end DL
set_option Elab.async false
set_option linter.all false
set_option maxRecDepth 100000
set_option maxHeartbeats 4000000
namespace DL
open PySem PySem.Spec PyProof.Rows L2 LN
end DL
set_option Elab.async false
set_option linter.all false
set_option maxRecDepth 100000
set_option maxHeartbeats 4000000
namespace DL
open PySem PySem.Spec PyProof.Rows L2 LN
theorem fin_stF {G G' : Gp} {Q : DK} {a p : Addr} {x y z x' y' z' : Int} {ds : List D} {d : D} (hG : G a = some (stO x y z)) (hp : G p = none) (hG' : G' = gput (gput G a (stO x' y' z')) p (.lst ds)) (pl : plainDs ds = true) (pd : plainD (frz p ds d) = true)
    (q : Q (frz p ds d) (gput G a (stO x' y' z'))) : (fin G Q).rt d G' := by
  have hpa : p ≠ a := fun e => by subst e; rw [hG] at hp; cases hp
  subst hG'
  refine fin_frz (G2 := gput G a (stO x' y' z')) (p := p) (ds := ds) (fun b o e => ?_) (fun b o e => ?_) (fun b o e => ?_) gput_same (by rw [gput_ne hpa]; exact hp) (refIns_plain pl) (refIn_plain pd) q
  · by_cases h : b = p
    · subst h; rw [gput_ne hpa, hp] at e; cases e
    · rw [gput_ne h]; exact e
  · by_cases h : b = a
    · subst h; exact ⟨_, gput_same⟩
    · exact ⟨o, by rw [gput_ne h]; exact e⟩
  · by_cases h : b = a
    · subst h
      rw [gput_same] at e
      cases e
      exact .inl (refIns_plain (by simp [plainDs, plainD]))
    · rw [gput_ne h] at e; exact .inr e
end DL
set_option Elab.async false
set_option linter.all false
set_option maxRecDepth 100000
set_option maxHeartbeats 4000000
namespace DL
open PySem PySem.Spec PyProof.Rows L2 LN
/-- the end of a def that drew: plain data, other new things let go -/
theorem fin_stP {G G' : Gp} {Q : DK} {a : Addr} {x y z x' y' z' : Int} {d : D} (hG : G a = some (stO x y z)) (hG' : ∀ b u, gput G a (stO x' y' z') b = some u → G' b = some u) (pd : plainD d = true) (q : Q d (gput G a (stO x' y' z'))) : (fin G Q).rt d G' := by
  refine ⟨d, gput G a (stO x' y' z'), fz_sub hG' ?_ ?_ (refIn_plain pd), q⟩
  · intro b u e
    by_cases hba : b = a
    · subst hba; exact ⟨_, gput_same⟩
    · exact ⟨u, by rw [gput_ne hba]; exact e⟩
  · intro b u e
    by_cases hba : b = a
    · subst hba; rw [gput_same] at e; cases e; exact .inl (by simp [RefO, stO, RefIns, RefIn])
    · rw [gput_ne hba] at e; exact .inr e
end DL
set_option Elab.async false
set_option linter.all false
set_option maxRecDepth 100000
set_option maxHeartbeats 4000000
namespace DL
open PySem PySem.Spec PyProof.Rows L2 LN
end DL
set_option Elab.async false
set_option linter.all false
set_option maxRecDepth 100000
set_option maxHeartbeats 4000000
namespace DL
open PySem PySem.Spec PyProof.Rows L2 LN
end DL
set_option Elab.async false
set_option linter.all false
set_option maxRecDepth 100000
set_option maxHeartbeats 4000000
namespace DL
open PySem PySem.Spec PyProof.Rows L2 LN
theorem enumD_at (es : List D) : enumD es = (List.range' 0 es.length).map fun (i : Nat) => D.tup [.int (i : Nat), es.getD i .non] := by
  apply List.ext_getElem (by rw [enumD_length]; simp)
  intro i h1 h2
  rw [enumD_length] at h1
  obtain ⟨d, e1, e2⟩ := enumD_get (ds := es) (i := i) (e := (enumD es)[i]'(by rw [enumD_length]; exact h1)) (List.getElem?_eq_getElem _)
  rw [e2]
  simp [List.getD_eq_getElem?_getD, e1]
end DL
set_option Elab.async false
set_option linter.all false
set_option maxRecDepth 100000
set_option maxHeartbeats 4000000
namespace DL
open PySem PySem.Spec PyProof.Rows L2
abbrev Ux := Xd → Gp → Prop
abbrev Sx := List D → Gp → DK → Ux → Prop
abbrev EX := Sd → Gp → DK → Ux → Prop
abbrev EAX := Sd → Gp → (List D → Gp → Prop) → Ux → Prop
def LfX (K : PySem.W.Frag) (n : Nat) (f : Sx) : Sp := fun vs H R E => vs.length = n ∧ ∃ (P : Addr → Prop) (ds : List D) (G : Gp) (Q : DK) (U : Ux), Wo K P G H ∧ Reps K H G P ds vs ∧ f ds G Q U ∧
  (∀ d G' v H', Step G H G' H' → Wo K P G' H' → Rep K H' G' P d v → Q d G' → R v H') ∧ (∀ x G' cls d H', Step G H G' H' → Wo K P G' H' → RepX K H' G' P x cls d → U x G' → E cls d H')
def LEx (K : PySem.W.Frag) (Y : Wx) (te : TE) (t : EX) : Prop := ∀ (P : Addr → Prop) (s : Sd) (G : Gp) (Q : DK) (U : Ux) (σ : L2.St) (H : Hp) (R : VK), t s G Q U → Rl K P s G σ H →
  (∀ d G' v H', Step G H G' H' → Wo K P G' H' → Rep K H' G' P d v → Q d G' → R v H') → (∀ x G' cls d H', Step G H G' H' → Wo K P G' H' → RepX K H' G' P x cls d → U x G' → Y.w cls d σ H') → te σ H R
def LAx (K : PySem.W.Frag) (Y : Wx) (n : Nat) (te : TA) (t : EAX) : Prop := ∀ (P : Addr → Prop) (s : Sd) (G : Gp) (Q : List D → Gp → Prop) (U : Ux) (σ : L2.St) (H : Hp) (R : List V → Hp → Prop), t s G Q U → Rl K P s G σ H →
  (∀ ds G' vs H', Step G H G' H' → Wo K P G' H' → Reps K H' G' P ds vs → ds.length = n → Q ds G' → R vs H') → (∀ x G' cls d H', Step G H G' H' → Wo K P G' H' → RepX K H' G' P x cls d → U x G' → Y.w cls d σ H') → te σ H R
inductive JEx (X : Cx) (Y : Wx) (e : Expr) (t : EX) : Prop where
  | mk {te : TE} (a : PE X e te) (b : LEx X.K Y te t) : JEx X Y e t
inductive JAx (X : Cx) (Y : Wx) (es : List Expr) (t : EAX) : Prop where
  | mk {te : TA} (a : PA X es te) (b : LAx X.K Y es.length te t) : JAx X Y es t
@[simp] def eXp (t : EE) : EX := fun s G Q _ => t s G Q
@[simp] def eXa (t : EA) : EAX := fun s G Q _ => t s G Q
@[simp] def eConsX (ta : EX) (tr : EAX) : EAX := fun s G Q U => ta s G (fun x G1 => tr s G1 (fun xs G2 => Q (x :: xs) G2) U) U
@[simp] def eCallX (F : Sx) (ta : EAX) : EX := fun s G Q U => ta s G (fun ds G1 => F ds G1 Q U) U
@[simp] def eCallN (F : Sf) (ta : EAX) : EX := fun s G Q U => ta s G (fun ds G1 => F ds G1 Q) U
@[simp] def eLstX (ta : EAX) : EX := fun s G Q U => ta s G (fun xs G1 => xs.length ≤ sizeLine ∧ Q (.lst xs) G1) U
@[simp] def eCBX (c : CD) (ta : EAX) : EX := fun s G Q U => ta s G (fun xs G1 => c xs G1 Q) U
section
variable {X : Cx} {Y : Wx} {K : PySem.W.Frag} {e : Expr} {es : List Expr} {pos : Pos}
theorem jax_of {t : EA} (h : JA X es t) : JAx X Y es (eXa t) := ⟨h.pa, fun P s G Q U σ H R h1 r k _ => h.la P s G Q σ H R h1 r k⟩
structure CalX (P : Program) (w : World) (K : PySem.W.Frag) (mg : Str → Option Value) (base : Heap) (k : Nat) (x : Str) (ps : List Str) (F : Sx) : Prop where
  ex : ∃ f fd, FnOk P w K mg base (L2.CX P w) k f fd ps (LfX K ps.length F) ∧ mg x = some (.ref f) ∧ PySem.W.keepIn K (.ref f) = true ∧ Binds K fd ps []
theorem lex_call {n : Nat} {F : Sx} {t : TA} {ea : EAX} (ha : LAx K Y n t ea) : LEx K Y (tCallS (LfX K n F) (WE Y.w) t) (eCallX F ea) := fun P s G Q U σ H R h r k kx => by
  refine ha P s G _ U σ H _ h r (fun ds G1 vs H1 s1 w1 r1 l1 h1 => ?_) kx
  exact ⟨by rw [← r1.length]; exact l1, P, ds, G1, Q, U, w1, r1, h1, fun d G' v H' st w rp q => k d G' v H' (s1.trans st) w rp q, fun x G' cls d H' st w rx u => kx x G' cls d H' (s1.trans st) w rx u⟩
theorem jx_cal {k : Nat} {ps : List Str} {F : Sx} {x : Str} {p : Pos} {ea : EAX} (c : CalX X.prog X.w K X.mg X.base k x ps F) (hr : Room k X.A) (tk : Takes X Y.w) (hg : Gl X x) (ha : JAx X Y (e :: es) ea) (hK : X.K = K := by rfl) (hlen : (e :: es).length = ps.length := by rfl)
    (hdb : (x == ("__debug__" : Str)) = false := by decide) (he : starEach (e :: es) X.env = (false, eval e X.env) :: starEach es X.env := by rfl) (hpl : (backTo pos (starEach es X.env)).any (·.1) = false := by rfl) : JEx X Y (.Call (.Name x p) (e :: es) [] pos) (eCallX F ea) := by
  subst hK
  obtain ⟨f, fd, h1, h2, h3, h4⟩ := c.ex
  obtain ⟨a, b⟩ := ha
  rw [← hlen] at h1
  exact ⟨pe_callS h1 hr hg h2 h3 h4 (fun σ => passAt tk σ) a hdb he hpl, lex_call b⟩
end
@[simp] def sDropX (te : EX) : ES := fun N s G => te s G (fun _ G1 => N.nx s G1) fun x G1 => N.xr x s G1
@[simp] def sRetX (te : EX) : ES := fun N s G => te s G N.rt fun x G1 => N.xr x s G1
@[simp] def sAsgX (te : EX) (t : Tg) : ES := fun N s G => te s G (fun d G1 => match asg t d s with
  | some s' => N.nx s' G1
  | none => False) fun x G1 => N.xr x s G1
@[simp] def sRaise (c : Str) : ES := fun N s G => N.xr ⟨c, none⟩ s G
@[simp] def sRaiseF (c f : Str) (te : EE) : ES := fun N s G => te s G fun d G1 => N.xr ⟨c, some (f, d)⟩ s G1
section
variable {X : Cx} {Y : Wx} {K : PySem.W.Frag} {e : Expr} {es : List Expr} {pos : Pos} {ee : EX}
theorem js_exprX (he : JEx X Y e ee) (hs : swapsWith e none pos.line X.env = pure false := by rfl) : JS X Y (.Expr e pos) (sDropX ee) := by
  obtain ⟨a, b⟩ := he
  exact ⟨ps_expr a hs, fun P s G N σ H M h r k => b P s G _ _ σ H _ h r (fun d G' v H' st w rp q => k.nx s G' σ H' st (r.step st w) q) fun x G' cls d H' st w rx u => k.xr x s G' cls d σ H' st (r.step st w) rx u⟩
def initSp (K : PySem.W.Frag) (f : Str) : Sp := fun vs H Q _ => ∃ (a C : Addr) (v : V), vs = [.ref a, v] ∧ OexC K C ∧ PySem.W.findIn K (.ref C) f = some none ∧ H a = some (exo a C none) ∧ ∀ dx, H dx = none → dx ≠ a → Q .non (upd (upd H dx (exd dx [(f, v)])) a (exo a C (some dx)))
/-- what is known of such a class -/
structure OxK (P : Program) (w : World) (K : PySem.W.Frag) (mg : Str → Option Value) (base : Heap) (c f : Str) : Prop where
  T : OexC K (He.ga K c)
  iC : PySem.W.findIn K (.ref (He.ga K c)) "__init__" = some (some (.ref (He.ma K (He.ga K c) "__init__")))
  tI : PySem.W.typeIn K (.ref (He.ma K (He.ga K c) "__init__")) = some (.type "function")
  nf : PySem.W.findIn K (.ref (He.ga K c)) f = some none
  gC : mg c = some (.ref (He.ga K c))
  fn : ∃ fd, FnOk P w K mg base CX0 1 (He.ma K (He.ga K c) "__init__") fd [("self" : Str), f] (initSp K f) ∧ Binds K fd [("self" : Str), f] []
theorem init_ok {P : Program} {w : World} {mg : Str → Option Value} {base : Heap} {C f q : Str} {st : Stmt} (D : DfM K C "__init__" q st) (S : FnScope [("self" : Str), f] [("self" : Str), f] (defScope st))
    (hb : ∀ (kV doc pm : Value) (an : Option Addr) (cdv ct : Value) (us : List Value), us.length = 2 → bindArgs (PySem.W.fnOf "__init__" q (defArgs st) (defBody st) (defScope st) .none kV doc pm an cdv ct) ⟨us, []⟩ = pure ([("self" : Str), f].zip us))
    (hp : ∀ (fA : Addr) (cdv : Value) (A : Around) (outer : List Env) (s : Shared) (H : Hp) (E : XK), PSs (cxOf CX0 P w K mg base [("self" : Str), f] q (defScope st) fA cdv A outer s H E) (defBody st) (tOst K f (tVar 0) (tVar 1))) :
    ∃ fd, FnOk P w K mg base CX0 1 (He.ma K (He.ga K C) "__init__") fd [("self" : Str), f] (initSp K f) ∧ Binds K fd [("self" : Str), f] [] := by
  obtain ⟨fd, h1⟩ := D.ex
  refine ⟨fd, h1.ok S (fun vs H Q E h => ?_) fun cdv A outer s H vs Q E hr h => ⟨_, hp _ cdv A outer s H E, ?_⟩, h1.bindsN hb⟩
  · obtain ⟨a, C, v, rfl, _⟩ := h
    rfl
  · obtain ⟨a, C, v, rfl, T, nf, e, k⟩ := h
    refine ⟨v, rfl, .ref a, rfl, a, C, rfl, T, nf, .inl ⟨e, fun dx h1 h2 => k dx h1 h2⟩⟩
theorem js_raiseF {x f : Str} {p pos2 : Pos} {k : Nat} {te : EE} (tk : Takes X Y.w) (o : OxK X.prog X.w K X.mg X.base x f) (hr : Room k X.A) (hk : 2 ≤ k) (hg : Gl X x) (hc : X.calm = true) (he : JE X e te) (hK : X.K = K := by rfl) (hdb : (x == ("__debug__" : Str)) = false := by decide)
    (hs : starEach (e :: []) X.env = (false, eval e X.env) :: starEach [] X.env := by rfl) (hpl : (backTo pos (starEach [] X.env)).any (·.1) = false := by rfl) :
    JS X Y (.Raise (some (.Call (.Name x p) [e] [] pos)) none pos2) (sRaiseF x f te) := by
  subst hK
  obtain ⟨fd, F1, B1⟩ := o.fn
  have ha : JA X [e] (eCons te eNil) := ja_cons he ja_nil hs
  refine ⟨ps_raise hc tk (pmk_oex o.T o.iC o.tI F1 (hr.mono hk) B1 .nil pass0 hg o.gC ha.pa hdb hs hpl), fun P s G N σ H M h r k => ?_⟩
  refine ha.la P s G (fun ds G1 => match ds with
    | [d] => N.xr ⟨x, some (f, d)⟩ s G1
    | _ => False) σ H _ h r fun ds G1 vs H1 s1 w1 r1 l1 h1 => ?_
  obtain ⟨d, rfl⟩ : ∃ d, ds = [d] := by
    match ds, l1 with
    | [d], _ => exact ⟨d, rfl⟩
  have h1 : N.xr ⟨x, some (f, d)⟩ s G1 := h1
  obtain ⟨v, rfl, rv⟩ := reps1 r1
  refine ⟨by simp, fun a ha => ?_⟩
  refine ⟨a, _, v, rfl, o.T, o.nf, upd_same, fun dx hd1 hd2 => ⟨rfl, dx, [(f, v)], upd_same, by rw [upd_ne hd2]; exact upd_same, ?_, ?_⟩⟩
  · rw [upd_ne hd2] at hd1
    exact hd1
  · have hd0 : H1 dx = none := by rw [upd_ne hd2] at hd1; exact hd1
    have eq : upd (del (upd (upd (upd H1 a (exo a (He.ga X.K x) none)) dx (exd dx [(f, v)])) a (exo a (He.ga X.K x) (some dx))) a) dx (.xd [(f, v)]) = upd H1 dx (.xd [(f, v)]) := by
      funext b
      by_cases q1 : b = dx
      · subst q1; rw [upd_same, upd_same]
      · rw [upd_ne q1, upd_ne q1]
        by_cases q2 : b = a
        · subst q2; rw [del_same, ha]
        · rw [del_ne q2, upd_ne q2, upd_ne q1, upd_ne q2]
    rw [eq]
    have st : Step G1 H1 G1 (upd H1 dx (.xd [(f, v)])) := Step.new hd0
    obtain ⟨f1, f2⟩ := w1.fresh hd0
    exact k.xr ⟨x, some (f, d)⟩ s G1 _ _ σ _ (s1.trans st) (r.step (s1.trans st) (w1.new hd0)) ⟨rfl, dx, v, rfl, f1, f2, upd_same, rv.step st⟩ h1
end
end DL
set_option Elab.async false
set_option linter.all false
set_option maxRecDepth 100000
set_option maxHeartbeats 4000000
namespace DL
open PySem PySem.Spec PyProof.Rows L2
/-- of the refusals' names -/
def isSub (x c : Str) : Bool := decide (x = c) || decide (c = "BenchError") || decide (c = "ValueError")
def excD (a dd : Addr) (x : Xd) : D := match x.f with
  | none => .cl a
  | some (n, e) => .exc a dd n e
def dOf (dd : Addr) (x : Xd) : Option Addr := match x.f with
  | none => none
  | some _ => some dd
/-- behind a suite whose name goes -/
def behind (i : Nat) (N : En) : En := { nx := fun s G => N.nx (s.set i none) G, rt := N.rt, bk := fun s G => N.bk (s.set i none) G, ct := fun s G => N.ct (s.set i none) G }
def sTryAs (ns : List Str) (c : Str) (i : Nat) (tb : ES) (ts : Addr → Addr → Xd → ES) : ES := fun N s G => tb { N with xr := fun x s' G' => x.c ∈ ns ∧ if isSub x.c c = true then ∀ a dd, ts a dd x (behind i N) (s'.set i (some (excD a dd x))) G' else N.xr x s' G' } s G
section
variable {K : PySem.W.Frag} {P : Addr → Prop} {s : Sd} {G : Gp} {σ : L2.St} {H : Hp}
theorem Rl.none (r : Rl K P s G σ H) (i : Nat) : Rl K P (s.set i none) G (σ.set i none) H := by
  refine ⟨r.wo, by rw [List.length_set, List.length_set]; exact r.len, fun j e q => ?_⟩
  by_cases hj : i = j
  · subst hj
    by_cases hi : i < s.length
    · rw [List.getElem?_set_self hi] at q
      cases q
    · rw [List.getElem?_eq_none (by rw [List.length_set]; omega)] at q; cases q
  · rw [List.getElem?_set_ne hj] at q
    obtain ⟨w, e1, e2⟩ := r.at_ j e q
    exact ⟨w, by rw [List.getElem?_set_ne hj]; exact e1, e2⟩
theorem repX_d {x : Xd} {cls : Value} {d : Option Addr} (h : RepX K H G P x cls d) : ∃ dd, d = dOf dd x ∧ ∀ a, Rep K H G P (excD a dd x) (.ref a) := by
  obtain ⟨_, h⟩ := h
  unfold dOf excD
  split at h
  · rename_i q
    rw [q]
    exact ⟨0, h, fun a => by unfold Rep; rfl⟩
  · rename_i n e q
    rw [q]
    obtain ⟨dd, v, e1, g, p, e2, r⟩ := h
    exact ⟨dd, e1, fun a => by unfold Rep; exact ⟨rfl, g, p, v, e2, r⟩⟩
/-- a suite's reading, over the heap -/
def tsUp (K : PySem.W.Frag) (ns : List Str) (ts : Addr → Addr → Xd → ES) (a : Addr) (cls : Value) (d : Option Addr) : TS := fun M σ H => ∃ (x : Xd) (dd : Addr), cls = .ref (He.ga K x.c) ∧ x.c ∈ ns ∧ d = dOf dd x ∧ upS K y0 (ts a dd x) M σ H
end
section
variable {X : Cx} {Y : Wx} {body suite : List Stmt} {b₀ : Stmt} {x n : Str} {cv : Value} {i : Nat} {np pos pos' : Pos} {ns : List Str} {tb : ES} {ts : Addr → Addr → Xd → ES} {K : PySem.W.Frag}
theorem js_tryAs (tk : Takes X Y.w) (hs : X.stack = X.env :: X.outer) (hf : X.env.frame = some X.env.locals) (hN : X.N.Nodup) (hi : X.N[i]? = some n) (hln : X.env.kindOf n = some .local) (hc : Names X x cv) (hm : ∀ m ∈ ns, PySem.W.exmOne K (.ref (He.ga K m)) cv = some (isSub m x))
    (hb : ∀ (W : WX) (pn : List (Addr × Obj)) (xe : Value → Shared → Prop), Takes (X.tr pn xe) W → PassesOwn (model X.prog X.w) X.A X.env xe → JSs (X.tr pn xe) ⟨W⟩ body tb)
    (hsu : ∀ (a dd : Addr) (x : Xd) (oe : Obj) (pn : List (Addr × Obj)), x.c ∈ ns → Zc (.ref (He.ga K x.c)) (dOf dd x) oe → (∃ vs, oe.data = .fields vs) → JSs (X.suite a ((a, oe) :: pn)) y0 (b₀ :: suite) (ts a dd x)) (hK : X.K = K := by rfl) :
    JS X Y (.Try body [.ExceptHandler (some (.Name x np)) (some n) (b₀ :: suite) pos'] [] [] pos) (sTryAs ns x i tb ts) := by
  subst hK
  refine ⟨ps_try_as (ts := tsUp X.K ns ts) (tb := fun W => upS X.K ⟨W⟩ tb) hs hf hN hi hln hc tk (fun W pn xe t po => (hb W pn xe t po).ps) (fun a oe cls d pn hz hv => ⟨fun pins s σ H M I h => ?_⟩), fun P s G N σ H M h r k => ?_⟩
  · obtain ⟨x, dd, rfl, hx, rfl, h⟩ := h
    exact (hsu a dd x oe pn hx hz hv).ps.run pins s σ H M I h
  · refine ⟨P, s, G, _, h, r, k.nx, k.rt, k.bk, k.ct, fun x s' G' cls d σ' H' st rl rx hx => ?_⟩
    obtain ⟨hx, h⟩ := hx
    refine ⟨isSub x.c _, by rw [rx.1]; exact hm x.c hx, fun e a ha => ?_, fun e => ?_⟩
    · rw [if_pos e] at h
      obtain ⟨dd, ed, re⟩ := repX_d rx
      refine ⟨x, dd, rx.1, hx, ed, P, _, G', _, h a dd, rl.set (re a), ?_, ?_, ?_, ?_, ?_⟩
      · intro s2 G2 σ2 H2 st2 rl2 q
        exact k.nx _ G2 _ H2 (st.trans st2) (rl2.none i) q
      · intro d2 G2 v2 H2 st2 w2 r2 q
        exact k.rt d2 G2 v2 H2 (st.trans st2) w2 r2 q
      · intro s2 G2 σ2 H2 st2 rl2 q
        exact k.bk _ G2 _ H2 (st.trans st2) (rl2.none i) q
      · intro s2 G2 σ2 H2 st2 rl2 q
        exact k.ct _ G2 _ H2 (st.trans st2) (rl2.none i) q
      · intro _ _ _ _ _ _ _ _ _ _ q
        exact q
    · rw [if_neg (by rw [e]; exact Bool.false_ne_true)] at h
      exact k.xr x s' G' cls d σ' H' st rl rx h
end
def FzX (G0 : Gp) (x : Xd) (G' G2 : Gp) : Prop := ∀ (K : PySem.W.Frag) (P : Addr → Prop) (H0 H : Hp) (cls : Value) (d : Option Addr), Wo K P G0 H0 → Step G0 H0 G' H → Wo K P G' H → RepX K H G' P x cls d → Step G0 H0 G2 H ∧ Wo K P G2 H ∧ RepX K H G2 P x cls d
theorem fzx_id {G0 G' : Gp} {x : Xd} : FzX G0 x G' G' := fun _ _ _ _ _ _ _ s w r => ⟨s, w, r⟩
def refX (G : Gp) (x : Xd) : Prop := match x.f with
  | none => True
  | some (_, e) => RefIn G e
theorem fzx_sub {G0 G' G2 : Gp} {x : Xd} (h1 : ∀ a o, G2 a = some o → G' a = some o) (h0 : ∀ a o, G0 a = some o → ∃ o', G2 a = some o') (hc : ∀ a o, G2 a = some o → RefO G2 o ∨ G0 a = some o) (hd : refX G2 x) : FzX G0 x G' G2 := fun K P H0 H cls d w0 st w r => by
  obtain ⟨b1, b2, _⟩ := fz_sub (d := .non) h1 h0 hc (by simp only [RefIn]) K P H0 H .non w0 st w rep_non
  refine ⟨b1, b2, r.1, ?_⟩
  have r2 := r.2
  unfold refX at hd
  split
  · rename_i q
    rw [q] at r2
    exact r2
  · rename_i n e q
    rw [q] at r2 hd
    obtain ⟨a, v, e1, g, p, e2, rp⟩ := r2
    have n2 : ∀ a, G' a = none → G2 a = none := fun a ha => by
      cases q2 : G2 a with
      | none => rfl
      | some o => rw [h1 a o q2] at ha; cases ha
    exact ⟨a, v, e1, n2 a g, p, e2, rp.less n2 hd⟩
theorem fzx_back {G0 G' : Gp} {x : Xd} (h : ∀ a o, G0 a = some o → G' a = some o) (hd : refX G0 x) : FzX G0 x G' G0 := fzx_sub h (fun a o e => ⟨o, e⟩) (fun a o e => .inr e) hd
def finX (G0 : Gp) (Q : DK) (U : Ux) : En := { fin G0 Q with xr := fun x _ G' => ∃ G2, FzX G0 x G' G2 ∧ U x G2 }
theorem finX_id {G0 G' : Gp} {Q : DK} {U : Ux} {x : Xd} {s : Sd} (h : U x G') : (finX G0 Q U).xr x s G' := ⟨G', fzx_id, h⟩
theorem finX_back {G0 G' : Gp} {Q : DK} {U : Ux} {x : Xd} {s : Sd} (h : ∀ a o, G0 a = some o → G' a = some o) (hd : refX G0 x) (q : U x G0) : (finX G0 Q U).xr x s G' := ⟨G0, fzx_back h hd, q⟩
theorem finX_nx {G0 G' : Gp} {Q : DK} {U : Ux} {s : Sd} (h : ∀ a o, G0 a = some o → G' a = some o) (q : Q .non G0) : (finX G0 Q U).nx s G' := ⟨.non, G0, fz_back h (by simp only [RefIn]), q⟩
/-- what a def wishes of what leaves it -/
def wE (E : XK) : Wx := ⟨fun cls d _ H => E cls d H⟩
section
variable {P : Program} {w : World} {K : PySem.W.Frag} {mg : Str → Option Value} {base : Heap}
theorem fkX_ok {x qual : Str} {params : Arguments} {body : List Stmt} {scope : Scope} {kws : List (Str × V)} {dvs : List V} {f : Addr} {fd : FuncData} {N ps : List Str} {k : Nat} {F : Sx} {es : ES}
    (FF : FunD K x qual params body scope dvs kws f fd) (S : FnScope N ps scope)
    (hJ : ∀ (cdv : Value) (A : Around) (outer : List Env) (s : Shared) (H : Hp) (E : XK), Room k (A.deeper (envOfC qual scope s.heap.objs.size f cdv)) → Takes (cxOf (L2.CX P w) P w K mg base N qual scope f cdv A outer s H E) (wE E).w →
      PassesOwn (model P w) (A.deeper (envOfC qual scope s.heap.objs.size f cdv)) (envOfC qual scope s.heap.objs.size f cdv) (cxOf (L2.CX P w) P w K mg base N qual scope f cdv A outer s H E).xe → JSs (cxOf (L2.CX P w) P w K mg base N qual scope f cdv A outer s H E) (wE E) body es)
    (hR : ∀ ds G Q U, F ds G Q U → es (finX G Q U) (startD N.length ds) G) : FnOk P w K mg base (L2.CX P w) (k + 1) f fd ps (LfX K ps.length F) := by
  refine FF.ok S (fun vs H Q E h => h.1) (fun cdv A outer s H vs Q E hr h => ?_)
  obtain ⟨_, P', ds, G, Q', U, wo, r, hf, kk, kx⟩ := h
  have j := hJ cdv A outer s H E hr (takes_of rfl rfl rfl rfl) (passes_of rfl)
  refine ⟨_, j.ps, ?_⟩
  refine ⟨P', startD N.length ds, G, finX G Q' U, hR ds G Q' U hf, rl_start wo r, ?_, ?_, ?_, ?_, ?_⟩
  · intro s' G' σ' H' st rl hq
    obtain ⟨d2, G2, fz, q2⟩ := hq
    obtain ⟨b1, b2, b3⟩ := fz K P' H H' .non wo st rl.wo rep_non
    exact kk d2 G2 .non H' b1 b2 b3 q2
  · intro d G' v H' st w' rp hq
    obtain ⟨d2, G2, fz, q2⟩ := hq
    obtain ⟨b1, b2, b3⟩ := fz K P' H H' v wo st w' rp
    exact kk d2 G2 v H' b1 b2 b3 q2
  · intro s' G' σ' H' st rl hq
    exact hq.elim
  · intro s' G' σ' H' st rl hq
    exact hq.elim
  · intro x s' G' cls d σ' H' st rl rx hq
    obtain ⟨G2, fz, q2⟩ := hq
    obtain ⟨b1, b2, b3⟩ := fz K P' H H' cls d wo st rl.wo rx
    exact kx x G2 cls d H' b1 b2 b3 q2
theorem calX_ok {x : Str} {st : Stmt} {N ps : List Str} {k : Nat} {F : Sx} {es : ES} (D : Df K mg x st) (S : FnScope N ps (defScope st))
    (hb : ∀ (kV doc pm : Value) (an : Option Addr) (cdv ct : Value) (us : List Value), us.length = ps.length → bindArgs (PySem.W.fnOf x x (defArgs st) (defBody st) (defScope st) .none kV doc pm an cdv ct) ⟨us, []⟩ = pure (ps.zip us))
    (hJ : ∀ (f : Addr) (cdv : Value) (A : Around) (outer : List Env) (s : Shared) (H : Hp) (E : XK), Room k (A.deeper (envOfC x (defScope st) s.heap.objs.size f cdv)) → Takes (cxOf (L2.CX P w) P w K mg base N x (defScope st) f cdv A outer s H E) (wE E).w →
      PassesOwn (model P w) (A.deeper (envOfC x (defScope st) s.heap.objs.size f cdv)) (envOfC x (defScope st) s.heap.objs.size f cdv) (cxOf (L2.CX P w) P w K mg base N x (defScope st) f cdv A outer s H E).xe → JSs (cxOf (L2.CX P w) P w K mg base N x (defScope st) f cdv A outer s H E) (wE E) (defBody st) es)
    (hR : ∀ ds G Q U, F ds G Q U → es (finX G Q U) (startD N.length ds) G) : CalX P w K mg base (k + 1) x ps F := by
  obtain ⟨f, fd, h1, h2⟩ := D.ex
  exact ⟨f, fd, fkX_ok h1 S (hJ f) hR, h2, h1.kp, h1.bindsN hb⟩
end
@[simp] def eIsE (a dd : Addr) (x : Xd) (i : Nat) (b : Bool) : EE := fun s G Q => match s[i]? with
  | some (some (.cl a')) => a' = a ∧ dOf dd x = none ∧ Q (.bl b) G
  | some (some (.exc a' d' _ _)) => a' = a ∧ dOf dd x = some d' ∧ Q (.bl b) G
  | _ => False
@[simp] def eXf (a dd : Addr) (x : Xd) (i : Nat) (f : Str) : EE := fun s G Q => match s[i]? with
  | some (some (.exc a' d' n e)) => a' = a ∧ dOf dd x = some d' ∧ n = f ∧ Q e G
  | _ => False
def rIsX (K : PySem.W.Frag) (C a : Addr) (d : Option Addr) : List V → Hp → VK → Prop := fun xs H Q => ∃ (c : V) (cv : Value) (b : Bool), xs = [.ref a, c] ∧ (∀ u, RelV c u → u = cv) ∧ PySem.W.kitOne K (.ref C) cv = some b ∧ (∀ dd, d = some dd → ∃ fs, H dd = some (.xd fs)) ∧ Q (.bl b) H
theorem call_isX {X : Cx} {a C : Addr} {d : Option Addr} {oe : Obj} {pn : List (Addr × Obj)} (T : ExcC X.K C) (hz : Zc (.ref C) d oe) (hf : ∃ vs, oe.data = .fields vs) : CallR (X.suite a ((a, oe) :: pn)) (.builtin "isinstance") (rIsX X.K C a d) := by
  intro pins s σ H xs us Q I r h
  obtain ⟨c, cv, b, rfl, hcv, e, hd, q⟩ := h
  cases r with
  | cons rx rr =>
    cases rr with
    | cons rt rr =>
      cases rr
      cases rx
      have ec := hcv _ rt
      subst ec
      obtain ⟨hget, _⟩ := I.pin (a, oe) (List.mem_append.mpr (.inl List.mem_cons_self))
      obtain ⟨vs, hv⟩ := hf
      have J : ∃ od, PySem.W.InstAt s.heap a oe C od := by
        cases d with
        | none =>
          refine ⟨none, ?_⟩
          obtain ⟨oc, od, oda, osl⟩ := oe
          obtain ⟨h1, h2⟩ := hz
          dsimp only at h1 h2 hv
          subst h1 h2 hv
          exact ⟨hget, rfl, rfl, trivial⟩
        | some dd =>
          obtain ⟨fs, ea⟩ := hd dd rfl
          have hx : ObjOk X.prog X.w H s.heap dd (.xd fs) := I.hok dd _ ea
          obtain ⟨mA, hns, hr⟩ := hx
          obtain ⟨od, ho, hl⟩ := lookIn_ns hns
          exact ⟨some od, hget, hz.1, by unfold PySem.W.notCls; rw [hv] <;> rfl, by rw [hz.2]; exact ho⟩
      obtain ⟨od, J⟩ := J
      have hcl : (PySem.W.clsIn X.K C).isSome = true := by
        have := T.hd
        unfold PySem.W.hasDictIn at this
        cases q : PySem.W.clsIn X.K C with
        | none => rw [q] at this; cases this
        | some cd => rfl
      exact PySem.W.kia_one (PySem.W.kitx_exc hcl T.hg T.hk T.hs T.ha T.hn T.ht T.hm) I.kIn J e (fun z => nomatch z) fun tk => ⟨.bl b, H, I.kept (t' := tk) fun _ _ z => z, rfl, q⟩
section
variable {X : Cx} {a dd : Addr} {x : Xd} {oe : Obj} {pn : List (Addr × Obj)} {K : PySem.W.Frag} {i : Nat} {n : Str} {p p2 pos : Pos} {ce : Expr} {b : Bool}
theorem j_isE {c : V} {cv : Value} (T : ExcC K (He.ga K x.c)) (hz : Zc (.ref (He.ga K x.c)) (dOf dd x) oe) (hf : ∃ vs, oe.data = .fields vs) (hk : PySem.W.kitOne K (.ref (He.ga K x.c)) cv = some b) (hcv : ∀ u, RelV c u → u = cv)
    (hg : Gl (X.suite a ((a, oe) :: pn)) "isinstance") (hm : X.mg "isinstance" = none) (hi : PE (X.suite a ((a, oe) :: pn)) (.Name n p2) (tVar i)) (hce : PE (X.suite a ((a, oe) :: pn)) ce (tC c)) (hK : X.K = K := by rfl)
    (h1 : starEach [.Name n p2, ce] (X.suite a ((a, oe) :: pn)).env = (false, eval (.Name n p2) (X.suite a ((a, oe) :: pn)).env) :: starEach [ce] (X.suite a ((a, oe) :: pn)).env := by rfl)
    (h2 : starEach [ce] (X.suite a ((a, oe) :: pn)).env = (false, eval ce (X.suite a ((a, oe) :: pn)).env) :: starEach [] (X.suite a ((a, oe) :: pn)).env := by rfl)
    (hpl : (backTo pos (starEach [ce] (X.suite a ((a, oe) :: pn)).env)).any (·.1) = false := by rfl) :
    JE (X.suite a ((a, oe) :: pn)) (.Call (.Name "isinstance" p) [.Name n p2, ce] [] pos) (eIsE a dd x i b) := by
  subst hK
  refine ⟨pe_callB (call_isX T hz hf) hg hm (by decide +kernel) (pa_cons hi (pa_cons hce pa_nil h2) h1) (by decide) (by decide) h1 hpl, fun P s G Q σ H R h r k => ?_⟩
  unfold eIsE at h
  split at h
  · rename_i a' e
    obtain ⟨rfl, hd, h⟩ := h
    obtain ⟨v, e1, e2⟩ := r.at_ i _ e
    unfold Rep at e2
    subst e2
    exact ⟨_, e1, c, cv, b, rfl, hcv, hk, (fun d ed => by rw [hd] at ed; cases ed), k _ G _ H (Step.refl _ _) r.wo rep_bl h⟩
  · rename_i a' d' n' e' e
    obtain ⟨rfl, hd, h⟩ := h
    obtain ⟨v, e1, e2⟩ := r.at_ i _ e
    unfold Rep at e2
    obtain ⟨rfl, g, pp, u, e3, e4⟩ := e2
    exact ⟨_, e1, c, cv, b, rfl, hcv, hk, (fun d ed => by rw [hd] at ed; cases ed; exact ⟨_, e3⟩), k _ G _ H (Step.refl _ _) r.wo rep_bl h⟩
  · exact h.elim
theorem j_xf {f : Str} (T : XfC K (He.ga K x.c)) (hno : PySem.W.findIn K (.ref (He.ga K x.c)) f = some none) (hz : Zc (.ref (He.ga K x.c)) (dOf dd x) oe) (hf : ∃ vs, oe.data = .fields vs) (hv : PE (X.suite a ((a, oe) :: pn)) (.Name n p2) (tVar i)) (hK : X.K = K := by rfl)
    (hb : attributeBase (.Name n p2) f X.env (eval (.Name n p2) X.env) = eval (.Name n p2) X.env := by rfl) :
    JE (X.suite a ((a, oe) :: pn)) (.Attribute (.Name n p2) f pos) (eXf a dd x i f) := by
  subst hK
  refine ⟨pe_xf T hno hz hf hv hb, fun P s G Q σ H R h r k => ?_⟩
  unfold eXf at h
  split at h
  · rename_i a' d' n' e' e
    obtain ⟨rfl, hd, rfl, h⟩ := h
    obtain ⟨v, e1, e2⟩ := r.at_ i _ e
    unfold Rep at e2
    obtain ⟨rfl, g, pp, u, e3, e4⟩ := e2
    exact ⟨_, e1, rfl, rfl, d', _, u, hd, e3, by simp [List.lookup], k _ G _ H (Step.refl _ _) r.wo e4 h⟩
  · exact h.elim
end
def eqF (a b : Option (Option Value)) : Bool := decide (a = b)
def excB (K : PySem.W.Frag) (C : Addr) : Bool := eqF (PySem.W.findIn K (.ref C) "__getattribute__") (some (some (.builtin "BaseException.__getattribute__"))) && eqF (PySem.W.findIn K (.ref C) "__getattr__") (some none) && decide (PySem.W.subIn K (.ref C) (.type "BaseException") = some true) && PySem.W.hasDictIn K C
  && eqF (PySem.W.findIn K (.ref C) "__class__") (some (some (.builtin "object.__class__"))) && eqF (PySem.W.specialIn K (.builtin "object.__class__") "__get__") (some (some (.builtin "getset_descriptor.__get__"))) && decide (PySem.W.takesIn K (.builtin "object.__class__") = some true) && decide (PySem.W.mroIn K C (.type "object") = some true)
theorem excB_ok {K : PySem.W.Frag} {C : Addr} (h : excB K C = true) : ExcC K C := by
  unfold excB eqF at h
  simp only [Bool.and_eq_true, decide_eq_true_eq] at h
  obtain ⟨⟨⟨⟨⟨⟨⟨h1, h2⟩, h3⟩, h4⟩, h5⟩, h6⟩, h7⟩, h8⟩ := h
  exact ⟨h1, h2, h3, h4, h5, h6, h7, h8⟩
theorem excC_xf {K : PySem.W.Frag} {C : Addr} (h : ExcC K C) : XfC K C := ⟨h.hg, h.hk, h.hs, h.hd⟩
def oexB (K : PySem.W.Frag) (C : Addr) : Bool := (match K.lookup C with
  | some ⟨.type "type", _, .cls cd, sl⟩ => (match cd.mro, sl.toList with
    | .ref C' :: bm, [_, _, _, _, some (.builtin n), _] => C' == C && n == "ValueError.__new__" && !cd.hasDel && PySem.HandSPX.refsVE bm && cd.hasDict
    | _, _ => false)
  | _ => false) && eqF (PySem.W.findIn K (.ref C) "__setattr__") (some (some (.builtin "object.__setattr__"))) && decide (PySem.W.subIn K (.ref C) (.type "BaseException") = some true) && decide (PySem.W.typeIn K (.ref C) = some (.type "type")) && PySem.W.keepIn K (.ref C)
theorem oexB_ok {K : PySem.W.Frag} {C : Addr} (h : oexB K C = true) : OexC K C := by
  unfold oexB eqF at h
  simp only [Bool.and_eq_true, decide_eq_true_eq] at h
  obtain ⟨⟨⟨⟨h1, h2⟩, h3⟩, h4⟩, h5⟩ := h
  refine ⟨?_, h2, h3, h4, h5⟩
  split at h1
  · rename_i dd cd sl ho
    split at h1
    · rename_i C' bm k0 k1 k2 k3 n k5 hm hs
      simp only [Bool.and_eq_true, beq_iff_eq, Bool.not_eq_true'] at h1
      obtain ⟨⟨⟨⟨rfl, rfl⟩, hdel⟩, ht⟩, hdc⟩ := h1
      obtain ⟨nm, bs, mro, ns, qn, hd, sn, sub, ab, col, del⟩ := cd
      dsimp only at hm hdel hdc
      subst hm hdel hdc
      have hsl : sl = #[k0, k1, k2, k3, some (.builtin "ValueError.__new__"), k5] := by
        obtain ⟨l⟩ := sl
        simp only at hs
        rw [hs]
      subst hsl
      exact ⟨nm, qn, ns, bs, bm, sn, sub, ab, col, dd, k0, k1, k2, k3, k5, ho, ht⟩
    · cases h1
  · cases h1
/-- an exception class with a field -/
def oxB (K : PySem.W.Frag) (c f : Str) : Bool := oexB K (He.ga K c) && eqF (PySem.W.findIn K (.ref (He.ga K c)) "__init__") (some (some (.ref (He.ma K (He.ga K c) "__init__")))) && decide (PySem.W.typeIn K (.ref (He.ma K (He.ga K c) "__init__")) = some (.type "function")) && eqF (PySem.W.findIn K (.ref (He.ga K c)) f) (some none)
theorem oxB_ok {P : Program} {w : World} {K : PySem.W.Frag} {mg : Str → Option Value} {base : Heap} {c f : Str} (h : oxB K c f = true) (g : mg c = some (.ref (He.ga K c))) (fn : ∃ fd, FnOk P w K mg base CX0 1 (He.ma K (He.ga K c) "__init__") fd [("self" : Str), f] (initSp K f) ∧ Binds K fd [("self" : Str), f] []) : OxK P w K mg base c f := by
  unfold oxB eqF at h
  simp only [Bool.and_eq_true, decide_eq_true_eq] at h
  obtain ⟨⟨⟨h1, h2⟩, h3⟩, h4⟩ := h
  exact ⟨oexB_ok h1, h2, h3, h4, g, fn⟩
/-- of each of some classes -/
def allB (K : PySem.W.Frag) (ns : List Str) (t : PySem.W.Frag → Str → Bool) : Bool := ns.all (t K)
theorem allB_ok {K : PySem.W.Frag} {ns : List Str} {t : PySem.W.Frag → Str → Bool} (h : allB K ns t = true) {m : Str} (hm : m ∈ ns) : t K m = true := List.all_eq_true.mp h m hm
def tExc (K : PySem.W.Frag) (m : Str) : Bool := excB K (He.ga K m)
def tNo (f : Str) (K : PySem.W.Frag) (m : Str) : Bool := eqF (PySem.W.findIn K (.ref (He.ga K m)) f) (some none)
def tKit (c : Str) (K : PySem.W.Frag) (m : Str) : Bool := decide (PySem.W.kitOne K (.ref (He.ga K m)) (.ref (He.ga K c)) = some (isSub m c))
def tKitV (K : PySem.W.Frag) (m : Str) : Bool := decide (PySem.W.kitOne K (.ref (He.ga K m)) (.type "ValueError") = some true)
def tExm (c : Str) (K : PySem.W.Frag) (m : Str) : Bool := decide (PySem.W.exmOne K (.ref (He.ga K m)) (.ref (He.ga K c)) = some (isSub m c))
theorem tNo_ok {K : PySem.W.Frag} {f m : Str} (h : tNo f K m = true) : PySem.W.findIn K (.ref (He.ga K m)) f = some none := of_decide_eq_true h
theorem tKit_ok {K : PySem.W.Frag} {c m : Str} (h : tKit c K m = true) : PySem.W.kitOne K (.ref (He.ga K m)) (.ref (He.ga K c)) = some (isSub m c) := of_decide_eq_true h
theorem tKitV_ok {K : PySem.W.Frag} {m : Str} (h : tKitV K m = true) : PySem.W.kitOne K (.ref (He.ga K m)) (.type "ValueError") = some true := of_decide_eq_true h
theorem tExm_ok {K : PySem.W.Frag} {c m : Str} (h : tExm c K m = true) : PySem.W.exmOne K (.ref (He.ga K m)) (.ref (He.ga K c)) = some (isSub m c) := of_decide_eq_true h
/-- the head's hook, with one Bool more -/
def obsB (n : Nat) (fa : List He.Fa) (fn : List He.DefD) (ex : PySem.W.Frag → Bool) (g : Addr → Option Obj) : He.AlD × Bool := (He.obsDG n fa fn g, ex (He.frG g (He.asD g n)))
def hookB (n : Nat) (fa : List He.Fa) (fn : List He.DefD) (ex : PySem.W.Frag → Bool) : PySem.W.Hook where
  α := He.AlD × Bool
  obs := fun s => obsB n fa fn ex s.heap.get?
  val := fun _ => (He.valD fn, true)
  says := fun _ h => ∃ K : PySem.W.Frag, K.In h ∧ He.SaysD fa fn K ∧ ex K = true
  of := fun _ _ e => ⟨_, He.frG_in, congrArg (fun z : He.AlD × Bool => z.1) e, congrArg (fun z : He.AlD × Bool => z.2) e⟩
  keeps := fun _ _ _ ⟨K, hK, c⟩ k => ⟨K, PySem.W.Frag.In.keeps hK k, c⟩
theorem obsB_eq {n : Nat} {fa : List He.Fa} {fn : List He.DefD} {ex : PySem.W.Frag → Bool} {g : Addr → Option Obj} {s : Shared} (h : ∀ a, g a = s.heap.get? a) : obsB n fa fn ex g = (hookB n fa fn ex).obs s := by
  have e : g = s.heap.get? := funext h
  rw [e] <;> rfl
/-- a class of refusals without a field -/
structure XtK (K : PySem.W.Frag) (mg : Str → Option Value) (c : Str) : Prop where
  fe : PySem.W.excIn K (He.ga K c) He.veBase "ValueError.__new__" = true
  kC : PySem.W.keepIn K (.ref (He.ga K c)) = true
  bC : PySem.W.subIn K (.ref (He.ga K c)) (.type "BaseException") = some true
  tC : PySem.W.typeIn K (.ref (He.ga K c)) = some (.type "type")
  gC : mg c = some (.ref (He.ga K c))
end DL
set_option Elab.async false
set_option linter.all false
set_option maxRecDepth 100000
set_option maxHeartbeats 4000000
namespace DL
open PySem PySem.Spec PyProof.Rows L2
section
variable {X : Cx} {K : PySem.W.Frag} {pos : Pos}
theorem j_cal0 {k : Nat} {F : Sf} {x : Str} {p : Pos} (c : Cal X.prog X.w K X.mg X.base k x [] F) (hr : Room k X.A) (hg : Gl X x) (hK : X.K = K := by rfl) (hdb : (x == ("__debug__" : Str)) = false := by decide) : JE X (.Call (.Name x p) [] [] pos) (eCall F eNil) := by
  subst hK
  obtain ⟨f, fd, h1, h2, h3, h4⟩ := c.ex
  exact ⟨pe_call0 h1 hr hg h2 h3 h4 .nil pass0 hdb, le_call (n := 0) (E := fun _ _ _ => False) la_nil⟩
@[simp] def eDispV (tk tv : EE) : EE := fun s G Q => tk s G fun a G1 => tv s G1 fun b G2 => match keyD a with
  | some k => Q (.dct [k] [b]) G2
  | none => False
/-- x in range(a, b), x not in range(a, b) -/
@[simp] def oInR (neg : Bool) : D → D → D → Gp → DK → Prop := fun x a b G Q => match x, a, b with
  | .int i, .int lo, .int hi => Q (.bl (if neg then !decide (lo ≤ i ∧ i < hi) else decide (lo ≤ i ∧ i < hi))) G
  | _, _, _ => False
@[simp] def eInR (neg : Bool) (tx ta tb : EE) : EE := fun s G Q => tx s G fun x G1 => ta s G1 fun a G2 => tb s G2 fun b G3 => oInR neg x a b G3 Q
end
end DL
set_option Elab.async false
set_option linter.all false
set_option maxRecDepth 100000
set_option maxHeartbeats 4000000
namespace DL
open PySem PySem.Spec PyProof.Rows L2 PySem.W
theorem cr_strX {X : Cx} (hg : X.A.guards = some []) (hu : X.A.units + 64 < cLine) (hsy : ∃ m, X.base.Ns sysModules m) : CallR X (.type "str") (rStrX X.K) := by
  intro pins s σ H vs us Q I r h
  rcases h with ⟨a, p, rfl, hd, h1, h3, h4, q⟩ | h | h | ⟨b, rfl, q⟩ | ⟨rfl, q⟩
  · rw [Vals.ref1 r]
    obtain ⟨as, rd, hn⟩ := readsX I hsy hd (show RelV (V.ref a) (Value.ref a) from rfl)
    exact str_of_reads rd h1 (fun _ => hn) hg (by omega) (fun _ _ e => e) (fun h' t tk hk => ⟨.str p.shown, H, I.kept hk, ⟨t, rfl⟩, q⟩) h4
  · exact call_str_int pins s σ H vs us Q I r h
  · exact SkE.call_str_str pins s σ H vs us Q I r h
  · cases r with
    | cons a b =>
      cases b
      cases a
      exact PySem.P.str_of_bool ⟨.str _, H, I.kept (t' := s.toks + 1) fun _ _ e => e, ⟨_, rfl⟩, q⟩
  · cases r with
    | cons a b =>
      cases b
      cases a
      exact PySem.P.str_of_none ⟨.str _, H, I.kept (t' := s.toks + 1) fun _ _ e => e, ⟨_, rfl⟩, q⟩
def boxX : D → Bool
  | .lst _ => true
  | .tup _ => true
  | .dct _ _ => true
  | .ref _ => true
  | .scr _ => true
  | _ => false
theorem boxX_ref {K : PySem.W.Frag} {P : Addr → Prop} {G : Gp} {H : Hp} {x : D} {u : V} (h : boxX x = true) (r : Rep K H G P x u) : ∃ a, u = .ref a := by
  cases x with
  | lst ds => obtain ⟨a, _, rfl, _⟩ := rep_l r; exact ⟨a, rfl⟩
  | tup ds => obtain ⟨a, _, rfl, _⟩ := rep_t r; exact ⟨a, rfl⟩
  | dct ks ds => unfold Rep at r; obtain ⟨a, _, rfl, _⟩ := r; exact ⟨a, rfl⟩
  | ref a => unfold Rep at r; exact ⟨a, r.1⟩
  | scr ns => unfold Rep at r; obtain ⟨a, rfl, _⟩ := r; exact ⟨a, rfl⟩
  | _ => cases h
def cStrX : CD := fun xs G Q => match xs with
  | [.int i] => i.natAbs.log2 < 1920 ∧ Q (.str (toString i)) G
  | [.str z] => Q (.str z) G
  | [.bl b] => Q (.str (if b then "True" else "False")) G
  | [.non] => Q (.str "None") G
  | [x] => boxX x = true ∧ (match toPx G x with
    | some p => p.showable = true ∧ p.depth ≤ 40 ∧ p.shown.length ≤ sizeLine ∧ Q (.str p.shown) G
    | none => False)
  | _ => False
theorem lc_strX {K : PySem.W.Frag} : LC K (rStrX K) cStrX := fun P G H xs us Q R h w r k => by
  unfold cStrX at h
  split at h
  · obtain ⟨u, rfl, r1⟩ := reps1 r
    rw [rep_i r1]
    exact .inr (.inl ⟨_, rfl, h.1, k _ G _ H (Step.refl _ _) w rep_str h.2⟩)
  · obtain ⟨u, rfl, r1⟩ := reps1 r
    rw [rep_s r1]
    exact .inr (.inr (.inl ⟨_, rfl, k _ G _ H (Step.refl _ _) w rep_str h⟩))
  · obtain ⟨u, rfl, r1⟩ := reps1 r
    rw [rep_b r1]
    exact .inr (.inr (.inr (.inl ⟨_, rfl, k _ G _ H (Step.refl _ _) w rep_str h⟩)))
  · obtain ⟨u, rfl, r1⟩ := reps1 r
    rw [rep_n r1]
    exact .inr (.inr (.inr (.inr ⟨rfl, k _ G _ H (Step.refl _ _) w rep_str h⟩)))
  · rename_i x n1 n2 n3 n4
    obtain ⟨hb, h⟩ := h
    split at h
    · rename_i p e
      obtain ⟨u, rfl, r1⟩ := reps1 r
      obtain ⟨h1, h3, h4, h5⟩ := h
      have d := dpx_of w x r1 e
      obtain ⟨a, rfl⟩ := boxX_ref hb r1
      exact .inl ⟨a, p, rfl, d, h1, h3, h4, k _ G _ H (Step.refl _ _) w rep_str h5⟩
    · exact h.elim
  · exact h.elim
end DL
set_option Elab.async false
set_option linter.all false
set_option maxRecDepth 100000
set_option maxHeartbeats 4000000
namespace DL
open PySem PySem.Spec PyProof.Rows L2 PySem.W
end DL
set_option Elab.async false
set_option linter.all false
set_option maxRecDepth 100000
set_option maxHeartbeats 4000000
namespace DL
open PySem PySem.Spec PyProof.Rows L2 LN
def az : Str := "abcdefghijklmnopqrstuvwxyz"
def namB : D → Bool
  | .str z => decide (1 ≤ z.length ∧ z.length ≤ 8) && z.cps.toList.all fun c => decide (c ∈ az.cps.toList)
  | _ => false
def F_is_name : Sf := fun ds G Q => ∃ d, ds = [d] ∧ anyD d = true ∧ (∀ z, d = .str z → z.length ≤ 1000 ∧ Asc z) ∧ Q (.bl (namB d)) G
def r_is_name : ES :=
  (sSeq (sIf (eOr (eNot (eTru (eCB cIsi (eCons (eVar 0) (eCons (eC (.ty "str")) eNil))))) (eNot (eT (eChain oLe oLe (eC (.int 1)) (eCB cLen (eCons (eVar 0) eNil)) (eC (.int 8)))))) (sRet (eC (.bl false))) sNext)
  (sRet (eCB cAll (eCons (eLc (iS (eVar 0)) (.nm 1) eYes (eOp oInS (eVar 1) (eC (.str "abcdefghijklmnopqrstuvwxyz"))) [1]) eNil))))
theorem nam_str (z : Str) : namB (.str z) = (decide (1 ≤ z.length ∧ z.length ≤ 8) && z.cps.toList.all fun c => decide (c ∈ az.cps.toList)) := rfl
theorem d_is_name (ds : List D) (G : Gp) (Q : DK) (h : F_is_name ds G Q) : r_is_name (fin G Q) (startD 2 ds) G := by
  obtain ⟨d, rfl, ha, hz, k⟩ := h
  refine seq_gen fun W hW => ?_
  simp only [startD, sIf, eOr, eNot, eTru, eCB, eCons, eNil, eVar, eC, List.map_cons, List.map_nil, List.length_cons, List.length_nil, List.cons_append, List.nil_append, List.getElem?_cons_zero, List.getElem?_cons_succ]
  rw [isi_str ha]
  cases d with
  | str z =>
    obtain ⟨hz, hasc⟩ := hz z rfl
    simp
    refine ⟨by omega, ?_⟩
    by_cases h1 : 1 ≤ z.length
    · by_cases h8 : 8 < z.length
      · have e1 : (1 : Int) ≤ (z.length : Int) := by omega
        have e2 : (8 : Int) < (z.length : Int) := by omega
        have en : namB (.str z) = false := by simp [namB]; omega
        rw [en] at k
        rw [if_pos e1, if_pos e2]
        exact fin_id k
      · have e1 : (1 : Int) ≤ (z.length : Int) := by omega
        have e2 : ¬ (8 : Int) < (z.length : Int) := by omega
        rw [if_pos e1, if_neg e2]
        refine hW _ _ ?_
        simp
        refine ⟨by omega, ?_⟩
        unfold sgnD
        refine compW_all (f := fun c : Nat => D.bl (decide (c ∈ az.cps.toList))) True.intro z.cps.toList [] (fun c hc => ⟨_, rfl, fun R r => ?_⟩) ?_
        · simp
          have : decide (c ∈ az.cps.toList) = decide (c ∈ (Str.ofString "abcdefghijklmnopqrstuvwxyz").cps) := by
            rw [Bool.eq_iff_iff]
            simp [az]
          rw [← this]
          exact r
        · rw [List.nil_append]
          have eb : ∀ l : List Nat, blsD (l.map fun c => D.bl (decide (c ∈ az.cps.toList))) = some (l.map fun c => decide (c ∈ az.cps.toList)) := fun l => by
            induction l with
            | nil => rfl
            | cons c l ih => rw [List.map_cons, blsD, ih]; rfl
          rw [eb]
          refine fin_id ?_
          have en : (List.map (fun c => decide (c ∈ az.cps.toList)) z.cps.toList).all id = namB (.str z) := by
            rw [nam_str, List.all_map, decide_eq_true (⟨h1, by omega⟩ : 1 ≤ z.length ∧ z.length ≤ 8), Bool.true_and]
            rfl
          rw [en]
          exact k
    · have e1 : ¬ (1 : Int) ≤ (z.length : Int) := by omega
      have en : namB (.str z) = false := by simp [namB]; omega
      rw [en] at k
      rw [if_neg e1]
      exact fin_id k
  | _ => simp; exact fin_id k
theorem at_memG {α : Type} {xs : List α} {i : Int} (h0 : 0 ≤ i) (h1 : i < xs.length) : ∃ d, atI xs i = some d ∧ d ∈ xs := by
  have hi : i.toNat < xs.length := by omega
  have := atI_nat (xs := xs) (j := i.toNat) (List.getElem?_eq_getElem hi)
  rw [Int.toNat_of_nonneg h0] at this
  exact ⟨_, this, List.getElem_mem hi⟩
theorem p12 : (10 : Int) ^ Int.toNat 12 = 1000000000000 := by decide +kernel
theorem p13 : (10 : Int) ^ Int.toNat 13 = 10000000000000 := by decide +kernel
theorem p40 : (10 : Int) ^ Int.toNat 40 = 10000000000000000000000000000000000000000 := by decide +kernel
theorem p60 : (10 : Int) ^ Int.toNat 60 = 1000000000000000000000000000000000000000000000000000000000000 := by decide +kernel
theorem JE.imp {X : Cx} {e : Expr} {t t' : EE} (h : JE X e t) (k : ∀ s G Q, t' s G Q → t s G Q) : JE X e t' := by
  obtain ⟨a, b⟩ := h
  exact ⟨a, fun P s G Q σ H R q r kk => b P s G Q σ H R (k s G Q q) r kk⟩
theorem pwK {n : Int} {v : Int} (h : ((10 : Int) ^ n.toNat = v ∧ 0 ≤ n) ∧ n ≤ 1000000) (s : Sd) (G : Gp) (Q : DK) (q : eC (.int v) s G Q) : eOp oPow (eC (.int 10)) (eC (.int n)) s G Q := by
  simp only [eOp, eC, oPow, oI]
  rw [h.1.1]
  exact ⟨cpow_10.mpr ⟨h.1.2, h.2⟩, q⟩
theorem pw6 {G : Gp} {Q : DK} : oPow (.int 10) (.int 6) G Q = Q (.int 1000000) G := by simp only [oPow, oI]; rw [show (10 : Int) ^ Int.toNat 6 = 1000000 from by decide +kernel]; exact propext ⟨fun h => h.2, fun h => ⟨cpow_10.mpr (by decide), h⟩⟩
theorem pw10 {G : Gp} {Q : DK} : oPow (.int 10) (.int 10) G Q = Q (.int 10000000000) G := by simp only [oPow, oI]; rw [show (10 : Int) ^ Int.toNat 10 = 10000000000 from by decide +kernel]; exact propext ⟨fun h => h.2, fun h => ⟨cpow_10.mpr (by decide), h⟩⟩
theorem pw11 {G : Gp} {Q : DK} : oPow (.int 10) (.int 11) G Q = Q (.int 100000000000) G := by simp only [oPow, oI]; rw [show (10 : Int) ^ Int.toNat 11 = 100000000000 from by decide +kernel]; exact propext ⟨fun h => h.2, fun h => ⟨cpow_10.mpr (by decide), h⟩⟩
theorem pw12 {G : Gp} {Q : DK} : oPow (.int 10) (.int 12) G Q = Q (.int 1000000000000) G := by simp only [oPow, oI]; rw [p12]; exact propext ⟨fun h => h.2, fun h => ⟨cpow_10.mpr (by decide), h⟩⟩
theorem pw13 {G : Gp} {Q : DK} : oPow (.int 10) (.int 13) G Q = Q (.int 10000000000000) G := by simp only [oPow, oI]; rw [p13]; exact propext ⟨fun h => h.2, fun h => ⟨cpow_10.mpr (by decide), h⟩⟩
theorem pw30 {G : Gp} {Q : DK} : oPow (.int 10) (.int 30) G Q = Q (.int 1000000000000000000000000000000) G := by simp only [oPow, oI]; rw [show (10 : Int) ^ Int.toNat 30 = 1000000000000000000000000000000 from by decide +kernel]; exact propext ⟨fun h => h.2, fun h => ⟨cpow_10.mpr (by decide), h⟩⟩
theorem pw40 {G : Gp} {Q : DK} : oPow (.int 10) (.int 40) G Q = Q (.int 10000000000000000000000000000000000000000) G := by simp only [oPow, oI]; rw [p40]; exact propext ⟨fun h => h.2, fun h => ⟨cpow_10.mpr (by decide), h⟩⟩
theorem pw60 {G : Gp} {Q : DK} : oPow (.int 10) (.int 60) G Q = Q (.int 1000000000000000000000000000000000000000000000000000000000000) G := by simp only [oPow, oI]; rw [p60]; exact propext ⟨fun h => h.2, fun h => ⟨cpow_10.mpr (by decide), h⟩⟩
mutual
def okT : D → Bool
  | .non => true
  | .bl _ => true
  | .int _ => true
  | .str z => decide (z.length ≤ 1000) && z.cps.toList.all fun c => decide (c < 1114112)
  | .lst ds => okTs ds
  | .tup ds => okTs ds
  | .dct _ ds => okTs ds
  | _ => false
def okTs : List D → Bool
  | [] => true
  | d :: ds => okT d && okTs ds
end
theorem okTs_mem : ∀ {ds : List D}, okTs ds = true ↔ ∀ d ∈ ds, okT d = true
  | [] => by simp [okTs]
  | d :: ds => by simp [okTs, okTs_mem (ds := ds)]
mutual
theorem okT_any : ∀ {d : D}, okT d = true → anyD d = true
  | .non, _ => rfl
  | .bl _, _ => rfl
  | .int _, _ => rfl
  | .str _, _ => rfl
  | .lst ds, h => by simp only [anyD]; exact okTs_any (by simpa [okT] using h)
  | .tup ds, h => by simp only [anyD]; exact okTs_any (by simpa [okT] using h)
  | .dct _ ds, h => by simp only [anyD]; exact okTs_any (by simpa [okT] using h)
  | .ty _, h => by simp [okT] at h
  | .ref _, h => by simp [okT] at h
  | .cl _, h => by simp [okT] at h
  | .exc _ _ _ _, h => by simp [okT] at h
  | .scr _, h => by simp [okT] at h
theorem okTs_any : ∀ {ds : List D}, okTs ds = true → anyDs ds = true
  | [], _ => rfl
  | d :: ds, h => by
    simp only [okTs, Bool.and_eq_true] at h
    simp only [anyDs, Bool.and_eq_true]
    exact ⟨okT_any h.1, okTs_any h.2⟩
end
theorem okT_str {z : Str} (h : okT (.str z) = true) : z.length ≤ 1000 ∧ Asc z := by
  simp only [okT, Bool.and_eq_true, decide_eq_true_eq, List.all_eq_true] at h
  exact ⟨h.1, fun c hc => h.2 c hc⟩
theorem okT_of {z : Str} (h1 : z.length ≤ 1000) (h2 : Asc z) : okT (.str z) = true := by
  simp only [okT, Bool.and_eq_true, decide_eq_true_eq, List.all_eq_true]
  exact ⟨h1, fun c hc => h2 c hc⟩
theorem okT_lst {ds : List D} : okT (.lst ds) = true ↔ ∀ d ∈ ds, okT d = true := by rw [← okTs_mem]; simp [okT]
theorem okT_tup {ds : List D} : okT (.tup ds) = true ↔ ∀ d ∈ ds, okT d = true := by rw [← okTs_mem]; simp [okT]
theorem okT_plain {d : D} (h : okT d = true) : plainD d = true := any_plain (okT_any h)
theorem is_name_ok {d : D} {G : Gp} {Q : DK} (h : okT d = true) (q : Q (.bl (namB d)) G) : F_is_name [d] G Q := ⟨d, rfl, okT_any h, fun z e => by subst e; exact okT_str h, q⟩
def intOf : D → Option Int
  | .int i => some i
  | _ => none
theorem intOf_eq {d : D} {i : Int} (h : intOf d = some i) : d = .int i := by
  cases d <;> simp [intOf] at h
  subst h; rfl
theorem wh_int (d : D) : whB d = (intOf d).isSome := by cases d <;> rfl
theorem cut4 (a b c d : D) : cutD [a, b, c, d] (some 1) none = [b, c, d] := rfl
theorem ixt_0 {ds : List D} {d : D} {G : Gp} {Q : DK} {i : Int} (e : atI ds i = some d) (q : Q d G) : oIx (.tup ds) (.int i) G Q := by
  simp only [oIx, lkQ_tup, e]
  exact q
theorem len_tup {ds : List D} {G : Gp} {Q : DK} (q : Q (.int ds.length) G) : cLen [.tup ds] G Q := by
  simp only [cLen, lkQ_tup]
  exact q
theorem len_lst {ds : List D} {G : Gp} {Q : DK} (q : Q (.int ds.length) G) : cLen [.lst ds] G Q := by
  simp only [cLen, lkQ_lst]
  exact q
theorem ne_ii {a b : Int} {G : Gp} {Q : DK} (q : Q (.bl (!decide (a = b))) G) : oNe (.int a) (.int b) G Q := by
  simp only [oNe, toPy, sh_int, eqv_ii, true_and]
  exact q
theorem eq_ii {a b : Int} {G : Gp} {Q : DK} (q : Q (.bl (decide (a = b))) G) : oEq (.int a) (.int b) G Q := by
  simp only [oEq, toPy, sh_int, eqv_ii, true_and]
  exact q
theorem len4 : (!decide (((0 + 1 + 1 + 1 + 1 : Nat) : Int) = 4)) = false := by decide
end DL
set_option Elab.async false
set_option linter.all false
set_option maxRecDepth 100000
set_option maxHeartbeats 4000000
namespace DL
open PySem PySem.Spec PyProof.Rows L2 LN
end DL
set_option Elab.async false
set_option linter.all false
set_option maxRecDepth 100000
set_option maxHeartbeats 4000000
namespace DL
open PySem PySem.Spec PyProof.Rows L2 LN
theorem add_ii {a b : Int} {G : Gp} {Q : DK} (q : Q (.int (a + b)) G) : oAdd (.int a) (.int b) G Q := q
theorem eqv_ss (a b : Str) : PyData.eqv (.str a) (.str b) = decide (a = b) := by
  simp only [PyData.eqv]
  rw [Bool.eq_iff_iff]; simp
theorem ne_ss {a b : Str} {G : Gp} {Q : DK} (ha : Asc a) (hb : Asc b) (q : Q (.bl (!decide (a = b))) G) : oNe (.str a) (.str b) G Q := by
  simp only [oNe, toPy, (shp_str (n := 0) ha).shaped (by decide), (shp_str (n := 0) hb).shaped (by decide), eqv_ss, true_and]
  exact q
end DL
set_option Elab.async false
set_option linter.all false
set_option maxRecDepth 100000
set_option maxHeartbeats 4000000
namespace DL
open PySem PySem.Spec PyProof.Rows L2 LN
end DL
set_option Elab.async false
set_option linter.all false
set_option maxRecDepth 100000
set_option maxHeartbeats 4000000
namespace DL
open PySem PySem.Spec PyProof.Rows L2 LN
end DL
set_option Elab.async false
set_option linter.all false
set_option maxRecDepth 100000
set_option maxHeartbeats 4000000
namespace DL
open PySem PySem.Spec PyProof.Rows L2 LN
/-- a comprehension that keeps none -/
theorem compW_none {s0 : Sd} {t : Tg} {tt : ET} {te : EE} {Kp : Gp → Prop} {G : Gp} {Q : List D → Gp → Prop} (hK : Kp G) (xs : List D) (h : ∀ d ∈ xs, ∃ s', asg t d s0 = some s' ∧ ∀ R : Bool → Gp → Prop, R false G → tt s' G R) (q : Q [] G) : compW s0 t tt te Kp xs [] G Q := by
  have := compW_map (g := fun d : D => d) (p := fun _ => false) (f := fun d : D => d) (te := te) (tt := tt) (t := t) (s0 := s0) (Q := Q) hK xs [] (fun d hd => by
    obtain ⟨s', e, r⟩ := h d hd
    exact ⟨s', e, r, fun z => by cases z⟩) (by
    rw [show xs.filter (fun _ => false) = [] from List.filter_eq_nil_iff.mpr fun _ _ => by simp]
    exact q)
  simpa using this
end DL
set_option Elab.async false
set_option linter.all false
set_option maxRecDepth 100000
set_option maxHeartbeats 4000000
namespace DL
open PySem PySem.Spec PyProof.Rows L2 LN
theorem range_cut {n i : Nat} (h : i < n) : List.range n = List.range i ++ i :: List.range' (i + 1) (n - i - 1) := by
  rw [List.range_eq_range', List.range_eq_range', show n = i + (1 + (n - i - 1)) from by omega, ← List.range'_append_1, ← List.range'_append_1]
  simp
theorem map_take {bk : List Stretch} {i : Nat} (h : i < bk.length) : (List.range i).map (st bk) = bk.take i ∧ (List.range' (i + 1) (bk.length - i - 1)).map (st bk) = bk.drop (i + 1) := by
  have e := map_range_st bk
  rw [range_cut h, List.map_append, List.map_cons] at e
  have l1 : ((List.range i).map (st bk)).length = (bk.take i).length := by simp; omega
  have e3 := List.append_inj (e.trans (bk_split h)) l1
  exact ⟨e3.1, (List.cons.inj e3.2).2⟩
end DL
set_option Elab.async false
set_option linter.all false
set_option maxRecDepth 100000
set_option maxHeartbeats 4000000
namespace DL
open PySem PySem.Spec PyProof.Rows L2 LN
theorem ne_self {x y : D} {u : PyData} {n : Nat} {G : Gp} {Q : DK} (sh : Shp n u) (e1 : toPy G x = some u) (e2 : toPy G y = some u) (q : Q (.bl false) G) (hn : n ≤ 64 := by decide) : oNe x y G Q := by
  simp only [oNe, e1, e2, sh.shaped hn, eqv_self sh, true_and]
  exact q
end DL
set_option Elab.async false
set_option linter.all false
set_option maxRecDepth 100000
set_option maxHeartbeats 4000000
namespace DL
open PySem PySem.Spec PyProof.Rows L2 LamX
def lePB (bs : Nat → Int) : Nat → Nat → Bool := fun p q => decide (bs p < bs q ∨ (bs p = bs q ∧ (p : Int) ≤ (q : Int)))
def begins (bk : List Stretch) (l : List Nat) : List Nat := l.mergeSort (lePB fun j => (st bk j).b)
@[simp] def eBeg (i : Nat) (f q : Str) (ea : EE) : EE := fun s G Q => ea s G fun x G1 => ∃ (bk : List Stretch) (l : List Nat) (tab : Addr), s[i]? = some (some (.lst (bk.map Stretch.d))) ∧ lkL G1 x = some (nD l) ∧ l.length ≤ 1000000 ∧ bk.length ≤ 1000000 ∧ (∀ j ∈ l, j < bk.length) ∧ G1 tab = some (.tbl f q tab) ∧ Q (.lst (nD (begins bk l))) G1
end DL
set_option Elab.async false
set_option linter.all false
set_option maxRecDepth 100000
set_option maxHeartbeats 4000000
namespace DL
open PySem PySem.Spec PyProof.Rows L2 LN
/-- a promise whose exceptions are never met -/
def nev (F : Sx) : Sf := fun ds G Q => F ds G Q fun _ _ => False
theorem calX_never {P : Program} {w : World} {K : PySem.W.Frag} {mg : Str → Option Value} {base : Heap} {k : Nat} {x : Str} {ps : List Str} {F : Sx} (c : CalX P w K mg base k x ps F) : Cal P w K mg base k x ps (nev F) := by
  obtain ⟨f, fd, h1, h2, h3, h4⟩ := c.ex
  refine ⟨f, fd, ⟨fun vs H Q E h => h.1, fun A outer s H args us vs Q E hr e0 hb r hsp => ?_⟩, h2, h3, h4⟩
  obtain ⟨hl, P', ds, G, Q', wo, rp, hf, kk⟩ := hsp
  have h := h1.run A outer s H args us vs Q (fun _ _ _ => False) hr e0 hb r ⟨hl, P', ds, G, Q', fun _ _ => False, wo, rp, hf, kk, fun _ _ _ _ _ _ _ _ z => z⟩
  refine codeAny_mono h fun r s' hq => ?_
  cases r with
  | error e =>
    obtain ⟨a, B, H', cls, d, _, _, _, _, _, _, _, z⟩ := hq
    exact z.elim
  | ok fl => cases fl <;> exact hq
end DL
set_option Elab.async false
set_option linter.all false
set_option maxRecDepth 100000
set_option maxHeartbeats 4000000
namespace DL
open PySem PySem.Spec PyProof.Rows L2 LN
end DL
set_option Elab.async false
set_option linter.all false
set_option maxRecDepth 100000
set_option maxHeartbeats 4000000
namespace DL
open PySem PySem.Spec PyProof.Rows L2 LN
theorem app_ref {q : Addr} {ds : List D} {y : D} {G : Gp} {Q : DK} (h : G q = some (.lst ds)) (hl : ds.length ≤ 1000000) (k : Q .non (gput G q (.lst (ds ++ [y])))) : mApp (.ref q) [y] G Q := by
  simp only [mApp, h]
  exact ⟨by rw [sizeLine_eq]; omega, k⟩
theorem set_ref {M : En} {s : Sd} {q : Addr} {ds : List D} {v : D} {j : Nat} {G : Gp} (h : G q = some (.lst ds)) (hj : j < ds.length) (k : M.nx s (gput G q (.lst (ds.set j v)))) :
    (match (D.ref q, D.int (j : Int)) with
      | (.ref p, .int k) => (match G p with
        | some (.lst ds) => (match ixN ds.length k with
          | some j => M.nx s (gput G p (.lst (ds.set j v)))
          | none => False)
        | _ => False)
      | _ => False) := by
  have e : ixN ds.length (j : Int) = some j := by unfold ixN; simp; omega
  simp only [h, e]
  exact k
end DL
set_option Elab.async false
set_option linter.all false
set_option maxRecDepth 100000
set_option maxHeartbeats 4000000
namespace DL
open PySem PySem.Spec PyProof.Rows L2 LN
end DL
set_option Elab.async false
set_option linter.all false
set_option maxRecDepth 100000
set_option maxHeartbeats 4000000
namespace DL
open PySem PySem.Spec PyProof.Rows L2 LN
end DL
set_option Elab.async false
set_option linter.all false
set_option maxRecDepth 100000
set_option maxHeartbeats 4000000
namespace DL
open PySem PySem.Spec PyProof.Rows L2 LN
end DL
set_option Elab.async false
set_option linter.all false
set_option maxRecDepth 100000
set_option maxHeartbeats 4000000
namespace DL
open PySem PySem.Spec PyProof.Rows L2 LN
end DL
set_option Elab.async false
set_option linter.all false
set_option maxRecDepth 100000
set_option maxHeartbeats 4000000
namespace DL
open PySem PySem.Spec PyProof.Rows L2 LN
end DL
set_option Elab.async false
set_option linter.all false
set_option maxRecDepth 100000
set_option maxHeartbeats 4000000
namespace DL
open PySem PySem.Spec PyProof.Rows L2 LN
end DL
set_option Elab.async false
set_option linter.all false
set_option maxRecDepth 100000
set_option maxHeartbeats 4000000
namespace DL
open PySem PySem.Spec PyProof.Rows L2 LN
end DL
set_option Elab.async false
set_option linter.all false
set_option maxRecDepth 100000
set_option maxHeartbeats 4000000
namespace DL
open PySem PySem.Spec PyProof.Rows L2 LamX
abbrev RowI := Int × Int × Int
def rowI (r : RowI) : D := .tup [.int r.1, .int r.2.1, .int r.2.2]
def leRI : RowI → RowI → Bool := fun p q => decide (p.1 < q.1 ∨ (p.1 = q.1 ∧ p.2.1 ≤ q.2.1))
@[simp] def eRows (f q : Str) (ea : EE) : EE := fun s G Q => ea s G fun x G1 => ∃ (l : List RowI) (tab : Addr), x = .lst (l.map rowI) ∧ l.length ≤ 1000000 ∧ G1 tab = some (.tbl f q tab) ∧ Q (.lst ((l.mergeSort leRI).map rowI)) G1
end DL
set_option Elab.async false
set_option linter.all false
set_option maxRecDepth 100000
set_option maxHeartbeats 4000000
namespace DL
open PySem PySem.Spec PyProof.Rows L2 LN
end DL
set_option Elab.async false
set_option linter.all false
set_option maxRecDepth 100000
set_option maxHeartbeats 4000000
namespace DL
open PySem PySem.Spec PyProof.Rows L2
section
variable {X : Cx} {K : PySem.W.Frag} {e : Expr} {pos : Pos}
theorem inv_of_made {pins : List (Addr × Obj)} {σ : L2.St} {H : Hp} {sI s1 : Shared} (J : Inv X pins σ H sI) (k : ∀ b o, sI.heap.get? b = some o → s1.heap.get? b = some o) (os : s1.os = sI.os) (ag : AllBare s1.gens) : Inv X pins σ H s1 := by
  have I1 : Inv X pins σ H { sI with heap := s1.heap, toks := s1.toks } := J.kept k
  exact ⟨I1.ok, os.trans J.os, ag, I1.base, I1.loc, I1.cell, I1.free, I1.freeC, I1.pin, I1.hok, I1.len⟩
theorem pe_mkf {f : Str} {C : Addr} {t : L2.St → Hp → XK → Prop} {pos2 : Pos} (T : XfC X.K C) (hno : PySem.W.findIn X.K (.ref C) f = some none) (he : PMk X e t) (hb : attributeBase e f X.env (eval e X.env) = eval e X.env := by rfl) :
    PE X (.Attribute e f pos2) (fun σ H Q => t σ H fun cls d H1 => cls = .ref C ∧ ∃ (dd : Addr) (fs : List (Str × V)) (v : V), d = some dd ∧ H1 dd = some (.xd fs) ∧ fs.lookup f = some v ∧ Q v H1) := by
  refine ⟨fun pins s σ H Q I h => ?_⟩
  refine attr_of hb (wpAny_mono (he pins s σ H _ I h) (fun u s1 hu => ?_) fun _ _ x => x)
  obtain ⟨a, oe, vs, sI, H1, cls, d, rfl, J, k, hne, ha, hz, hd, h1, na, os, ag, r, ec, dd, fs, v, ed, ea, l, q⟩ := hu
  subst ec
  subst ed
  have I1 := inv_of_made J k os ag
  have hx : ObjOk X.prog X.w H1 s1.heap dd (.xd fs) := I1.hok dd _ ea
  obtain ⟨mA, hns, hr⟩ := hx
  obtain ⟨od, ho, hl⟩ := lookIn_ns hns
  obtain ⟨u, hu, ru⟩ := L2.RelO.some_of (v := v) (o := mA f) (by rw [← l]; exact hr f)
  have J : PySem.W.InstAt s1.heap a oe C (some od) := ⟨ha, hz.1, by unfold PySem.W.notCls; rw [hd] <;> rfl, by rw [hz.2]; exact ho⟩
  exact HandSPX.exc_get I1.kIn J T.ga T.gg T.exC (PySem.W.findObj_own T.hdC hno rfl (by rw [hl, hu])) (handed_of ru) ⟨v, H1, I1.tok _, ru, q⟩
theorem j_mkf {x f : Str} {p pos2 : Pos} {k : Nat} {te : EE} (o : OxK X.prog X.w K X.mg X.base x f) (T : XfC K (He.ga K x)) (hr : Room k X.A) (hk : 2 ≤ k) (hg : Gl X x) (he : JE X e te) (hK : X.K = K := by rfl) (hdb : (x == ("__debug__" : Str)) = false := by decide)
    (hs : starEach (e :: []) X.env = (false, eval e X.env) :: starEach [] X.env := by rfl) (hpl : (backTo pos (starEach [] X.env)).any (·.1) = false := by rfl) (hb : attributeBase (.Call (.Name x p) [e] [] pos) f X.env (eval (.Call (.Name x p) [e] [] pos) X.env) = eval (.Call (.Name x p) [e] [] pos) X.env := by rfl) :
    JE X (.Attribute (.Call (.Name x p) [e] [] pos) f pos2) te := by
  subst hK
  obtain ⟨fd, F1, B1⟩ := o.fn
  have ha : JA X [e] (eCons te eNil) := ja_cons he ja_nil hs
  refine ⟨pe_mkf T o.nf (pmk_oex o.T o.iC o.tI F1 (hr.mono hk) B1 .nil pass0 hg o.gC ha.pa hdb hs hpl) hb, fun P s G Q σ H R h r k => ?_⟩
  refine ha.la P s G (fun ds G1 => match ds with
    | [d] => Q d G1
    | _ => False) σ H _ h r fun ds G1 vs H1 s1 w1 r1 l1 h1 => ?_
  obtain ⟨d, rfl⟩ : ∃ d, ds = [d] := by
    match ds, l1 with
    | [d], _ => exact ⟨d, rfl⟩
  have h1 : Q d G1 := h1
  obtain ⟨v, rfl, rv⟩ := reps1 r1
  refine ⟨by simp, fun a ha => ?_⟩
  refine ⟨a, _, v, rfl, o.T, o.nf, upd_same, fun dx hd1 hd2 => ⟨rfl, dx, [(f, v)], upd_same, by rw [upd_ne hd2]; exact upd_same, ?_, rfl, dx, [(f, v)], v, rfl, upd_same, by simp [List.lookup], ?_⟩⟩
  · rw [upd_ne hd2] at hd1
    exact hd1
  · have hd0 : H1 dx = none := by rw [upd_ne hd2] at hd1; exact hd1
    have eq : upd (del (upd (upd (upd H1 a (exo a (He.ga X.K x) none)) dx (exd dx [(f, v)])) a (exo a (He.ga X.K x) (some dx))) a) dx (.xd [(f, v)]) = upd H1 dx (.xd [(f, v)]) := by
      funext b
      by_cases q1 : b = dx
      · subst q1; rw [upd_same, upd_same]
      · rw [upd_ne q1, upd_ne q1]
        by_cases q2 : b = a
        · subst q2; rw [del_same, ha]
        · rw [del_ne q2, upd_ne q2, upd_ne q1, upd_ne q2]
    rw [eq]
    have st : Step G1 H1 G1 (upd H1 dx (.xd [(f, v)])) := Step.new hd0
    exact k d G1 v _ (s1.trans st) (w1.new hd0) (rv.step st) h1
end
end DL
set_option Elab.async false
set_option linter.all false
set_option maxRecDepth 100000
set_option maxHeartbeats 4000000
namespace DL
open PySem PySem.Spec PyProof.Rows L2 LN
instance : DecidableEq Stretch := fun s t => decidable_of_iff (s.name = t.name ∧ s.b = t.b ∧ s.e = t.e ∧ s.w = t.w) (by cases s; cases t; simp)
end DL
set_option Elab.async false
set_option linter.all false
set_option maxRecDepth 100000
set_option maxHeartbeats 4000000
namespace DL
open PySem PySem.Spec PyProof.Rows L2 LN
end DL
set_option Elab.async false
set_option linter.all false
set_option maxRecDepth 100000
set_option maxHeartbeats 4000000
namespace DL
open PySem PySem.Spec PyProof.Rows L2 LN
end DL
set_option Elab.async false
set_option linter.all false
set_option maxRecDepth 100000
set_option maxHeartbeats 4000000
namespace DL
open PySem PySem.Spec PyProof.Rows L2
@[simp] def sPar (i j : Nat) (ea : EA) : ES := fun N s G => ea s G fun ds G1 => match ds with
  | [v, w] => N.nx ((s.set i (some v)).set j (some w)) G1
  | _ => False
end DL
set_option Elab.async false
set_option linter.all false
set_option maxRecDepth 100000
set_option maxHeartbeats 4000000
namespace DL
open PySem PySem.Spec PyProof.Rows L2 LN
end DL
set_option Elab.async false
set_option linter.all false
set_option maxRecDepth 100000
set_option maxHeartbeats 4000000
namespace L2
open PySem PySem.Spec PyProof.Rows
end L2
namespace DL
open PySem PySem.Spec PyProof.Rows L2
@[simp] def oRepT : OD := fun x y G Q => match x, y with
  | .str z, .int k => 1 ≤ k ∧ k ≤ 1000 ∧ 0 < z.length ∧ z.length ≤ 1000 ∧ Q (.str (repS z k.toNat)) G
  | _, _ => False
end DL
set_option Elab.async false
set_option linter.all false
set_option maxRecDepth 100000
set_option maxHeartbeats 4000000
namespace DL
open PySem L2
end DL
set_option Elab.async false
set_option linter.all false
set_option maxRecDepth 100000
set_option maxHeartbeats 4000000
namespace DL
open PySem PySem.Spec PyProof.Rows L2 LN
def All (P : D → Prop) (L : List D) : Prop := ∀ d ∈ L, P d
theorem all_nil {P : D → Prop} : All P [] := fun d h => by simp at h
theorem all_cons {P : D → Prop} {d : D} {L : List D} (h : P d) (hl : All P L) : All P (d :: L) := fun e he => by
  rcases List.mem_cons.mp he with rfl | q
  · exact h
  · exact hl e q
/-- sorted(list of pairs of numbers) -/
def q2 (x : Int × Int) : PyData := .tuple [.int x.1, .int x.2]
end DL
set_option Elab.async false
set_option linter.all false
set_option maxRecDepth 100000
set_option maxHeartbeats 4000000
namespace DL
open PySem PySem.Spec PyProof.Rows L2
@[simp] def isStr : D → Prop
  | .str _ => True
  | _ => False
/-- o.m(), o.m(y) of a text -/
@[simp] def eM0 (r : UD) (to : EE) : EE := fun s G Q => to s G fun x G1 => isStr x ∧ r x G1 Q
@[simp] def eM1 (r : OD) (to te : EE) : EE := fun s G Q => to s G fun x G1 => isStr x ∧ te s G1 fun y G2 => r x y G2 Q
@[simp] def eFmt (te : EE) : EE := fun s G Q => te s G fun x G1 => match x with
  | .str y => y.length ≤ 16777216 ∧ Q (.str y) G1
  | .int i => i.natAbs.log2 < 1920 ∧ Q (.str (toString i)) G1
  | _ => False
@[simp] def eJs : List EE → Str → EE
  | [], acc => fun _ G Q => Q (.str acc) G
  | t :: ts, acc => fun s G Q => t s G fun x G1 => match x with
    | .str y => (acc ++ y).length ≤ 16777216 ∧ eJs ts (acc ++ y) s G1 Q
    | _ => False
@[simp] def cMax3 : CD := fun xs G Q => match xs with
  | [.int i, .int j, .int k] => Q (.int (max i (max j k))) G
  | _ => False
end DL
set_option Elab.async false
set_option linter.all false
set_option maxRecDepth 100000
set_option maxHeartbeats 4000000
namespace DL
open PySem PySem.Spec PyProof.Rows L2
end DL
set_option Elab.async false
set_option linter.all false
set_option maxRecDepth 100000
set_option maxHeartbeats 4000000
namespace DL
open PySem PySem.Spec PyProof.Rows L2 LN
def stName : D → Str
  | .tup (.str z :: _) => z
  | _ => ""
/-- a loop over enumerate(list), whatever keeps the list -/
theorem forW_enumK {es : List D} {t : Tg} {tb : ES} {N : En} {s : Sd} {G : Gp} {Kp : Gp → Prop} (I : Nat → Sd → Gp → Prop) (hK : ∀ j s G, I j s G → Kp G)
    (h : ∀ (j : Nat) (d : D) s G (W : Sd → Gp → Prop), es[j]? = some d → I j s G → (∀ s' G', I (j + 1) s' G' → W s' G') → match asg t (.tup [.int (j : Nat), d]) s with
      | some s' => tb { N with nx := W, ct := W, bk := N.nx } s' G
      | none => False) (k : ∀ s G, I es.length s G → N.nx s G) (h0 : I 0 s G) : forW t tb Kp N (enumD es) s G := by
  rw [enumD_at]
  refine forW_ind (fun r s G => ∃ j, r = List.range' j (es.length - j) ∧ j ≤ es.length ∧ I j s G) (fun _ _ _ ⟨j, _, _, q⟩ => hK j _ _ q) ?_ ?_ _ _ _ ⟨0, by simp, Nat.zero_le _, h0⟩
  · rintro x r s G W ⟨j, e, hj, hI⟩ hW
    have hlt : j < es.length := by
      rcases Nat.lt_or_ge j es.length with q | q
      · exact q
      · rw [Nat.sub_eq_zero_of_le q] at e; simp at e
    rw [show es.length - j = (es.length - (j + 1)) + 1 by omega, List.range'_succ] at e
    cases e
    exact h x _ s G W (by rw [List.getD_eq_getElem?_getD, List.getElem?_eq_getElem hlt]; rfl) hI fun s' G' hI' => hW s' G' ⟨x + 1, rfl, hlt, hI'⟩
  · rintro s G ⟨j, e, hj, hI⟩
    have : j = es.length := by
      have := congrArg List.length e
      simp at this
      omega
    subst this
    exact k s G hI
end DL
set_option Elab.async false
set_option linter.all false
set_option maxRecDepth 100000
set_option maxHeartbeats 4000000
namespace DL
open PySem PySem.Spec PyProof.Rows L2 LN
theorem name_in_az {c : Nat} (h : 97 ≤ c ∧ c ≤ 122) : c ∈ az.cps.toList := by
  have e : az.cps.toList = [97, 98, 99, 100, 101, 102, 103, 104, 105, 106, 107, 108, 109, 110, 111, 112, 113, 114, 115, 116, 117, 118, 119, 120, 121, 122] := by decide +kernel
  rw [e]
  simp
  omega
theorem az_name {c : Nat} (h : c ∈ az.cps.toList) : 97 ≤ c ∧ c ≤ 122 := by
  have e : az.cps.toList = [97, 98, 99, 100, 101, 102, 103, 104, 105, 106, 107, 108, 109, 110, 111, 112, 113, 114, 115, 116, 117, 118, 119, 120, 121, 122] := by decide +kernel
  rw [e] at h
  simp at h
  omega
theorem namB_iff {z : Str} : namB (.str z) = true ↔ NameOk z := by
  rw [nam_str, Bool.and_eq_true, decide_eq_true_iff, List.all_eq_true]
  constructor
  · rintro ⟨⟨h1, h2⟩, h3⟩
    exact ⟨h1, h2, fun c hc => az_name (of_decide_eq_true (h3 c hc))⟩
  · rintro ⟨h1, h2, h3⟩
    exact ⟨⟨h1, h2⟩, fun c hc => decide_eq_true (name_in_az (h3 c hc))⟩
end DL
set_option Elab.async false
set_option linter.all false
set_option maxRecDepth 100000
set_option maxHeartbeats 4000000
namespace DL
open PySem PySem.Spec PyProof.Rows L2 LN
end DL
set_option Elab.async false
set_option linter.all false
set_option maxRecDepth 100000
set_option maxHeartbeats 4000000
namespace DL
open PySem PySem.Spec PyProof.Rows L2 LN
abbrev bl : Str := Str.ofString " "
end DL
set_option Elab.async false
set_option linter.all false
set_option maxRecDepth 100000
set_option maxHeartbeats 4000000
namespace DL
open PySem PySem.Spec PyProof.Rows L2
abbrev EIX := Sd → Gp → (List D → (Gp → Prop) → Gp → Prop) → Ux → Prop
@[simp] def iLX (te : EX) : EIX := fun s G Q U => te s G (fun x G1 => match lkL G1 x with
  | some ds => Q ds (stays x ds) G1
  | none => False) U
@[simp] def iEX (ta : EAX) : EIX := fun s G Q U => ta s G (fun xs G1 => match xs with
  | [x] => (match lkL G1 x with
    | some ds => Q (enumD ds) (stays x ds) G1
    | none => False)
  | _ => False) U
@[simp] def sForX (ti : EIX) (t : Tg) (tb : ES) : ES := fun N s G => ti s G (fun ds Kp G1 => forW t tb Kp N ds s G1) fun x G1 => N.xr x s G1
end DL
set_option Elab.async false
set_option linter.all false
set_option maxRecDepth 100000
set_option maxHeartbeats 4000000
namespace DL
open PySem PySem.Spec PyProof.Rows L2 LN
open NumText (AllDigits digitsVal)
end DL
set_option Elab.async false
set_option linter.all false
set_option maxRecDepth 100000
set_option maxHeartbeats 4000000
namespace DL
open PySem PySem.Spec PyProof.Rows L2 LN
end DL
set_option Elab.async false
set_option linter.all false
set_option maxRecDepth 100000
set_option maxHeartbeats 4000000
namespace DL
open PySem PySem.Spec PyProof.Rows L2 LN
end DL
set_option Elab.async false
set_option linter.all false
set_option maxRecDepth 100000
set_option maxHeartbeats 4000000
namespace DL
open PySem PySem.Spec PyProof.Rows L2 LN
/-- no run without a line feed is longer -/
def RwL (R : Nat) (l : List Nat) : Prop := ∀ a m b, l = a ++ m ++ b → 10 ∉ m → m.length ≤ R
theorem RwL.mono {R R' : Nat} {l : List Nat} (h : RwL R l) (hr : R ≤ R') : RwL R' l := fun a m b e n => Nat.le_trans (h a m b e n) hr
theorem RwL.len (l : List Nat) : RwL l.length l := fun a m b e _ => by
  have := congrArg List.length e
  simp at this
  omega
theorem RwL.sub {R : Nat} {l a m b : List Nat} (h : RwL R l) (e : l = a ++ m ++ b) : RwL R m := fun a2 m2 b2 e2 n => h (a ++ a2) m2 (b2 ++ b) (by rw [e, e2]; simp) n
theorem RwL.take {R k : Nat} {l : List Nat} (h : RwL R l) : RwL R (l.take k) := h.sub (a := []) (b := l.drop k) (by simp)
theorem RwL.drop {R k : Nat} {l : List Nat} (h : RwL R l) : RwL R (l.drop k) := h.sub (a := l.take k) (b := []) (by simp)
structure TR (L R : Nat) (t : Str) : Prop where
  len : t.length ≤ L
  asc : Asc t
  rw' : RwL R t.cps.toList
theorem TR.mono {L R L' R' : Nat} {t : Str} (h : TR L R t) (h1 : L ≤ L') (h2 : R ≤ R') : TR L' R' t := ⟨by have := h.len; omega, h.asc, h.rw'.mono h2⟩
theorem ixs_at {z : Str} {i : Int} {c : Nat} {G : Gp} {Q : DK} (hl : z.length ≤ 16777216) (e : atI z.cps.toList i = some c) (q : Q (.str ⟨#[c]⟩) G) : oIx (.str z) (.int i) G Q := by
  simp only [oIx, sizeLine_eq, e]
  exact ⟨hl, q⟩
theorem flDs_strs : ∀ l : List Str, flDs (l.map D.str) = some (l.map V.str)
  | [] => rfl
  | x :: l => by simp [flDs_strs l]
theorem inV_strs (m : Str) : ∀ l : List Str, inV (.str m) (l.map V.str) = decide (m ∈ l)
  | [] => by simp [inV]
  | n :: l => by
    have := inV_strs m l
    simp only [inV, List.map_cons, List.any_cons] at this ⊢
    rw [this]
    have e : eqV (.str n) (.str m) = decide (m = n) := by
      show (n == m) = _
      by_cases h : n = m
      · subst h; simp
      · have h2 : ¬ m = n := fun q => h q.symm
        simp [h, h2]
    rw [e]
    by_cases h : m = n <;> simp [h]
end DL
set_option Elab.async false
set_option linter.all false
set_option maxRecDepth 100000
set_option maxHeartbeats 4000000
namespace DL
open PySem PySem.Spec PyProof.Rows L2
/-- o.m(..), where m may raise -/
@[simp] def eMethX (C m : Str) (F : Sx) (to : EE) (t : EAX) : EX := fun s G Q U => to s G fun x G1 => isIns C m G1 x ∧ t s G1 (fun xs G2 => F (x :: xs) G2 Q U) U
/-- C(..), where __init__ may raise -/
@[simp] def eMakeX (C : Str) (F : Sx) (t : EAX) : EX := fun s G Q U => t s G (fun xs G1 => ∀ x dx, G1 x = none → F (.ref x :: xs) (gput G1 x (.ins C dx [] [])) (fun d G2 => d = .non ∧ Q (.ref x) G2) U) U
end DL
set_option Elab.async false
set_option linter.all false
set_option maxRecDepth 100000
set_option maxHeartbeats 4000000
namespace DL
open PySem PySem.Spec PyProof.Rows L2 LN
end DL
set_option Elab.async false
set_option linter.all false
set_option maxRecDepth 100000
set_option maxHeartbeats 4000000
namespace L2
open PySem PySem.Spec PyProof.Rows
end L2
namespace DL
open PySem PySem.Spec PyProof.Rows L2
@[simp] def oRep0 : OD := fun x y G Q => match x, y with
  | .str z, .int k => 0 ≤ k ∧ k ≤ 1000 ∧ 0 < z.length ∧ z.length ≤ 1000 ∧ Q (.str (repS z k.toNat)) G
  | _, _ => False
end DL
set_option Elab.async false
set_option linter.all false
set_option maxRecDepth 100000
set_option maxHeartbeats 4000000
namespace DL
open PySem PySem.Spec PyProof.Rows L2 LN
theorem ix_allP {P : D → Prop} {L : List D} {i : Int} {G : Gp} {Q : DK} (h : ∀ d ∈ L, P d) (i0 : 0 ≤ i) (i1 : i < L.length) (k : ∀ d, P d → Q d G) : oIx (.lst L) (.int i) G Q := by
  obtain ⟨d, e, hd⟩ := at_mem i0 i1
  exact ix_at e (k d (h d hd))
inductive Deed where
  | put (d : D)
  | gone (d : D)
  | worth (d w : D)
  | slide (d u v : D)
  | benches (d : D)
  | undo
def Deed.d : Deed → D
  | .put d => .tup [.str "put", d]
  | .gone d => .tup [.str "gone", d]
  | .worth d w => .tup [.str "worth", d, w]
  | .slide d u v => .tup [.str "slide", d, u, v]
  | .benches d => .tup [.str "benches", d]
  | .undo => .tup [.str "undo"]
def Deed.ok : Deed → Prop
  | .put d => okT d = true
  | .gone d => okT d = true
  | .worth d w => okT d = true ∧ okT w = true
  | .slide d u v => okT d = true ∧ okT u = true ∧ okT v = true
  | .benches d => okT d = true
  | .undo => True
end DL
set_option Elab.async false
set_option linter.all false
set_option maxRecDepth 100000
set_option maxHeartbeats 400000
namespace HotY
open PySem PySem.Spec PyProof.Rows HotX
def Raisy (prog : Program) (w : World) (hd : Option Value) (C : List Addr) (h : Heap) : Prop :=
  (∀ b ∈ C, ∃ o, h.get? b = some o) ∧ ∀ (A : Around) (α : Type) (s : Shared) (a : Addr) (oe : Obj) (vs : Array Value) (Q : α → Shared → Prop) (E : Value → Shared → Prop), A.handled = hd → (∀ b ∈ C, ∀ o, h.get? b = some o → s.heap.get? b = some o) → a ∉ C →
    s.heap.get? a = some oe → oe.data = .fields vs → 2 < vs.size → (∀ h2, (∀ b, b ≠ a → h2.get? b = s.heap.get? b) → (∃ o2, h2.get? a = some o2 ∧ o2.cls = oe.cls) → E (.ref a) { s with heap := h2 }) → wpAny (model prog w) A (raiseNew (.ref a) : Sem α) Q E s
section
variable {prog : Program} {w : World} {A : Around} {E : Value → Shared → Prop} {s : Shared}
theorem Raisy.keeps {hd : Option Value} {C : List Addr} {h h' : Heap} (r : Raisy prog w hd C h) (k : ∀ b ∈ C, ∀ o, h.get? b = some o → h'.get? b = some o) : Raisy prog w hd C h' :=
  ⟨fun b hb => let ⟨o, e⟩ := r.1 b hb; ⟨o, k b hb o e⟩, fun A α s a oe vs Q E hh hk => r.2 A α s a oe vs Q E hh fun b hb o e => hk b hb o (k b hb o e)⟩
end
end HotY
set_option Elab.async false
set_option linter.all false
set_option maxRecDepth 100000
set_option maxHeartbeats 4000000
namespace L2
open PySem PySem.Spec PyProof.Rows
/-- an exception is handled, and its contexts C are known -/
def HotQ (X : Cx) : Prop := ∃ C : List Addr, ∀ (pins : List (Addr × Obj)) (σ : St) (H : Hp) (s : Shared), Inv X pins σ H s → HotY.Raisy X.prog X.w X.A.handled C s.heap ∧ ∀ c ∈ C, H c = none ∧ c ∉ frs X.stack ∧ ∀ b, FpOk X pins H b → c ≠ b
structure TurnQ (P : Program) (w : World) (K : PySem.W.Frag) (tg : Expr) (J : It) (fp : List Addr) (it : Addr) (tn : Nat → Heap → Prop) : Prop where
  mem : it ∈ fp
  obj : ∀ i h, tn i h → ∀ b ∈ fp, ∃ o, h.get? b = some o ∧ ∀ v, o.data ≠ .cell v
  keep : ∀ i h h', tn i h → (∀ b ∈ fp, ∀ o, h.get? b = some o → h'.get? b = some o) → tn i h'
  item : ∀ (X : Cx), X.prog = P → X.w = w → X.K = K → HotQ X → ∀ (i : Nat) (pins : List (Addr × Obj)) (s : Shared) (σ : St) (H : Hp) (E : Value → Shared → Prop), Inv X pins σ H s → (∀ b ∈ fp, FpOk X pins H b) → tn i s.heap → J.go i H →
    wpAny (model P w) X.A (pyNext (.ref it)) (fun r s1 => ∃ u, r = some u ∧
      wpAny (model P w) X.A (letOwnedTupleGo tg (.ref it) u) (fun _ s2 => ∃ x H', Inv X pins σ H' s2 ∧ RelV x u ∧ J.yld i H x H' ∧ tn (i + 1) s2.heap ∧ ∀ b ∈ fp, H' b = none) E s1) E s
  done : ∀ (X : Cx), X.prog = P → X.w = w → X.K = K → HotQ X → ∀ (i : Nat) (pins : List (Addr × Obj)) (s : Shared) (σ : St) (H : Hp) (E : Value → Shared → Prop), Inv X pins σ H s → (∀ b ∈ fp, FpOk X pins H b) → tn i s.heap → J.stop i H →
    wpAny (model P w) X.A (pyNext (.ref it)) (fun r s1 => r = none ∧ Inv X pins σ H s1) E s
  self : ∀ (A : Around) (i : Nat) (s : Shared) (Q : Value → Shared → Prop) (E : Value → Shared → Prop), tn i s.heap → Q (.ref it) s → wpAny (model P w) A (pyIter (.ref it)) Q E s
def PIEQ (X : Cx) (pins : List (Addr × Obj)) (σ : St) (tg : Expr) (R : It → Hp → Prop) (itv : Value) (s2 : Shared) : Prop :=
  ∃ (it : Addr) (fp : List Addr) (tn : Nat → Heap → Prop) (J : It) (H' : Hp), itv = .ref it ∧ Inv X pins σ H' s2 ∧ TurnQ X.prog X.w X.K tg J fp it tn ∧ tn 0 s2.heap ∧ (∀ b ∈ fp, FpOk X pins H' b) ∧ R J H'
structure PIQ (X : Cx) (tg iter : Expr) (wi : TI) : Prop where
  run : ∀ (pins : List (Addr × Obj)) (s : Shared) (σ : St) (H : Hp) (R : It → Hp → Prop), Inv X pins σ H s → wi σ H R →
    wpAny (model X.prog X.w) X.A (eval iter X.env) (fun v s1 => wpAny (model X.prog X.w) X.A (pyIter v) (PIEQ X pins σ tg R) X.xe s1) X.xe s
end L2
namespace DL
open PySem L2
inductive JIQ (X : Cx) (tg iter : Expr) (t : EI) : Prop where
  | mk {wi : TI} (a : PIQ X tg iter wi) (b : LI X.K wi t) : JIQ X tg iter t
section
variable {X : Cx}
variable {elt tg iter e : Expr} {es ifs : List Expr} {scope : Scope} {own : List (Str × Nat)} {pos : Pos} {wi : TI} {ei : EI} {g : TG} {t : Tg} {tt : TT} {et : ET} {te : TE} {ee : EE}
theorem JIQ.pi (h : JIQ X tg iter ei) : PIQ X tg iter (upI X.K ei) := by
  obtain ⟨a, b⟩ := h
  exact ⟨fun pins s σ H R I ⟨P, s', G, Q', h1, h2, h3⟩ => a.run pins s σ H R I (b P s' G Q' σ H R h1 h2 h3)⟩
end
end DL
set_option Elab.async false
set_option linter.all false
set_option maxRecDepth 100000
set_option maxHeartbeats 4000000
namespace L2Q
open PySem PySem.Spec PyProof.Rows L2 HotX
abbrev St := L2.St
/-- what is kept of the exception's object -/
def Zq (B : Heap) (H : Hp) (cls : Value) (d : Option Addr) : Obj → Prop := fun o => o.cls = cls ∧ o.dict = d ∧ ∀ vs : Array Value, o.data = .fields vs → vs[2]? = some .none ∨
  ∃ (x1 : Addr) (o1 : Obj) (v1 : Array Value), vs[2]? = some (.ref x1) ∧ B.get? x1 = some o1 ∧ o1.data = .fields v1 ∧ v1[2]? = some .none ∧ H x1 = none
theorem Zq.steady {B : Heap} {H : Hp} {cls : Value} {d : Option Addr} : PXN.Steady1 (Zq B H cls d) := fun o v h => by
  refine ⟨PXN.steady_cls o v h.1, PXN.steady_dict o v h.2.1, ?_⟩
  have h3 := h.2.2
  obtain ⟨c, dd, dt, sl⟩ := o
  cases dt with
  | fields vs0 =>
    intro vs e
    have e2 : vs0.setIfInBounds 1 v = vs := Data.fields.inj e
    have e3 : (vs0.setIfInBounds 1 v)[2]? = vs0[2]? := by
      first
      | exact Array.getElem?_setIfInBounds_ne (by decide)
      | simp [Array.getElem?_setIfInBounds]
    rw [← e2, e3]
    exact h3 vs0 rfl
  | _ =>
    intro vs e
    first
    | exact Data.noConfusion e
    | cases e
theorem Zq.of_n {B : Heap} {H : Hp} {cls : Value} {d : Option Addr} {o : Obj} (h : L2N.Zn cls d o) : Zq B H cls d o := ⟨h.1, h.2.1, fun vs e => .inl (h.2.2 vs e)⟩
/-- an exception in the air of X -/
def XE (X : Cx) (W : WX) (u : Value) (s' : Shared) : Prop :=
  ∃ (a : Addr) (B : Heap) (sI : Shared) (pins : List (Addr × Obj)) (σ : St) (H : Hp) (cls : Value) (d : Option Addr),
    u = .ref a ∧ Inv X pins σ H sI ∧ (∀ b o, sI.heap.get? b = some o → b ∉ frs X.stack → B.get? b = some o) ∧ sI.heap.UpToSlots s'.heap ∧
      Sky B X.stack a (Zq B H cls d) X.env.locals s'.heap ∧ H a = none ∧ s'.os = sI.os ∧ AllBare s'.gens ∧ W cls d σ H
def Takes (X : Cx) (W : WX) : Prop := ∀ u s', XE X W u s' → X.xe u s'
def CX (P : Program) (w : World) (outer : List Env) (H : Hp) (s : Shared) (E : XK) (u : Value) (s' : Shared) : Prop :=
  ∃ (a : Addr) (B : Heap) (H' : Hp) (cls : Value) (d : Option Addr), u = .ref a ∧ HandSPX.FlyingZ B outer a (Zq B H' cls d) s'.heap ∧ HOk P w H' B ∧ UB (frs outer) H H' s.heap B s'.heap ∧ H' a = none ∧ s'.os = s.os ∧ AllBare s'.gens ∧ E cls d H'
theorem sky_imp {B : Heap} {l : List Env} {a : Addr} {Z Z' : Obj → Prop} {L : Addr} {h : Heap} (z : ∀ o, Z o → Z' o) (x : Sky B l a Z L h) : Sky B l a Z' L h := by
  rcases x with ⟨h1, h2, h3, oe, vs, h4, h5, h6⟩ | x | x
  · exact .inl ⟨h1, h2, h3, oe, vs, h4, z _ h5, h6⟩
  · exact .inr (.inl (L2H.flyingZ_imp z x))
  · exact .inr (.inr ⟨x.1, x.2.1, x.2.2.1, L2H.tracedZ_imp z x.2.2.2⟩)
theorem XE.of_n {X : Cx} {W : WX} {u : Value} {s' : Shared} (x : L2N.XE X W u s') : XE X W u s' := by
  obtain ⟨a, B, sI, pins, σ, H, cls, d, e, I, nb, up, sky, r⟩ := x
  exact ⟨a, B, sI, pins, σ, H, cls, d, e, I, nb, up, sky_imp (fun o z => Zq.of_n z) sky, r⟩
theorem Takes.n {X : Cx} {W : WX} (t : Takes X W) : L2N.Takes X W := fun u s' x => t u s' (XE.of_n x)
section
variable {X : Cx} {pins : List (Addr × Obj)} {σ : St} {H : Hp} {sI s s' : Shared} {B : Heap} {W : WX} {E : XK}
theorem XE.new {a : Addr} {oe : Obj} {vs : Array Value} {cls : Value} {d : Option Addr} (I : Inv X pins σ H sI) (k : ∀ b o, sI.heap.get? b = some o → s'.heap.get? b = some o) (hne : sI.heap.get? a = none) (he : s'.heap.get? a = some oe)
    (hz : Zq (PySem.W.hideAll sI.heap (frs X.stack)) H cls d oe) (hd : oe.data = .fields vs) (h1 : vs[1]? = some .none) (na : H a = none) (os : s'.os = sI.os) (ag : AllBare s'.gens) (w : W cls d σ H) : XE X W (.ref a) s' := by
  refine ⟨a, PySem.W.hideAll sI.heap (frs X.stack), sI, pins, σ, H, cls, d, rfl, I, fun b o e hb => PySem.W.hideAll_get _ e hb, Heap.UpToSlots.of_keeps k,
    .inl ⟨fun b o e => k b o (PySem.W.of_hideAll _ e), ?_, ?_, oe, vs, he, hz, hd, h1⟩, na, os, ag, w⟩
  · cases q : (PySem.W.hideAll sI.heap (frs X.stack)).get? a with
    | none => rfl
    | some o =>
      have z := PySem.W.of_hideAll _ q
      rw [hne] at z; cases z
  · exact Heap.FunFrames.of_keeps (fun b o e _ => ⟨o, k b o e, rfl⟩) (funFrames_none I.stack fun b hb => PySem.W.hideAll_none _ hb)
theorem XE.leave (hs : X.stack = X.env :: X.outer) (hf : X.env.frame = some X.env.locals) (hex : X.ex = []) {E₁ : Value → Shared → Prop} (hW : ∀ cls d σ H, W cls d σ H → E cls d H) {u : Value} (x : XE X W u s') :
    wpAny (model X.prog X.w) X.A (leaving X.env u) (fun _ s'' => CX X.prog X.w X.outer X.H_0 X.s_0 E u s'') E₁ s' := by
  obtain ⟨a, B, sI, pins, σ, H, cls, d, rfl, I, nb, up, sky, na, os, ag, w⟩ := x
  have hfr : X.A.frames = some (X.env :: X.outer) := by rw [I.ok.frames, hs]
  have nst : ∀ b o, X.s_0.heap.get? b = some o → b ∉ X.fs → b ∉ frs X.stack := fun b o e hb hm => by
    rcases List.mem_cons.mp (I.stkSub b hm) with z | z
    · have h1 := Heap.lt_size e
      have h2 := I.ok.above
      rw [z] at h1
      exact absurd (Nat.lt_of_lt_of_le h1 h2) (Nat.lt_irrefl _)
    · exact hb z
  have hex' : ∀ b, b ∉ X.ex := fun b hb => by rw [hex] at hb; cases hb
  have hokB := I.inGround nb
  have fin : ∀ h', HandSPX.FlyingZ B X.outer a (Zq B H cls d) h' → s'.heap.UpToSlots h' → CX X.prog X.w X.outer X.H_0 X.s_0 E (.ref a) { s' with heap := h' } := fun h' fl up' => by
    refine ⟨a, B, H, cls, d, rfl, fl, hokB, ⟨fun b o e n hb => nb b o (I.base.keep b o e n hb (hex' b)) (nst b o e hb), fun b o e hb => ?_, fun b o e n => I.base.free b o e n (hex' b), fun b o e hb => ?_, I.base.tups, I.base.frzs, I.base.tbls⟩,
      na, os.trans I.os, ag, hW _ _ _ _ w⟩
    · obtain ⟨_, o₀, e₀, hnf⟩ := I.ok.funs.mem hb
      rw [e] at e₀; cases e₀
      obtain ⟨sl, e1⟩ := I.base.slot b o e (I.ok.frf b hb) hb (hex' b)
      obtain ⟨sl2, e2⟩ := up b _ e1 hnf
      obtain ⟨sl3, e3⟩ := up' b _ e2 hnf
      exact ⟨sl3, e3⟩
    · obtain ⟨o', e1⟩ := I.base.there b o e (hex' b)
      exact ⟨o', nb b o' e1 (nst b o e hb)⟩
  rw [hs] at sky
  rcases sky with ⟨hB, hn, hl, oe, vs, he, hz, hd, h1⟩ | fl | hd
  · exact PXN.leaving_firstZ Zq.steady hfr hl hf he hB hn hd h1 hz fin
  · exact PXN.leaves_onZ Zq.steady hfr hf fl fin
  · exact HandSPX.leaves_heldZ hf hd fin
end
end L2Q
set_option Elab.async false
set_option linter.all false
set_option maxRecDepth 100000
set_option maxHeartbeats 4000000
namespace DL
open PySem PySem.Spec PyProof.Rows L2
end DL
set_option Elab.async false
set_option linter.all false
set_option maxRecDepth 100000
set_option maxHeartbeats 4000000
namespace DL
open PySem PySem.Spec PyProof.Rows L2 LN
/-- a slice of a list as a new owned list -/
@[simp] def eSlLO (te : EE) (tl th : EO) : EE := fun s G Q => te s G fun x G1 => tl s G1 fun l G2 => th s G2 fun u G3 => match lkL G3 x with
  | some ds => ∀ p, G3 p = none → Q (.ref p) (gput G3 p (.lst (cutD ds l u)))
  | none => False
end DL
set_option Elab.async false
set_option linter.all false
set_option maxRecDepth 100000
set_option maxHeartbeats 4000000
namespace DL
open PySem PySem.Spec PyProof.Rows L2
mutual
inductive FrD (G : Gp) : D → D → Prop
  | pl {d : D} : plainD d = true → FrD G d d
  | ref {a : Addr} {es es' : List D} : G a = some (.lst es) → FrDs G es es' → FrD G (.ref a) (.lst es')
  | lst {es es' : List D} : FrDs G es es' → FrD G (.lst es) (.lst es')
  | tup {es es' : List D} : FrDs G es es' → FrD G (.tup es) (.tup es')
inductive FrDs (G : Gp) : List D → List D → Prop
  | nil : FrDs G [] []
  | cons {d d' : D} {ds ds' : List D} : FrD G d d' → FrDs G ds ds' → FrDs G (d :: ds) (d' :: ds')
end
section
variable {K : PySem.W.Frag} {P : Addr → Prop} {G : Gp} {H : Hp}
theorem FrDs.len : ∀ {ds ds' : List D}, FrDs G ds ds' → ds.length = ds'.length
  | _, _, .nil => rfl
  | _, _, .cons _ t => by simp [FrDs.len t]
theorem Wo.bare (w : Wo K P G H) : Wo K P (fun _ => none) H := ⟨fun _ _ q => (nomatch q), fun a q => ⟨rfl, (w.prv a q).2⟩⟩
end
end DL
set_option Elab.async false
set_option linter.all false
set_option maxRecDepth 100000
set_option maxHeartbeats 4000000
namespace DL
open PySem PySem.Spec PyProof.Rows L2
end DL
set_option Elab.async false
set_option linter.all false
set_option maxRecDepth 100000
set_option maxHeartbeats 4000000
namespace L2
open PySem PySem.Spec PyProof.Rows PySem.W
end L2
namespace DL
open PySem PySem.Spec PyProof.Rows L2 PySem.W
end DL
set_option Elab.async false
set_option linter.all false
set_option maxRecDepth 100000
set_option maxHeartbeats 4000000
namespace DL
open PySem PySem.Spec PyProof.Rows L2
def rIsXT (K : PySem.W.Frag) (D a : Addr) (d : Option Addr) : List V → Hp → VK → Prop := fun xs H Q => ∃ (tp : Addr) (cs : List Addr) (b : Bool), xs = [.ref a, .ref tp] ∧ H tp = some (.tup (cs.map V.ref)) ∧ PySem.W.kitAny K (.ref D) (cs.map Value.ref) = some b ∧ (∀ dd, d = some dd → ∃ fs, H dd = some (.xd fs)) ∧ Q (.bl b) H
theorem vals_refs : ∀ {cs : List Addr} {us : List Value}, Vals (cs.map V.ref) us → us = cs.map Value.ref
  | [], _, h => by cases h; rfl
  | c :: cs, _, h => by
    cases h with
    | cons a b => cases a; rw [vals_refs b]; rfl
theorem call_isXT {X : Cx} {a C : Addr} {d : Option Addr} {oe : Obj} {pn : List (Addr × Obj)} (T : ExcC X.K C) (hz : Zc (.ref C) d oe) (hf : ∃ vs, oe.data = .fields vs) : CallR (X.suite a ((a, oe) :: pn)) (.builtin "isinstance") (rIsXT X.K C a d) := by
  intro pins s σ H xs us Q I r h
  obtain ⟨tp, cs, b, rfl, hT, e, hd, q⟩ := h
  cases r with
  | cons rx rr =>
    cases rr with
    | cons rt rr =>
      cases rr
      cases rx
      cases rt
      obtain ⟨hget, _⟩ := I.pin (a, oe) (List.mem_append.mpr (.inl List.mem_cons_self))
      obtain ⟨vs, hv⟩ := hf
      have J : ∃ od, PySem.W.InstAt s.heap a oe C od := by
        cases d with
        | none =>
          refine ⟨none, ?_⟩
          obtain ⟨oc, od, oda, osl⟩ := oe
          obtain ⟨h1, h2⟩ := hz
          dsimp only at h1 h2 hv
          subst h1 h2 hv
          exact ⟨hget, rfl, rfl, trivial⟩
        | some dd =>
          obtain ⟨fs, ea⟩ := hd dd rfl
          have hx : ObjOk X.prog X.w H s.heap dd (.xd fs) := I.hok dd _ ea
          obtain ⟨mA, hns, hr⟩ := hx
          obtain ⟨od, ho, hl⟩ := lookIn_ns hns
          exact ⟨some od, hget, hz.1, by unfold PySem.W.notCls; rw [hv] <;> rfl, by rw [hz.2]; exact ho⟩
      obtain ⟨od, J⟩ := J
      have hcl : (PySem.W.clsIn X.K C).isSome = true := by
        have := T.hd
        unfold PySem.W.hasDictIn at this
        cases q : PySem.W.clsIn X.K C with
        | none => rw [q] at this; cases this
        | some cd => rfl
      obtain ⟨_, its, rv, o, h1, h2, n, h3⟩ := (show ObjOk X.prog X.w H s.heap tp (.tup (cs.map V.ref)) from I.hok tp _ hT)
      have e3 := vals_refs rv
      subst e3
      obtain ⟨oc, od2, dt, sl⟩ := o
      simp only at h2 h3
      subst h2 h3
      exact PySem.W.kia_tup (PySem.W.kitx_exc hcl T.hg T.hk T.hs T.ha T.hn T.ht T.hm) I.kIn J h1 e (fun z => nomatch z) fun tk => ⟨.bl b, H, I.kept (t' := tk) fun _ _ z => z, rfl, q⟩
def tCs : List Addr → TA
  | [] => tNil
  | c :: cs => tCons (tC (.ref c)) (tCs cs)
theorem tCs_run : ∀ {cs : List Addr} {σ : L2.St} {H : Hp} {Q : List V → Hp → Prop}, Q (cs.map V.ref) H → tCs cs σ H Q
  | [], _, _, _, h => h
  | c :: cs, σ, H, Q, h => by
    unfold tCs tCons tC
    exact tCs_run (cs := cs) (Q := fun xs H1 => Q (.ref c :: xs) H1) h
section
variable {X : Cx} {a dd : Addr} {x : Xd} {oe : Obj} {pn : List (Addr × Obj)} {K : PySem.W.Frag} {i : Nat} {n : Str} {p p2 pos : Pos} {ce : Expr} {b : Bool}
theorem j_isET {cs : List Addr} (T : ExcC K (He.ga K x.c)) (hz : Zc (.ref (He.ga K x.c)) (dOf dd x) oe) (hf : ∃ vs, oe.data = .fields vs) (hk : PySem.W.kitAny K (.ref (He.ga K x.c)) (cs.map Value.ref) = some b) (hl : cs.length ≤ 100)
    (hg : Gl (X.suite a ((a, oe) :: pn)) "isinstance") (hm : X.mg "isinstance" = none) (hi : PE (X.suite a ((a, oe) :: pn)) (.Name n p2) (tVar i)) (hce : PE (X.suite a ((a, oe) :: pn)) ce (tTup (tCs cs))) (hK : X.K = K := by rfl)
    (h1 : starEach [.Name n p2, ce] (X.suite a ((a, oe) :: pn)).env = (false, eval (.Name n p2) (X.suite a ((a, oe) :: pn)).env) :: starEach [ce] (X.suite a ((a, oe) :: pn)).env := by rfl)
    (h2 : starEach [ce] (X.suite a ((a, oe) :: pn)).env = (false, eval ce (X.suite a ((a, oe) :: pn)).env) :: starEach [] (X.suite a ((a, oe) :: pn)).env := by rfl)
    (hpl : (backTo pos (starEach [ce] (X.suite a ((a, oe) :: pn)).env)).any (·.1) = false := by rfl) :
    JE (X.suite a ((a, oe) :: pn)) (.Call (.Name "isinstance" p) [.Name n p2, ce] [] pos) (eIsE a dd x i b) := by
  subst hK
  refine ⟨pe_callB (call_isXT T hz hf) hg hm (by decide +kernel) (pa_cons hi (pa_cons hce pa_nil h2) h1) (by decide) (by decide) h1 hpl, fun P s G Q σ H R h r k => ?_⟩
  have hsz : (cs.map V.ref).length ≤ sizeLine := by rw [List.length_map]; exact Nat.le_trans hl (by decide)
  unfold eIsE at h
  split at h
  · rename_i a' e
    obtain ⟨rfl, hd, h⟩ := h
    obtain ⟨v, e1, e2⟩ := r.at_ i _ e
    unfold Rep at e2
    subst e2
    refine ⟨_, e1, tCs_run ⟨hsz, fun tp hp => ?_⟩⟩
    have st : Step G H G (upd H tp (.tup (cs.map V.ref))) := Step.new hp
    exact ⟨tp, cs, b, rfl, upd_same, hk, (fun d ed => by rw [hd] at ed; cases ed), k _ G _ _ st (r.wo.new hp) rep_bl h⟩
  · rename_i a' d' n' e' e
    obtain ⟨rfl, hd, h⟩ := h
    obtain ⟨v, e1, e2⟩ := r.at_ i _ e
    unfold Rep at e2
    obtain ⟨rfl, g, pp, u, e3, e4⟩ := e2
    refine ⟨_, e1, tCs_run ⟨hsz, fun tp hp => ?_⟩⟩
    have st : Step G H G (upd H tp (.tup (cs.map V.ref))) := Step.new hp
    exact ⟨tp, cs, b, rfl, upd_same, hk, (fun d ed => by rw [hd] at ed; cases ed; exact ⟨_, by rw [upd_ne (ne_of_none e3 hp)]; exact e3⟩), k _ G _ _ st (r.wo.new hp) rep_bl h⟩
  · exact h.elim
end
theorem kitAny_of {K : PySem.W.Frag} {t : Value} : ∀ {cs : List Addr} {bs : List Bool}, cs.length = bs.length → (∀ p ∈ cs.zip bs, PySem.W.kitOne K t (.ref p.1) = some p.2) → PySem.W.kitAny K t (cs.map Value.ref) = some (bs.any id)
  | [], [], _, _ => rfl
  | c :: cs, b :: bs, hl, h => by
    have h1 := h (c, b) (by simp)
    have h2 := kitAny_of (cs := cs) (bs := bs) (by simpa using hl) fun p hp => h p (by simp [hp])
    refine kitAny_cons h1 (fun e => ?_) (fun e => by simp at e; simp [e])
    simp at e
    rw [h2]
    simp [e]
  | [], _ :: _, hl, _ => by simp at hl
  | _ :: _, [], hl, _ => by simp at hl
/-- of names -/
theorem kitN {K : PySem.W.Frag} {x : Str} {ns : List Str} (h : ∀ c ∈ ns, PySem.W.kitOne K (.ref (He.ga K x)) (.ref (He.ga K c)) = some (isSub x c)) : PySem.W.kitAny K (.ref (He.ga K x)) ((ns.map (He.ga K)).map Value.ref) = some (ns.any fun c => isSub x c) := by
  have := kitAny_of (K := K) (t := .ref (He.ga K x)) (cs := ns.map (He.ga K)) (bs := ns.map fun c => isSub x c) (by simp) (fun p hp => by
    obtain ⟨i, hi, e⟩ := List.getElem_of_mem hp
    simp at hi e
    rw [← e]
    exact h _ (List.getElem_mem _))
  rw [this]
  congr 1
  induction ns with
  | nil => rfl
  | cons a r ih => simp
end DL
set_option Elab.async false
set_option linter.all false
set_option maxRecDepth 100000
set_option maxHeartbeats 4000000
namespace L2
open PySem PySem.Spec PyProof.Rows PySem.W
def rIsV (K : PySem.W.Frag) : List V → Hp → VK → Prop := fun xs H Q => ∃ (a C : Addr) (c : V) (cv : Value) (b : Bool), xs = [.ref a, c] ∧ H a = some (ExO (.ref C) a) ∧ ExcC K C ∧ (∀ u, RelV c u → u = cv) ∧ kitOne K (.ref C) cv = some b ∧ Q (.bl b) H
theorem call_isV {X : Cx} : CallR X (.builtin "isinstance") (rIsV X.K) := by
  intro pins s σ H xs us Q I r h
  obtain ⟨a, C, c, cv, b, rfl, ha, T, hcv, e, q⟩ := h
  cases r with
  | cons rx rr =>
    cases rr with
    | cons rt rr =>
      cases rr
      cases rx
      have ec := hcv _ rt
      subst ec
      obtain ⟨⟨oe, vs, hget, hz, hv, _⟩, _, _⟩ := I.hok a _ ha
      have J : InstAt s.heap a oe C none := by
        obtain ⟨oc, od, oda, osl⟩ := oe
        obtain ⟨h1, h2⟩ := hz
        dsimp only at h1 h2 hv
        subst h1 h2 hv
        exact ⟨hget, rfl, rfl, trivial⟩
      have hcl : (clsIn X.K C).isSome = true := by
        have := T.hd
        unfold hasDictIn at this
        cases q : clsIn X.K C with
        | none => rw [q] at this; cases this
        | some cd => rfl
      exact kia_one (kitx_exc hcl T.hg T.hk T.hs T.ha T.hn T.ht T.hm) I.kIn J e (fun z => nomatch z) fun tk => ⟨.bl b, H, I.kept (t' := tk) fun _ _ z => z, rfl, q⟩
end L2
namespace DL
open PySem PySem.Spec PyProof.Rows L2 PySem.W
/-- an exception object of the class c, not raised -/
def exG (ga : Str → Addr) (c : Str) (a : Addr) : GO := .gen (fun xs ho => xs = [] ∧ ho = ExO (.ref (ga c)) a) []
def eMkV (ga : Str → Addr) (c : Str) (te : EE) : EE := fun s G Q => te s G fun _ G1 => ∀ a, G1 a = none → Q (.ref a) (gput G1 a (exG ga c a))
def eIsV (ga : Str → Addr) (ns : List Str) (c : Str) (te : EE) : EE := fun s G Q => te s G fun x G1 => match x with
  | .ref a => ∃ m, m ∈ ns ∧ G1 a = some (exG ga m a) ∧ Q (.bl (isSub m c)) G1
  | _ => False
section
variable {X : Cx} {K : PySem.W.Frag}
theorem j_mkV {x : Str} {e : Expr} {te : EE} {p pos : Pos} (o : XtK K X.mg x) (hg : Gl X x) (he : JE X e te) (hK : X.K = K := by rfl) (hs : starEach [e] X.env = (false, eval e X.env) :: starEach [] X.env := by rfl) (hdb : (x == ("__debug__" : Str)) = false := by decide) :
    JE X (.Call (.Name x p) [e] [] pos) (eMkV (He.ga K) x te) := by
  subst hK
  refine ⟨pe_exc1 PySem.F.excBase_ValueError o.fe o.gC o.kC hg he.pe hs hdb, fun P s G Q σ H R h r k => ?_⟩
  refine he.le P s G _ σ H _ h r fun x1 G1 u H1 s1 w1 r1 h1 => ?_
  intro a ha
  have st : Step G1 H1 (gput G1 a (exG (He.ga X.K) x a)) (upd H1 a (ExO (.ref (He.ga X.K x)) a)) := Step.newOwn w1 ha
  refine k _ _ _ _ (s1.trans st) (w1.newOwn ha ⟨[], ⟨rfl, rfl⟩, fun ys e => (by cases e), (by unfold Reps; rfl)⟩) ?_ (h1 a (w1.fresh ha).1)
  unfold Rep
  exact ⟨rfl, _, gput_same⟩
theorem j_isV {ns : List Str} {c : Str} {e ce : Expr} {te : EE} {p pos : Pos} (hX : ∀ m ∈ ns, ExcC K (He.ga K m)) (hk : ∀ m ∈ ns, kitOne K (.ref (He.ga K m)) (.ref (He.ga K c)) = some (isSub m c)) (hg : Gl X "isinstance") (hm : X.mg "isinstance" = none) (he : JE X e te) (hc : PE X ce (tC (.ref (He.ga K c)))) (hK : X.K = K := by rfl)
    (h1 : starEach [e, ce] X.env = (false, eval e X.env) :: starEach [ce] X.env := by rfl) (h2 : starEach [ce] X.env = (false, eval ce X.env) :: starEach [] X.env := by rfl) (hpl : (backTo pos (starEach [ce] X.env)).any (·.1) = false := by rfl) :
    JE X (.Call (.Name "isinstance" p) [e, ce] [] pos) (eIsV (He.ga K) ns c te) := by
  subst hK
  refine ⟨pe_callB call_isV hg hm (by decide +kernel) (pa_cons he.pe (pa_cons hc pa_nil h2) h1) (by decide) (by decide) h1 hpl, fun P s G Q σ H R h r k => ?_⟩
  refine he.le P s G _ σ H _ h r fun x1 G1 u H1 s1 w1 r1 h2 => ?_
  cases x1 with
  | ref a =>
    obtain ⟨m, hm, hG, q⟩ := h2
    unfold Rep at r1
    obtain ⟨rfl, _⟩ := r1
    obtain ⟨ho, e1, xs, ⟨_, e2⟩, _, _⟩ := w1.own a _ hG
    subst e2
    exact ⟨a, _, .ref (He.ga X.K c), .ref (He.ga X.K c), isSub m c, rfl, e1, hX m hm, fun _ h => h, hk m hm, k _ G1 _ H1 s1 w1 rep_bl q⟩
  | _ => exact h2.elim
end
end DL
set_option Elab.async false
set_option linter.all false
set_option maxRecDepth 100000
set_option maxHeartbeats 4000000
namespace DL
open PySem PySem.Spec PyProof.Rows L2 LN
def rsB (n : Int) : D → Bool
  | .tup [nm, b, e, w] => namB nm && (match intOf b, intOf e, intOf w with
    | some b, some e, some w => decide (0 ≤ b ∧ b < n ∧ 1 ≤ e ∧ e ≤ n ∧ 0 ≤ w ∧ w ≤ 1000000000000)
    | _, _, _ => false)
  | _ => false
theorem rsB_4 {k : Int} {n b e w : D} : rsB k (.tup [n, b, e, w]) = (namB n && (match intOf b, intOf e, intOf w with
    | some b, some e, some w => decide (0 ≤ b ∧ b < k ∧ 1 ≤ e ∧ e ≤ k ∧ 0 ≤ w ∧ w ≤ 1000000000000)
    | _, _, _ => false)) := rfl
theorem rsB_len {k : Int} {es : List D} (h : es.length ≠ 4) : rsB k (.tup es) = false := by
  match es, h with
  | [], _ => rfl
  | [_], _ => rfl
  | [_, _], _ => rfl
  | [_, _, _], _ => rfl
  | [_, _, _, _], h => exact absurd rfl h
  | _ :: _ :: _ :: _ :: _ :: _, _ => rfl
theorem rsB_shape {k : Int} {d : D} (h : rsB k d = true) : ∃ (z : Str) (b e w : D), d = .tup [.str z, b, e, w] := by
  cases d with
  | tup es =>
    by_cases l4 : es.length = 4
    · match es, l4 with
      | [n, b, e, w], _ =>
        rw [rsB_4] at h
        cases n with
        | str z => exact ⟨z, b, e, w, rfl⟩
        | _ => simp [namB] at h
    · rw [rsB_len l4] at h; cases h
  | _ => cases h
/-- the first thing that can't stand in a ring -/
def badR (n : Int) : List Str → Nat → List D → Option Nat
  | _, _, [] => none
  | ns, k, d :: r => if k = 24 ∨ rsB n d = false ∨ stName d ∈ ns then some k else badR n (ns ++ [stName d]) (k + 1) r
def lookR : D → Option (Option Nat)
  | .tup [sz, .lst es] => (match intOf sz with
    | some n => if 1 ≤ n ∧ n ≤ 40 then (badR n [] 0 es).map some else some none
    | none => some none)
  | _ => some none
def numD : Option Nat → D
  | none => .non
  | some k => .int (k : Nat)
def F_is_ring_stretch : Sf := fun ds G Q => ∃ (n : Int) (d : D), ds = [.int n, d] ∧ okT d = true ∧ Q (.bl (rsB n d)) G
def F_look_at_ring : Sx := fun ds G Q U => ∃ d, ds = [d] ∧ okT d = true ∧ (lookR d = none → Q .non G) ∧ ∀ r, lookR d = some r → U ⟨"NoRing", some ("number", numD r)⟩ G
def TO (k n : Nat) (d : D) : Prop := okT d = true ∧ Thg k n d
def F__law_odd_stretch : Sf := fun ds G Q => ∃ (a : Addr) (x y z : Int) (n : Int) (rs : List Stretch) (p : Nat), ds = [.ref a, ringD n rs, .int (p : Int)] ∧ G a = some (stO x y z) ∧ Ok3 x y z ∧ RgOk n rs ∧ p < rs.length ∧ ∀ d x' y' z', Ok3 x' y' z' → TO 3 4000 d → (rsB n d = false ∨ stName d ∈ (rs.take p).map Stretch.name) → Q d (gput G a (stO x' y' z'))
def F__law_odd : Sf := fun ds G Q => ∃ (a : Addr) (x y z : Int) (n : Int) (rs : List Stretch), ds = [.ref a, ringD n rs] ∧ G a = some (stO x y z) ∧ Ok3 x y z ∧ RgOk n rs ∧ ∀ d r x' y' z', Ok3 x' y' z' → TO 9 1000000 d → lookR d = some r → Q (.tup [d, numD r]) (gput G a (stO x' y' z'))
def F__law_refused : Sf := fun ds G Q => ∃ d r, ds = [d, numD r] ∧ okT d = true ∧ lookR d = some r ∧ Q (.bl true) G
def F__law_made_by_hand : Sf := fun ds G Q => ds = [] ∧ Q (.bl true) G
def r_is_ring_stretch : ES :=
  (sSeq (sIf (eOr (eNot (eTru (eCB cIsi (eCons (eVar 1) (eCons (eC (.ty "tuple")) eNil))))) (eOr (eT (eOp oNe (eCB cLen (eCons (eVar 1) eNil)) (eC (.int 4)))) (eNot (eTru (eCall F_is_name (eCons (eOp oIx (eVar 1) (eC (.int 0))) eNil)))))) (sRet (eC (.bl false))) sNext)
  (sSeq (sIf (eNot (eTru (eCB cAll (eCons (eLc (iT (eSlT (eVar 1) (ePart (eC (.int 1))) eNoPart)) (.nm 2) eYes (eCall F_is_whole (eCons (eVar 2) eNil)) [2]) eNil)))) (sRet (eC (.bl false))) sNext)
  (sRet (eAndT (eChain oLe oLt (eC (.int 0)) (eOp oIx (eVar 1) (eC (.int 1))) (eVar 0)) (eAndT (eChain oLe oLe (eC (.int 1)) (eOp oIx (eVar 1) (eC (.int 2))) (eVar 0)) (eChain oLe oLe (eC (.int 0)) (eOp oIx (eVar 1) (eC (.int 3))) (eC (.int 1000000000000))))))))
def r_look_at_ring_L1 : ES :=
  (sSeq (sIf (eOr (eT (eOp oEq (eVar 4) (eC (.int 24)))) (eOr (eNot (eTru (eCall F_is_ring_stretch (eCons (eVar 1) (eCons (eVar 5) eNil))))) (eT (eOp (oIn false) (eOp oIx (eVar 5) (eC (.int 0))) (eVar 3))))) (sRaiseF "NoRing" "number" (eVar 4)) sNext)
  (sDrop (eBm mApp (eVar 3) (eCons (eOp oIx (eVar 5) (eC (.int 0))) eNil))))
def r_look_at_ring : ES :=
  (sSeq (sIf (eOr (eNot (eTru (eCB cIsi (eCons (eVar 0) (eCons (eC (.ty "tuple")) eNil))))) (eOr (eT (eOp oNe (eCB cLen (eCons (eVar 0) eNil)) (eC (.int 2)))) (eNot (eTru (eCB cIsi (eCons (eOp oIx (eVar 0) (eC (.int 1))) (eCons (eC (.ty "list")) eNil))))))) (sRaiseF "NoRing" "number" (eC .non)) sNext)
  (sSeq (sAsg (eVar 0) (.tp [1, 2]))
  (sSeq (sIf (eOr (eNot (eTru (eCall F_is_whole (eCons (eVar 1) eNil)))) (eNot (eT (eChain oLe oLe (eC (.int 1)) (eVar 1) (eC (.int 40)))))) (sRaiseF "NoRing" "number" (eC .non)) sNext)
  (sSeq (sAsg (eLstO eNil) (.nm 3))
  (sFor (iE (eCons (eVar 2) eNil)) (.tp [4, 5]) r_look_at_ring_L1)))))
def r__law_odd_stretch : ES :=
  (sSeq (sAsg (eOp oIx (eOp oIx (eVar 1) (eC (.int 1))) (eVar 2)) (.tp [3, 4, 5, 6]))
  (sSeq (sAsg (eOp oIx (eVar 1) (eC (.int 0))) (.nm 7))
  (sSeq (sAsg (eLst (eCons (eC .non) (eCons (eLst (eCons (eVar 3) (eCons (eVar 4) (eCons (eVar 5) (eCons (eVar 6) eNil))))) (eCons (eTup (eCons (eVar 3) (eCons (eVar 4) (eCons (eVar 5) eNil)))) (eCons (eTup (eCons (eVar 3) (eCons (eVar 4) (eCons (eVar 5) (eCons (eVar 6) (eCons (eC (.int 0)) eNil)))))) eNil))))) (.nm 8))
  (sSeq (sAsg (eOp oAdd (eVar 8) (eLst (eCons (eVar 3) (eCons (eTup eNil) (eCons eDnew0 eNil))))) (.nm 8))
  (sSeq (sAsg (eOp oAdd (eVar 8) (eLst (eCons (eTup (eCons (eC (.str "")) (eCons (eVar 4) (eCons (eVar 5) (eCons (eVar 6) eNil))))) (eCons (eTup (eCons (eC (.str "Ab")) (eCons (eVar 4) (eCons (eVar 5) (eCons (eVar 6) eNil))))) eNil)))) (.nm 8))
  (sSeq (sAsg (eOp oAdd (eVar 8) (eLst (eCons (eTup (eCons (eC (.str "abcdefghi")) (eCons (eVar 4) (eCons (eVar 5) (eCons (eVar 6) eNil))))) eNil))) (.nm 8))
  (sSeq (sAsg (eOp oAdd (eVar 8) (eLst (eCons (eTup (eCons (eC (.int 3)) (eCons (eVar 4) (eCons (eVar 5) (eCons (eVar 6) eNil))))) (eCons (eTup (eCons (eC .non) (eCons (eVar 4) (eCons (eVar 5) (eCons (eVar 6) eNil))))) eNil)))) (.nm 8))
  (sSeq (sAsg (eOp oAdd (eVar 8) (eLst (eCons (eTup (eCons (eLst (eCons (eVar 3) eNil)) (eCons (eVar 4) (eCons (eVar 5) (eCons (eVar 6) eNil))))) eNil))) (.nm 8))
  (sSeq (sAsg (eOp oAdd (eVar 8) (eLst (eCons (eTup (eCons (eVar 3) (eCons (eUn oNeg (eC (.int 1))) (eCons (eVar 5) (eCons (eVar 6) eNil))))) (eCons (eTup (eCons (eVar 3) (eCons (eVar 7) (eCons (eVar 5) (eCons (eVar 6) eNil))))) eNil)))) (.nm 8))
  (sSeq (sAsg (eOp oAdd (eVar 8) (eLst (eCons (eTup (eCons (eVar 3) (eCons (eC (.bl true)) (eCons (eVar 5) (eCons (eVar 6) eNil))))) (eCons (eTup (eCons (eVar 3) (eCons (eC (.str "0")) (eCons (eVar 5) (eCons (eC (.int 1)) eNil))))) eNil)))) (.nm 8))
  (sSeq (sAsg (eOp oAdd (eVar 8) (eLst (eCons (eTup (eCons (eVar 3) (eCons (eVar 4) (eCons (eC (.int 0)) (eCons (eVar 6) eNil))))) (eCons (eTup (eCons (eVar 3) (eCons (eVar 4) (eCons (eOp oAdd (eVar 7) (eC (.int 1))) (eCons (eVar 6) eNil))))) eNil)))) (.nm 8))
  (sSeq (sAsg (eOp oAdd (eVar 8) (eLst (eCons (eTup (eCons (eVar 3) (eCons (eVar 4) (eCons (eC .non) (eCons (eVar 6) eNil))))) eNil))) (.nm 8))
  (sSeq (sAsg (eOp oAdd (eVar 8) (eLst (eCons (eTup (eCons (eVar 3) (eCons (eVar 4) (eCons (eC (.bl true)) (eCons (eVar 6) eNil))))) (eCons (eTup (eCons (eVar 3) (eCons (eVar 4) (eCons (eVar 5) (eCons (eUn oNeg (eC (.int 1))) eNil))))) eNil)))) (.nm 8))
  (sSeq (sAsg (eOp oAdd (eVar 8) (eLst (eCons (eTup (eCons (eVar 3) (eCons (eVar 4) (eCons (eVar 5) (eCons (eOp oAdd (eC (.int 1000000000000)) (eC (.int 1))) eNil))))) eNil))) (.nm 8))
  (sSeq (sAsg (eOp oAdd (eVar 8) (eLst (eCons (eTup (eCons (eVar 3) (eCons (eVar 4) (eCons (eVar 5) (eCons (eC (.bl true)) eNil))))) (eCons (eTup (eCons (eVar 3) (eCons (eVar 4) (eCons (eVar 5) (eCons (eC (.str "1")) eNil))))) eNil)))) (.nm 8))
  (sSeq (sAsg (eOp oAdd (eVar 8) (eLst (eCons (eTup (eCons (eVar 3) (eCons (eVar 4) (eCons (eVar 5) (eCons (eC .non) eNil))))) (eCons (eTup (eCons (eC (.str "a b")) (eCons (eC (.int 0)) (eCons (eC (.int 1)) (eCons (eC (.int 1)) eNil))))) eNil)))) (.nm 8))
  (sSeq (sIf (eT (eOp oGt (eVar 2) (eC (.int 0)))) (sSeq (sAsg (eOp oIx (eOp oIx (eOp oIx (eVar 1) (eC (.int 1))) (eCall F__law_take (eCons (eVar 0) (eCons (eVar 2) eNil)))) (eC (.int 0))) (.nm 9))
  (sAsg (eOp oAdd (eVar 8) (eOp oRep (eLst (eCons (eTup (eCons (eVar 9) (eCons (eVar 4) (eCons (eVar 5) (eCons (eVar 6) eNil))))) eNil)) (eC (.int 6)))) (.nm 8))) sNext)
  (sRet (eOp oIx (eVar 8) (eCall F__law_take (eCons (eVar 0) (eCons (eCB cLen (eCons (eVar 8) eNil)) eNil))))))))))))))))))))))
def r__law_odd : ES :=
  (sSeq (sAsg (eVar 1) (.tp [2, 3]))
  (sSeq (sAsg (eCall F__law_take (eCons (eVar 0) (eCons (eC (.int 6)) eNil))) (.nm 4))
  (sSeq (sIf (eT (eOp oEq (eVar 4) (eC (.int 0)))) (sSeq (sAsg (eLst (eCons (eC .non) (eCons (eLst (eCons (eVar 2) (eCons (eVar 3) eNil))) (eCons (eTup (eCons (eVar 2) eNil)) (eCons (eTup (eCons (eVar 2) (eCons (eVar 3) (eCons (eC (.int 0)) eNil)))) (eCons (eVar 2) eNil)))))) (.nm 5))
  (sSeq (sAsg (eOp oAdd (eVar 5) (eLst (eCons (eVar 3) (eCons (eTup eNil) (eCons eDnew0 (eCons (eC (.str "ring")) eNil)))))) (.nm 5))
  (sRet (eTup (eCons (eOp oIx (eOp oAdd (eVar 5) (eLst (eCons (eTup (eCons (eVar 3) (eCons (eVar 2) eNil))) eNil))) (eCall F__law_take (eCons (eVar 0) (eCons (eC (.int 10)) eNil)))) (eCons (eC .non) eNil)))))) sNext)
  (sSeq (sIf (eT (eOp oEq (eVar 4) (eC (.int 1)))) (sSeq (sAsg (eLst (eCons (eC (.int 0)) (eCons (eUn oNeg (eC (.int 1))) (eCons (eC (.int 41)) (eCons (eC (.bl true)) (eCons (eC .non) (eCons (eC (.str "3")) (eCons (eLst (eCons (eVar 2) eNil)) (eCons (eTup (eCons (eVar 2) eNil)) (eCons (eC (.int 1000000000000000000000000000000)) (eCons (eC (.bl false)) eNil))))))))))) (.nm 5))
  (sRet (eTup (eCons (eTup (eCons (eOp oIx (eVar 5) (eCall F__law_take (eCons (eVar 0) (eCons (eC (.int 10)) eNil)))) (eCons (eVar 3) eNil))) (eCons (eC .non) eNil))))) sNext)
  (sSeq (sIf (eT (eOp oEq (eVar 4) (eC (.int 2)))) (sRet (eTup (eCons (eTup (eCons (eVar 2) (eCons (eOp oIx (eLst (eCons (eC .non) (eCons (eCB cTuple (eCons (eVar 3) eNil)) (eCons eDnew0 (eCons (eC (.int 5)) (eCons (eC (.str "")) (eCons (eC (.str "abc")) eNil))))))) (eCall F__law_take (eCons (eVar 0) (eCons (eC (.int 6)) eNil)))) eNil))) (eCons (eC .non) eNil)))) sNext)
  (sSeq (sIf (eOr (eT (eOp oEq (eVar 4) (eC (.int 3)))) (eT (eOp oEq (eVar 3) (eLst eNil)))) (sSeq (sAsg (eC (.str "abcdefghijklmnopqrstuvwxyz")) (.nm 6))
  (sSeq (sAsg (eLcO (iS (eVar 6)) (.nm 10) eYes (eTup (eCons (eOp oRepS (eVar 10) (eC (.int 3))) (eCons (eC (.int 0)) (eCons (eC (.int 1)) (eCons (eC (.int 1)) eNil))))) [10]) (.nm 7))
  (sSeq (sAsg (eCall F__law_take (eCons (eVar 0) (eCons (eC (.int 52)) eNil))) (.nm 8))
  (sSeq (sIf (eT (eOp oLt (eVar 8) (eC (.int 26)))) (sSeq (sAsg (eLst (eCons (eC .non) (eCons (eTup (eCons (eC (.str "a")) (eCons (eC (.int 0)) (eCons (eC (.int 0)) (eCons (eC (.int 1)) eNil))))) (eCons (eTup (eCons (eOp oRepS (eOp oIx (eVar 6) (eVar 8)) (eC (.int 3))) (eCons (eC (.int 0)) (eCons (eC (.int 1)) (eCons (eUn oNeg (eC (.int 1))) eNil))))) (eCons (eC (.str "aaa")) eNil))))) (.nm 5))
  (sSetIx (eOp oIx (eVar 5) (eCall F__law_take (eCons (eVar 0) (eCons (eC (.int 4)) eNil)))) (eVar 7) (eVar 8))) sNext)
  (sRet (eTup (eCons (eTup (eCons (eVar 2) (eCons (eVar 7) eNil))) (eCons (eCB cMin2 (eCons (eVar 8) (eCons (eC (.int 24)) eNil))) eNil)))))))) sNext)
  (sSeq (sAsg (eCall F__law_take (eCons (eVar 0) (eCons (eCB cLen (eCons (eVar 3) eNil)) eNil))) (.nm 8))
  (sSeq (sAsg (eCB cListO (eCons (eVar 3) eNil)) (.nm 7))
  (sSeq (sSetIx (eCall F__law_odd_stretch (eCons (eVar 0) (eCons (eVar 1) (eCons (eVar 8) eNil)))) (eVar 7) (eVar 8))
  (sSeq (sIf (eT (eOp oEq (eCall F__law_take (eCons (eVar 0) (eCons (eC (.int 2)) eNil))) (eC (.int 0)))) (sRet (eTup (eCons (eTup (eCons (eVar 2) (eCons (eVar 7) eNil))) (eCons (eVar 8) eNil)))) sNext)
  (sSeq (sAsg (eCall F__law_take (eCons (eVar 0) (eCons (eCB cLen (eCons (eVar 3) eNil)) eNil))) (.nm 9))
  (sSeq (sSetIx (eCall F__law_odd_stretch (eCons (eVar 0) (eCons (eVar 1) (eCons (eVar 9) eNil)))) (eVar 7) (eVar 9))
  (sRet (eTup (eCons (eTup (eCons (eVar 2) (eCons (eVar 7) eNil))) (eCons (eCB cMin2 (eCons (eVar 8) (eCons (eVar 9) eNil))) eNil))))))))))))))))
def r__law_refused : ES :=
  (sSeq (sTryAs (["Crowded", "NoBenches", "NoBook", "NoRing", "NoRow", "NoStretch", "NoText", "NoTree", "NoTurn", "NoUndo", "TooMany", "Unknown"] : List Str) "BenchError" 2 (sDropX (eCallX F_look_at_ring (eXa (eCons (eVar 0) eNil)))) (fun a dd x =>
    (sSeq (sIf (eOr (eNot (eTru (eIsE a dd x 2 (isSub x.c "NoRing")))) (eNot (eTru (eIsE a dd x 2 true)))) (sRet (eC (.bl false))) sNext)
  (sSeq (sIf (eTru (eIsE a dd x 2 ((["Crowded", "NoBenches", "NoBook", "NoRow", "NoStretch", "NoText"] : List Str).any fun c => isSub x.c c))) (sRet (eC (.bl false))) sNext)
  (sSeq (sIf (eTru (eIsE a dd x 2 ((["NoTree", "NoTurn", "NoUndo", "TooMany", "Unknown"] : List Str).any fun c => isSub x.c c))) (sRet (eC (.bl false))) sNext)
  (sSeq (sIf (eNot (eT (eOp oEq (eXf a dd x 2 "number") (eVar 1)))) (sRet (eC (.bl false))) sNext)
  (sRet (eAndT (eOp oEq (eOp oIsN (eXf a dd x 2 "number") (eC .non)) (eOp oIsN (eVar 1) (eC .non))) (eNotT (eCB cIsi (eCons (eXf a dd x 2 "number") (eCons (eC (.ty "bool")) eNil))))))))))))
  (sRet (eC (.bl false))))
def r__law_made_by_hand (ga : Str → Addr) : ES :=
  (sSeq (sIf (eOr (eT (eOp oNe (eC (.int 3)) (eC (.int 3)))) (eOr (eT (eOp oNotN (eC .non) (eC .non))) (eT (eOp oNe (eUn oNeg (eC (.int 7))) (eUn oNeg (eC (.int 7))))))) (sRet (eC (.bl false))) sNext)
  (sSeq (sIf (eOr (eT (eOp oNe (eC (.int 5)) (eC (.int 5)))) (eT (eOp oNe (eLst (eCons (eC (.int 1)) (eCons (eC (.int 0)) eNil))) (eLst (eCons (eC (.int 1)) (eCons (eC (.int 0)) eNil)))))) (sRet (eC (.bl false))) sNext)
  (sSeq (sAsg (eLst (eCons (eMkV ga "NoBenches" (eC (.str "no"))) (eCons (eMkV ga "NoRow" (eC (.str "no"))) (eCons (eMkV ga "NoStretch" (eC (.str "no"))) (eCons (eMkV ga "NoTurn" (eC (.str "no"))) eNil))))) (.nm 0))
  (sSeq (sAsg (eOp oAdd (eVar 0) (eLst (eCons (eMkV ga "NoUndo" (eC (.str "no"))) (eCons (eMkV ga "TooMany" (eC (.str "no"))) (eCons (eMkV ga "Unknown" (eC (.str "no"))) eNil))))) (.nm 0))
  (sRet (eOp oEq (eLc (iL (eVar 0)) (.nm 1) (eNot (eTru (eIsV ga (["Crowded", "NoBenches", "NoBook", "NoRing", "NoRow", "NoStretch", "NoText", "NoTree", "NoTurn", "NoUndo", "TooMany", "Unknown"] : List Str) "BenchError" (eVar 1)))) (eVar 1) [1]) (eLst eNil)))))))
def r_law_L1 : ES :=
  (sSeq (sAsg (eCall F__law_begun (eCons (eVar 0) (eCons (eVar 1) eNil))) (.nm 2))
  (sSeq (sAsg (eCall F__law_ring (eCons (eVar 2) (eCons (eC (.int 24)) eNil))) (.nm 3))
  (sSeq (sAsg (eTup (eCons (eOp oIx (eVar 3) (eC (.int 0))) (eCons (eCB cList (eCons (eOp oIx (eVar 3) (eC (.int 1))) eNil)) eNil))) (.nm 4))
  (sSeq (sAsg (eCall F__law_odd (eCons (eVar 2) (eCons (eVar 3) eNil))) (.tp [5, 6]))
  (sSeq (sAsg (eCB cStrX (eCons (eVar 5) eNil)) (.nm 7))
  (sSeq (sIf (eOr (eT (eOp oNotN (eCall (nev F_look_at_ring) (eCons (eVar 4) eNil)) (eC .non))) (eT (eOp oNe (eVar 4) (eVar 3)))) (sRet (eC (.bl false))) sNext)
  (sSeq (sIf (eOr (eNot (eTru (eCall F__law_refused (eCons (eVar 5) (eCons (eVar 6) eNil))))) (eT (eOp oNe (eCB cStrX (eCons (eVar 5) eNil)) (eVar 7)))) (sRet (eC (.bl false))) sNext)
  (sIf (eT (eOp oNotN (eCall (nev F_look_at_ring) (eCons (eVar 4) eNil)) (eC .non))) (sRet (eC (.bl false))) sNext))))))))
def r_law : ES :=
  (sSeq (sFor (iR1 (eCons (eCB cMax2 (eCons (eC (.int 1)) (eCons (eCB cMin2 (eCons (eCB cLen (eCons (eVar 0) eNil)) (eCons (eC (.int 40)) eNil))) eNil))) eNil)) (.nm 1) r_law_L1)
  (sRet (eCall F__law_made_by_hand eNil)))
def suite53 (a dd : Addr) (x : Xd) : ES :=
    (sSeq (sIf (eOr (eNot (eTru (eIsE a dd x 2 (isSub x.c "NoRing")))) (eNot (eTru (eIsE a dd x 2 true)))) (sRet (eC (.bl false))) sNext)
  (sSeq (sIf (eTru (eIsE a dd x 2 ((["Crowded", "NoBenches", "NoBook", "NoRow", "NoStretch", "NoText"] : List Str).any fun c => isSub x.c c))) (sRet (eC (.bl false))) sNext)
  (sSeq (sIf (eTru (eIsE a dd x 2 ((["NoTree", "NoTurn", "NoUndo", "TooMany", "Unknown"] : List Str).any fun c => isSub x.c c))) (sRet (eC (.bl false))) sNext)
  (sSeq (sIf (eNot (eT (eOp oEq (eXf a dd x 2 "number") (eVar 1)))) (sRet (eC (.bl false))) sNext)
  (sRet (eAndT (eOp oEq (eOp oIsN (eXf a dd x 2 "number") (eC .non)) (eOp oIsN (eVar 1) (eC .non))) (eNotT (eCB cIsi (eCons (eXf a dd x 2 "number") (eCons (eC (.ty "bool")) eNil))))))))))
theorem ring_4 {k : Int} {n b e w : D} {G : Gp} {Q : DK} (hn : okT n = true) (hb : okT b = true) (he : okT e = true) (hw : okT w = true) (k1 : Q (.bl (rsB k (.tup [n, b, e, w]))) G) :
    r_is_ring_stretch (fin G Q) (startD 3 [.int k, .tup [n, b, e, w]]) G := by
  refine seq_gen fun W hW => ?_
  (try dsimp only [sAsg, sIf, sRet, sRetN, sDrop, sNext, asg, setAll, eT, eOp, eUn, eLst, eTup, eCons, eNil, eVar, eC, eCall, eCB, eNot, eAnd, eOr, eTru, eAndT, eOrT, eNotT, eIf, ePart, eNoPart, eYes, eChain, eChain3, oI, oI0, oLt, oLe, oGt, oGe, oNeg, oSub, oMod, oMul, oDivW, eXp, eXa, eConsX, eCallX, eCallN, eLstX, eCBX, sDropX, sRetX, sAsgX, sRaise, sRaiseF, List.set_cons_zero, List.set_cons_succ, List.getElem?_cons_zero, List.getElem?_cons_succ, truD_bl, startD, List.map_cons, List.map_nil, List.length_cons, List.length_nil, List.cons_append, List.nil_append]); (try simp only [if_true, Bool.false_eq_true, if_false, decide_true, decide_false, Bool.not_true, Bool.not_false, List.length_cons, List.length_nil, sizeLine_eq, Nat.reduceAdd, Nat.reduceLeDiff, true_and, and_true, pw6, pw10, pw11, pw12, pw13, pw30, pw40, pw60, startD, List.map_cons, List.map_nil, List.length_cons, List.length_nil, List.cons_append, List.nil_append]); (try dsimp only [sAsg, sIf, sRet, sRetN, sDrop, sNext, asg, setAll, eT, eOp, eUn, eLst, eTup, eCons, eNil, eVar, eC, eCall, eCB, eNot, eAnd, eOr, eTru, eAndT, eOrT, eNotT, eIf, ePart, eNoPart, eYes, eChain, eChain3, oI, oI0, oLt, oLe, oGt, oGe, oNeg, oSub, oMod, oMul, oDivW, eXp, eXa, eConsX, eCallX, eCallN, eLstX, eCBX, sDropX, sRetX, sAsgX, sRaise, sRaiseF, List.set_cons_zero, List.set_cons_succ, List.getElem?_cons_zero, List.getElem?_cons_succ, truD_bl, startD, List.map_cons, List.map_nil, List.length_cons, List.length_nil, List.cons_append, List.nil_append])
  rw [isi_tuple (by simp [anyD, anyDs, okT_any hn, okT_any hb, okT_any he, okT_any hw])]
  (try dsimp only [sAsg, sIf, sRet, sRetN, sDrop, sNext, asg, setAll, eT, eOp, eUn, eLst, eTup, eCons, eNil, eVar, eC, eCall, eCB, eNot, eAnd, eOr, eTru, eAndT, eOrT, eNotT, eIf, ePart, eNoPart, eYes, eChain, eChain3, oI, oI0, oLt, oLe, oGt, oGe, oNeg, oSub, oMod, oMul, oDivW, eXp, eXa, eConsX, eCallX, eCallN, eLstX, eCBX, sDropX, sRetX, sAsgX, sRaise, sRaiseF, List.set_cons_zero, List.set_cons_succ, List.getElem?_cons_zero, List.getElem?_cons_succ, truD_bl, isT, Bool.not_true]); (try simp only [if_true, Bool.false_eq_true, if_false, decide_true, decide_false, Bool.not_true, Bool.not_false, List.length_cons, List.length_nil, sizeLine_eq, Nat.reduceAdd, Nat.reduceLeDiff, true_and, and_true, pw6, pw10, pw11, pw12, pw13, pw30, pw40, pw60, isT, Bool.not_true]); (try dsimp only [sAsg, sIf, sRet, sRetN, sDrop, sNext, asg, setAll, eT, eOp, eUn, eLst, eTup, eCons, eNil, eVar, eC, eCall, eCB, eNot, eAnd, eOr, eTru, eAndT, eOrT, eNotT, eIf, ePart, eNoPart, eYes, eChain, eChain3, oI, oI0, oLt, oLe, oGt, oGe, oNeg, oSub, oMod, oMul, oDivW, eXp, eXa, eConsX, eCallX, eCallN, eLstX, eCBX, sDropX, sRetX, sAsgX, sRaise, sRaiseF, List.set_cons_zero, List.set_cons_succ, List.getElem?_cons_zero, List.getElem?_cons_succ, truD_bl, isT, Bool.not_true])
  refine len_tup (ne_ii ?_)
  (try dsimp only [sAsg, sIf, sRet, sRetN, sDrop, sNext, asg, setAll, eT, eOp, eUn, eLst, eTup, eCons, eNil, eVar, eC, eCall, eCB, eNot, eAnd, eOr, eTru, eAndT, eOrT, eNotT, eIf, ePart, eNoPart, eYes, eChain, eChain3, oI, oI0, oLt, oLe, oGt, oGe, oNeg, oSub, oMod, oMul, oDivW, eXp, eXa, eConsX, eCallX, eCallN, eLstX, eCBX, sDropX, sRetX, sAsgX, sRaise, sRaiseF, List.set_cons_zero, List.set_cons_succ, List.getElem?_cons_zero, List.getElem?_cons_succ, truD_bl, len4]); (try simp only [if_true, Bool.false_eq_true, if_false, decide_true, decide_false, Bool.not_true, Bool.not_false, List.length_cons, List.length_nil, sizeLine_eq, Nat.reduceAdd, Nat.reduceLeDiff, true_and, and_true, pw6, pw10, pw11, pw12, pw13, pw30, pw40, pw60, len4]); (try dsimp only [sAsg, sIf, sRet, sRetN, sDrop, sNext, asg, setAll, eT, eOp, eUn, eLst, eTup, eCons, eNil, eVar, eC, eCall, eCB, eNot, eAnd, eOr, eTru, eAndT, eOrT, eNotT, eIf, ePart, eNoPart, eYes, eChain, eChain3, oI, oI0, oLt, oLe, oGt, oGe, oNeg, oSub, oMod, oMul, oDivW, eXp, eXa, eConsX, eCallX, eCallN, eLstX, eCBX, sDropX, sRetX, sAsgX, sRaise, sRaiseF, List.set_cons_zero, List.set_cons_succ, List.getElem?_cons_zero, List.getElem?_cons_succ, truD_bl, len4])
  refine ixt_0 (d := n) rfl (is_name_ok hn ?_)
  rw [rsB_4] at k1
  cases qn : namB n with
  | false =>
    rw [qn] at k1
    (try dsimp only [sAsg, sIf, sRet, sRetN, sDrop, sNext, asg, setAll, eT, eOp, eUn, eLst, eTup, eCons, eNil, eVar, eC, eCall, eCB, eNot, eAnd, eOr, eTru, eAndT, eOrT, eNotT, eIf, ePart, eNoPart, eYes, eChain, eChain3, oI, oI0, oLt, oLe, oGt, oGe, oNeg, oSub, oMod, oMul, oDivW, eXp, eXa, eConsX, eCallX, eCallN, eLstX, eCBX, sDropX, sRetX, sAsgX, sRaise, sRaiseF, List.set_cons_zero, List.set_cons_succ, List.getElem?_cons_zero, List.getElem?_cons_succ, truD_bl, Bool.not_false]); (try simp only [if_true, Bool.false_eq_true, if_false, decide_true, decide_false, Bool.not_true, Bool.not_false, List.length_cons, List.length_nil, sizeLine_eq, Nat.reduceAdd, Nat.reduceLeDiff, true_and, and_true, pw6, pw10, pw11, pw12, pw13, pw30, pw40, pw60, Bool.not_false]); (try dsimp only [sAsg, sIf, sRet, sRetN, sDrop, sNext, asg, setAll, eT, eOp, eUn, eLst, eTup, eCons, eNil, eVar, eC, eCall, eCB, eNot, eAnd, eOr, eTru, eAndT, eOrT, eNotT, eIf, ePart, eNoPart, eYes, eChain, eChain3, oI, oI0, oLt, oLe, oGt, oGe, oNeg, oSub, oMod, oMul, oDivW, eXp, eXa, eConsX, eCallX, eCallN, eLstX, eCBX, sDropX, sRetX, sAsgX, sRaise, sRaiseF, List.set_cons_zero, List.set_cons_succ, List.getElem?_cons_zero, List.getElem?_cons_succ, truD_bl, Bool.not_false])
    exact fin_id k1
  | true =>
    rw [qn] at k1
    (try dsimp only [sAsg, sIf, sRet, sRetN, sDrop, sNext, asg, setAll, eT, eOp, eUn, eLst, eTup, eCons, eNil, eVar, eC, eCall, eCB, eNot, eAnd, eOr, eTru, eAndT, eOrT, eNotT, eIf, ePart, eNoPart, eYes, eChain, eChain3, oI, oI0, oLt, oLe, oGt, oGe, oNeg, oSub, oMod, oMul, oDivW, eXp, eXa, eConsX, eCallX, eCallN, eLstX, eCBX, sDropX, sRetX, sAsgX, sRaise, sRaiseF, List.set_cons_zero, List.set_cons_succ, List.getElem?_cons_zero, List.getElem?_cons_succ, truD_bl, Bool.not_true]); (try simp only [if_true, Bool.false_eq_true, if_false, decide_true, decide_false, Bool.not_true, Bool.not_false, List.length_cons, List.length_nil, sizeLine_eq, Nat.reduceAdd, Nat.reduceLeDiff, true_and, and_true, pw6, pw10, pw11, pw12, pw13, pw30, pw40, pw60, Bool.not_true]); (try dsimp only [sAsg, sIf, sRet, sRetN, sDrop, sNext, asg, setAll, eT, eOp, eUn, eLst, eTup, eCons, eNil, eVar, eC, eCall, eCB, eNot, eAnd, eOr, eTru, eAndT, eOrT, eNotT, eIf, ePart, eNoPart, eYes, eChain, eChain3, oI, oI0, oLt, oLe, oGt, oGe, oNeg, oSub, oMod, oMul, oDivW, eXp, eXa, eConsX, eCallX, eCallN, eLstX, eCBX, sDropX, sRetX, sAsgX, sRaise, sRaiseF, List.set_cons_zero, List.set_cons_succ, List.getElem?_cons_zero, List.getElem?_cons_succ, truD_bl, Bool.not_true])
    refine hW _ _ ?_
    refine seq_gen fun W2 hW2 => ?_
    (try dsimp only [sAsg, sIf, sRet, sRetN, sDrop, sNext, asg, setAll, eT, eOp, eUn, eLst, eTup, eCons, eNil, eVar, eC, eCall, eCB, eNot, eAnd, eOr, eTru, eAndT, eOrT, eNotT, eIf, ePart, eNoPart, eYes, eChain, eChain3, oI, oI0, oLt, oLe, oGt, oGe, oNeg, oSub, oMod, oMul, oDivW, eXp, eXa, eConsX, eCallX, eCallN, eLstX, eCBX, sDropX, sRetX, sAsgX, sRaise, sRaiseF, List.set_cons_zero, List.set_cons_succ, List.getElem?_cons_zero, List.getElem?_cons_succ, truD_bl, eLc, iT, eSlT, List.replicate]); (try simp only [if_true, Bool.false_eq_true, if_false, decide_true, decide_false, Bool.not_true, Bool.not_false, List.length_cons, List.length_nil, sizeLine_eq, Nat.reduceAdd, Nat.reduceLeDiff, true_and, and_true, pw6, pw10, pw11, pw12, pw13, pw30, pw40, pw60, eLc, iT, eSlT, List.replicate]); (try dsimp only [sAsg, sIf, sRet, sRetN, sDrop, sNext, asg, setAll, eT, eOp, eUn, eLst, eTup, eCons, eNil, eVar, eC, eCall, eCB, eNot, eAnd, eOr, eTru, eAndT, eOrT, eNotT, eIf, ePart, eNoPart, eYes, eChain, eChain3, oI, oI0, oLt, oLe, oGt, oGe, oNeg, oSub, oMod, oMul, oDivW, eXp, eXa, eConsX, eCallX, eCallN, eLstX, eCBX, sDropX, sRetX, sAsgX, sRaise, sRaiseF, List.set_cons_zero, List.set_cons_succ, List.getElem?_cons_zero, List.getElem?_cons_succ, truD_bl, eLc, iT, eSlT, List.replicate])
    refine ⟨by decide, ?_⟩
    rw [cut4]
    simp only [compW, wipeD]
    (try dsimp only [sAsg, sIf, sRet, sRetN, sDrop, sNext, asg, setAll, eT, eOp, eUn, eLst, eTup, eCons, eNil, eVar, eC, eCall, eCB, eNot, eAnd, eOr, eTru, eAndT, eOrT, eNotT, eIf, ePart, eNoPart, eYes, eChain, eChain3, oI, oI0, oLt, oLe, oGt, oGe, oNeg, oSub, oMod, oMul, oDivW, eXp, eXa, eConsX, eCallX, eCallN, eLstX, eCBX, sDropX, sRetX, sAsgX, sRaise, sRaiseF, List.set_cons_zero, List.set_cons_succ, List.getElem?_cons_zero, List.getElem?_cons_succ, truD_bl]); (try simp only [if_true, Bool.false_eq_true, if_false, decide_true, decide_false, Bool.not_true, Bool.not_false, List.length_cons, List.length_nil, sizeLine_eq, Nat.reduceAdd, Nat.reduceLeDiff, true_and, and_true, pw6, pw10, pw11, pw12, pw13, pw30, pw40, pw60]); (try dsimp only [sAsg, sIf, sRet, sRetN, sDrop, sNext, asg, setAll, eT, eOp, eUn, eLst, eTup, eCons, eNil, eVar, eC, eCall, eCB, eNot, eAnd, eOr, eTru, eAndT, eOrT, eNotT, eIf, ePart, eNoPart, eYes, eChain, eChain3, oI, oI0, oLt, oLe, oGt, oGe, oNeg, oSub, oMod, oMul, oDivW, eXp, eXa, eConsX, eCallX, eCallN, eLstX, eCBX, sDropX, sRetX, sAsgX, sRaise, sRaiseF, List.set_cons_zero, List.set_cons_succ, List.getElem?_cons_zero, List.getElem?_cons_succ, truD_bl])
    refine whole_any (okT_any hb) (whole_any (okT_any he) (whole_any (okT_any hw) ?_))
    simp only [List.nil_append, List.cons_append, cAll, lkL_lst, Option.bind_some, blsD, Option.map_some, List.all_cons, List.all_nil, id]
    rw [wh_int, wh_int, wh_int]
    cases q1 : intOf b with
    | none => rw [q1] at k1; simp; exact fin_id (by simpa using k1)
    | some ib =>
      cases q2 : intOf e with
      | none => rw [q1, q2] at k1; simp; exact fin_id (by simpa using k1)
      | some ie =>
        cases q3 : intOf w with
        | none => rw [q1, q2, q3] at k1; simp; exact fin_id (by simpa using k1)
        | some iw =>
          rw [q1, q2, q3] at k1
          have := intOf_eq q1
          subst this
          have := intOf_eq q2
          subst this
          have := intOf_eq q3
          subst this
          (try dsimp only [sAsg, sIf, sRet, sRetN, sDrop, sNext, asg, setAll, eT, eOp, eUn, eLst, eTup, eCons, eNil, eVar, eC, eCall, eCB, eNot, eAnd, eOr, eTru, eAndT, eOrT, eNotT, eIf, ePart, eNoPart, eYes, eChain, eChain3, oI, oI0, oLt, oLe, oGt, oGe, oNeg, oSub, oMod, oMul, oDivW, eXp, eXa, eConsX, eCallX, eCallN, eLstX, eCBX, sDropX, sRetX, sAsgX, sRaise, sRaiseF, List.set_cons_zero, List.set_cons_succ, List.getElem?_cons_zero, List.getElem?_cons_succ, truD_bl, Option.isSome_some, Bool.and_self, Bool.not_true, Bool.and_true]); (try simp only [if_true, Bool.false_eq_true, if_false, decide_true, decide_false, Bool.not_true, Bool.not_false, List.length_cons, List.length_nil, sizeLine_eq, Nat.reduceAdd, Nat.reduceLeDiff, true_and, and_true, pw6, pw10, pw11, pw12, pw13, pw30, pw40, pw60, Option.isSome_some, Bool.and_self, Bool.not_true, Bool.and_true]); (try dsimp only [sAsg, sIf, sRet, sRetN, sDrop, sNext, asg, setAll, eT, eOp, eUn, eLst, eTup, eCons, eNil, eVar, eC, eCall, eCB, eNot, eAnd, eOr, eTru, eAndT, eOrT, eNotT, eIf, ePart, eNoPart, eYes, eChain, eChain3, oI, oI0, oLt, oLe, oGt, oGe, oNeg, oSub, oMod, oMul, oDivW, eXp, eXa, eConsX, eCallX, eCallN, eLstX, eCBX, sDropX, sRetX, sAsgX, sRaise, sRaiseF, List.set_cons_zero, List.set_cons_succ, List.getElem?_cons_zero, List.getElem?_cons_succ, truD_bl, Option.isSome_some, Bool.and_self, Bool.not_true, Bool.and_true])
          refine hW2 _ _ ?_
          simp only [Bool.true_and] at k1
          have i1 : atI [n, D.int ib, D.int ie, D.int iw] 1 = some (.int ib) := rfl
          have i2 : atI [n, D.int ib, D.int ie, D.int iw] 2 = some (.int ie) := rfl
          have i3 : atI [n, D.int ib, D.int ie, D.int iw] 3 = some (.int iw) := rfl
          (try dsimp only [sAsg, sIf, sRet, sRetN, sDrop, sNext, asg, setAll, eT, eOp, eUn, eLst, eTup, eCons, eNil, eVar, eC, eCall, eCB, eNot, eAnd, eOr, eTru, eAndT, eOrT, eNotT, eIf, ePart, eNoPart, eYes, eChain, eChain3, oI, oI0, oLt, oLe, oGt, oGe, oNeg, oSub, oMod, oMul, oDivW, eXp, eXa, eConsX, eCallX, eCallN, eLstX, eCBX, sDropX, sRetX, sAsgX, sRaise, sRaiseF, List.set_cons_zero, List.set_cons_succ, List.getElem?_cons_zero, List.getElem?_cons_succ, truD_bl]); (try simp only [if_true, Bool.false_eq_true, if_false, decide_true, decide_false, Bool.not_true, Bool.not_false, List.length_cons, List.length_nil, sizeLine_eq, Nat.reduceAdd, Nat.reduceLeDiff, true_and, and_true, pw6, pw10, pw11, pw12, pw13, pw30, pw40, pw60]); (try dsimp only [sAsg, sIf, sRet, sRetN, sDrop, sNext, asg, setAll, eT, eOp, eUn, eLst, eTup, eCons, eNil, eVar, eC, eCall, eCB, eNot, eAnd, eOr, eTru, eAndT, eOrT, eNotT, eIf, ePart, eNoPart, eYes, eChain, eChain3, oI, oI0, oLt, oLe, oGt, oGe, oNeg, oSub, oMod, oMul, oDivW, eXp, eXa, eConsX, eCallX, eCallN, eLstX, eCBX, sDropX, sRetX, sAsgX, sRaise, sRaiseF, List.set_cons_zero, List.set_cons_succ, List.getElem?_cons_zero, List.getElem?_cons_succ, truD_bl])
          refine ixt_0 i1 ?_
          (try dsimp only [sAsg, sIf, sRet, sRetN, sDrop, sNext, asg, setAll, eT, eOp, eUn, eLst, eTup, eCons, eNil, eVar, eC, eCall, eCB, eNot, eAnd, eOr, eTru, eAndT, eOrT, eNotT, eIf, ePart, eNoPart, eYes, eChain, eChain3, oI, oI0, oLt, oLe, oGt, oGe, oNeg, oSub, oMod, oMul, oDivW, eXp, eXa, eConsX, eCallX, eCallN, eLstX, eCBX, sDropX, sRetX, sAsgX, sRaise, sRaiseF, List.set_cons_zero, List.set_cons_succ, List.getElem?_cons_zero, List.getElem?_cons_succ, truD_bl]); (try simp only [if_true, Bool.false_eq_true, if_false, decide_true, decide_false, Bool.not_true, Bool.not_false, List.length_cons, List.length_nil, sizeLine_eq, Nat.reduceAdd, Nat.reduceLeDiff, true_and, and_true, pw6, pw10, pw11, pw12, pw13, pw30, pw40, pw60]); (try dsimp only [sAsg, sIf, sRet, sRetN, sDrop, sNext, asg, setAll, eT, eOp, eUn, eLst, eTup, eCons, eNil, eVar, eC, eCall, eCB, eNot, eAnd, eOr, eTru, eAndT, eOrT, eNotT, eIf, ePart, eNoPart, eYes, eChain, eChain3, oI, oI0, oLt, oLe, oGt, oGe, oNeg, oSub, oMod, oMul, oDivW, eXp, eXa, eConsX, eCallX, eCallN, eLstX, eCBX, sDropX, sRetX, sAsgX, sRaise, sRaiseF, List.set_cons_zero, List.set_cons_succ, List.getElem?_cons_zero, List.getElem?_cons_succ, truD_bl])
          by_cases c1 : (0 : Int) ≤ ib
          · rw [decide_eq_true c1]
            (try dsimp only [sAsg, sIf, sRet, sRetN, sDrop, sNext, asg, setAll, eT, eOp, eUn, eLst, eTup, eCons, eNil, eVar, eC, eCall, eCB, eNot, eAnd, eOr, eTru, eAndT, eOrT, eNotT, eIf, ePart, eNoPart, eYes, eChain, eChain3, oI, oI0, oLt, oLe, oGt, oGe, oNeg, oSub, oMod, oMul, oDivW, eXp, eXa, eConsX, eCallX, eCallN, eLstX, eCBX, sDropX, sRetX, sAsgX, sRaise, sRaiseF, List.set_cons_zero, List.set_cons_succ, List.getElem?_cons_zero, List.getElem?_cons_succ, truD_bl]); (try simp only [if_true, Bool.false_eq_true, if_false, decide_true, decide_false, Bool.not_true, Bool.not_false, List.length_cons, List.length_nil, sizeLine_eq, Nat.reduceAdd, Nat.reduceLeDiff, true_and, and_true, pw6, pw10, pw11, pw12, pw13, pw30, pw40, pw60]); (try dsimp only [sAsg, sIf, sRet, sRetN, sDrop, sNext, asg, setAll, eT, eOp, eUn, eLst, eTup, eCons, eNil, eVar, eC, eCall, eCB, eNot, eAnd, eOr, eTru, eAndT, eOrT, eNotT, eIf, ePart, eNoPart, eYes, eChain, eChain3, oI, oI0, oLt, oLe, oGt, oGe, oNeg, oSub, oMod, oMul, oDivW, eXp, eXa, eConsX, eCallX, eCallN, eLstX, eCBX, sDropX, sRetX, sAsgX, sRaise, sRaiseF, List.set_cons_zero, List.set_cons_succ, List.getElem?_cons_zero, List.getElem?_cons_succ, truD_bl])
            by_cases c2 : ib < k
            · rw [decide_eq_true c2]
              (try dsimp only [sAsg, sIf, sRet, sRetN, sDrop, sNext, asg, setAll, eT, eOp, eUn, eLst, eTup, eCons, eNil, eVar, eC, eCall, eCB, eNot, eAnd, eOr, eTru, eAndT, eOrT, eNotT, eIf, ePart, eNoPart, eYes, eChain, eChain3, oI, oI0, oLt, oLe, oGt, oGe, oNeg, oSub, oMod, oMul, oDivW, eXp, eXa, eConsX, eCallX, eCallN, eLstX, eCBX, sDropX, sRetX, sAsgX, sRaise, sRaiseF, List.set_cons_zero, List.set_cons_succ, List.getElem?_cons_zero, List.getElem?_cons_succ, truD_bl]); (try simp only [if_true, Bool.false_eq_true, if_false, decide_true, decide_false, Bool.not_true, Bool.not_false, List.length_cons, List.length_nil, sizeLine_eq, Nat.reduceAdd, Nat.reduceLeDiff, true_and, and_true, pw6, pw10, pw11, pw12, pw13, pw30, pw40, pw60]); (try dsimp only [sAsg, sIf, sRet, sRetN, sDrop, sNext, asg, setAll, eT, eOp, eUn, eLst, eTup, eCons, eNil, eVar, eC, eCall, eCB, eNot, eAnd, eOr, eTru, eAndT, eOrT, eNotT, eIf, ePart, eNoPart, eYes, eChain, eChain3, oI, oI0, oLt, oLe, oGt, oGe, oNeg, oSub, oMod, oMul, oDivW, eXp, eXa, eConsX, eCallX, eCallN, eLstX, eCBX, sDropX, sRetX, sAsgX, sRaise, sRaiseF, List.set_cons_zero, List.set_cons_succ, List.getElem?_cons_zero, List.getElem?_cons_succ, truD_bl])
              refine ixt_0 i2 ?_
              (try dsimp only [sAsg, sIf, sRet, sRetN, sDrop, sNext, asg, setAll, eT, eOp, eUn, eLst, eTup, eCons, eNil, eVar, eC, eCall, eCB, eNot, eAnd, eOr, eTru, eAndT, eOrT, eNotT, eIf, ePart, eNoPart, eYes, eChain, eChain3, oI, oI0, oLt, oLe, oGt, oGe, oNeg, oSub, oMod, oMul, oDivW, eXp, eXa, eConsX, eCallX, eCallN, eLstX, eCBX, sDropX, sRetX, sAsgX, sRaise, sRaiseF, List.set_cons_zero, List.set_cons_succ, List.getElem?_cons_zero, List.getElem?_cons_succ, truD_bl]); (try simp only [if_true, Bool.false_eq_true, if_false, decide_true, decide_false, Bool.not_true, Bool.not_false, List.length_cons, List.length_nil, sizeLine_eq, Nat.reduceAdd, Nat.reduceLeDiff, true_and, and_true, pw6, pw10, pw11, pw12, pw13, pw30, pw40, pw60]); (try dsimp only [sAsg, sIf, sRet, sRetN, sDrop, sNext, asg, setAll, eT, eOp, eUn, eLst, eTup, eCons, eNil, eVar, eC, eCall, eCB, eNot, eAnd, eOr, eTru, eAndT, eOrT, eNotT, eIf, ePart, eNoPart, eYes, eChain, eChain3, oI, oI0, oLt, oLe, oGt, oGe, oNeg, oSub, oMod, oMul, oDivW, eXp, eXa, eConsX, eCallX, eCallN, eLstX, eCBX, sDropX, sRetX, sAsgX, sRaise, sRaiseF, List.set_cons_zero, List.set_cons_succ, List.getElem?_cons_zero, List.getElem?_cons_succ, truD_bl])
              by_cases c3 : (1 : Int) ≤ ie
              · rw [decide_eq_true c3]
                (try dsimp only [sAsg, sIf, sRet, sRetN, sDrop, sNext, asg, setAll, eT, eOp, eUn, eLst, eTup, eCons, eNil, eVar, eC, eCall, eCB, eNot, eAnd, eOr, eTru, eAndT, eOrT, eNotT, eIf, ePart, eNoPart, eYes, eChain, eChain3, oI, oI0, oLt, oLe, oGt, oGe, oNeg, oSub, oMod, oMul, oDivW, eXp, eXa, eConsX, eCallX, eCallN, eLstX, eCBX, sDropX, sRetX, sAsgX, sRaise, sRaiseF, List.set_cons_zero, List.set_cons_succ, List.getElem?_cons_zero, List.getElem?_cons_succ, truD_bl]); (try simp only [if_true, Bool.false_eq_true, if_false, decide_true, decide_false, Bool.not_true, Bool.not_false, List.length_cons, List.length_nil, sizeLine_eq, Nat.reduceAdd, Nat.reduceLeDiff, true_and, and_true, pw6, pw10, pw11, pw12, pw13, pw30, pw40, pw60]); (try dsimp only [sAsg, sIf, sRet, sRetN, sDrop, sNext, asg, setAll, eT, eOp, eUn, eLst, eTup, eCons, eNil, eVar, eC, eCall, eCB, eNot, eAnd, eOr, eTru, eAndT, eOrT, eNotT, eIf, ePart, eNoPart, eYes, eChain, eChain3, oI, oI0, oLt, oLe, oGt, oGe, oNeg, oSub, oMod, oMul, oDivW, eXp, eXa, eConsX, eCallX, eCallN, eLstX, eCBX, sDropX, sRetX, sAsgX, sRaise, sRaiseF, List.set_cons_zero, List.set_cons_succ, List.getElem?_cons_zero, List.getElem?_cons_succ, truD_bl])
                by_cases c4 : ie ≤ k
                · rw [decide_eq_true c4]
                  (try dsimp only [sAsg, sIf, sRet, sRetN, sDrop, sNext, asg, setAll, eT, eOp, eUn, eLst, eTup, eCons, eNil, eVar, eC, eCall, eCB, eNot, eAnd, eOr, eTru, eAndT, eOrT, eNotT, eIf, ePart, eNoPart, eYes, eChain, eChain3, oI, oI0, oLt, oLe, oGt, oGe, oNeg, oSub, oMod, oMul, oDivW, eXp, eXa, eConsX, eCallX, eCallN, eLstX, eCBX, sDropX, sRetX, sAsgX, sRaise, sRaiseF, List.set_cons_zero, List.set_cons_succ, List.getElem?_cons_zero, List.getElem?_cons_succ, truD_bl]); (try simp only [if_true, Bool.false_eq_true, if_false, decide_true, decide_false, Bool.not_true, Bool.not_false, List.length_cons, List.length_nil, sizeLine_eq, Nat.reduceAdd, Nat.reduceLeDiff, true_and, and_true, pw6, pw10, pw11, pw12, pw13, pw30, pw40, pw60]); (try dsimp only [sAsg, sIf, sRet, sRetN, sDrop, sNext, asg, setAll, eT, eOp, eUn, eLst, eTup, eCons, eNil, eVar, eC, eCall, eCB, eNot, eAnd, eOr, eTru, eAndT, eOrT, eNotT, eIf, ePart, eNoPart, eYes, eChain, eChain3, oI, oI0, oLt, oLe, oGt, oGe, oNeg, oSub, oMod, oMul, oDivW, eXp, eXa, eConsX, eCallX, eCallN, eLstX, eCBX, sDropX, sRetX, sAsgX, sRaise, sRaiseF, List.set_cons_zero, List.set_cons_succ, List.getElem?_cons_zero, List.getElem?_cons_succ, truD_bl])
                  refine ixt_0 i3 ?_
                  (try dsimp only [sAsg, sIf, sRet, sRetN, sDrop, sNext, asg, setAll, eT, eOp, eUn, eLst, eTup, eCons, eNil, eVar, eC, eCall, eCB, eNot, eAnd, eOr, eTru, eAndT, eOrT, eNotT, eIf, ePart, eNoPart, eYes, eChain, eChain3, oI, oI0, oLt, oLe, oGt, oGe, oNeg, oSub, oMod, oMul, oDivW, eXp, eXa, eConsX, eCallX, eCallN, eLstX, eCBX, sDropX, sRetX, sAsgX, sRaise, sRaiseF, List.set_cons_zero, List.set_cons_succ, List.getElem?_cons_zero, List.getElem?_cons_succ, truD_bl]); (try simp only [if_true, Bool.false_eq_true, if_false, decide_true, decide_false, Bool.not_true, Bool.not_false, List.length_cons, List.length_nil, sizeLine_eq, Nat.reduceAdd, Nat.reduceLeDiff, true_and, and_true, pw6, pw10, pw11, pw12, pw13, pw30, pw40, pw60]); (try dsimp only [sAsg, sIf, sRet, sRetN, sDrop, sNext, asg, setAll, eT, eOp, eUn, eLst, eTup, eCons, eNil, eVar, eC, eCall, eCB, eNot, eAnd, eOr, eTru, eAndT, eOrT, eNotT, eIf, ePart, eNoPart, eYes, eChain, eChain3, oI, oI0, oLt, oLe, oGt, oGe, oNeg, oSub, oMod, oMul, oDivW, eXp, eXa, eConsX, eCallX, eCallN, eLstX, eCBX, sDropX, sRetX, sAsgX, sRaise, sRaiseF, List.set_cons_zero, List.set_cons_succ, List.getElem?_cons_zero, List.getElem?_cons_succ, truD_bl])
                  by_cases c5 : (0 : Int) ≤ iw
                  · rw [decide_eq_true c5]
                    (try dsimp only [sAsg, sIf, sRet, sRetN, sDrop, sNext, asg, setAll, eT, eOp, eUn, eLst, eTup, eCons, eNil, eVar, eC, eCall, eCB, eNot, eAnd, eOr, eTru, eAndT, eOrT, eNotT, eIf, ePart, eNoPart, eYes, eChain, eChain3, oI, oI0, oLt, oLe, oGt, oGe, oNeg, oSub, oMod, oMul, oDivW, eXp, eXa, eConsX, eCallX, eCallN, eLstX, eCBX, sDropX, sRetX, sAsgX, sRaise, sRaiseF, List.set_cons_zero, List.set_cons_succ, List.getElem?_cons_zero, List.getElem?_cons_succ, truD_bl]); (try simp only [if_true, Bool.false_eq_true, if_false, decide_true, decide_false, Bool.not_true, Bool.not_false, List.length_cons, List.length_nil, sizeLine_eq, Nat.reduceAdd, Nat.reduceLeDiff, true_and, and_true, pw6, pw10, pw11, pw12, pw13, pw30, pw40, pw60]); (try dsimp only [sAsg, sIf, sRet, sRetN, sDrop, sNext, asg, setAll, eT, eOp, eUn, eLst, eTup, eCons, eNil, eVar, eC, eCall, eCB, eNot, eAnd, eOr, eTru, eAndT, eOrT, eNotT, eIf, ePart, eNoPart, eYes, eChain, eChain3, oI, oI0, oLt, oLe, oGt, oGe, oNeg, oSub, oMod, oMul, oDivW, eXp, eXa, eConsX, eCallX, eCallN, eLstX, eCBX, sDropX, sRetX, sAsgX, sRaise, sRaiseF, List.set_cons_zero, List.set_cons_succ, List.getElem?_cons_zero, List.getElem?_cons_succ, truD_bl])
                    have : decide (0 ≤ ib ∧ ib < k ∧ 1 ≤ ie ∧ ie ≤ k ∧ 0 ≤ iw ∧ iw ≤ 1000000000000) = decide (iw ≤ 1000000000000) := by
                      rw [Bool.eq_iff_iff]
                      simp
                      omega
                    rw [this] at k1
                    exact fin_id k1
                  · rw [decide_eq_false c5]
                    (try dsimp only [sAsg, sIf, sRet, sRetN, sDrop, sNext, asg, setAll, eT, eOp, eUn, eLst, eTup, eCons, eNil, eVar, eC, eCall, eCB, eNot, eAnd, eOr, eTru, eAndT, eOrT, eNotT, eIf, ePart, eNoPart, eYes, eChain, eChain3, oI, oI0, oLt, oLe, oGt, oGe, oNeg, oSub, oMod, oMul, oDivW, eXp, eXa, eConsX, eCallX, eCallN, eLstX, eCBX, sDropX, sRetX, sAsgX, sRaise, sRaiseF, List.set_cons_zero, List.set_cons_succ, List.getElem?_cons_zero, List.getElem?_cons_succ, truD_bl]); (try simp only [if_true, Bool.false_eq_true, if_false, decide_true, decide_false, Bool.not_true, Bool.not_false, List.length_cons, List.length_nil, sizeLine_eq, Nat.reduceAdd, Nat.reduceLeDiff, true_and, and_true, pw6, pw10, pw11, pw12, pw13, pw30, pw40, pw60]); (try dsimp only [sAsg, sIf, sRet, sRetN, sDrop, sNext, asg, setAll, eT, eOp, eUn, eLst, eTup, eCons, eNil, eVar, eC, eCall, eCB, eNot, eAnd, eOr, eTru, eAndT, eOrT, eNotT, eIf, ePart, eNoPart, eYes, eChain, eChain3, oI, oI0, oLt, oLe, oGt, oGe, oNeg, oSub, oMod, oMul, oDivW, eXp, eXa, eConsX, eCallX, eCallN, eLstX, eCBX, sDropX, sRetX, sAsgX, sRaise, sRaiseF, List.set_cons_zero, List.set_cons_succ, List.getElem?_cons_zero, List.getElem?_cons_succ, truD_bl])
                    rw [decide_eq_false (by omega)] at k1
                    exact fin_id k1
                · rw [decide_eq_false c4]
                  (try dsimp only [sAsg, sIf, sRet, sRetN, sDrop, sNext, asg, setAll, eT, eOp, eUn, eLst, eTup, eCons, eNil, eVar, eC, eCall, eCB, eNot, eAnd, eOr, eTru, eAndT, eOrT, eNotT, eIf, ePart, eNoPart, eYes, eChain, eChain3, oI, oI0, oLt, oLe, oGt, oGe, oNeg, oSub, oMod, oMul, oDivW, eXp, eXa, eConsX, eCallX, eCallN, eLstX, eCBX, sDropX, sRetX, sAsgX, sRaise, sRaiseF, List.set_cons_zero, List.set_cons_succ, List.getElem?_cons_zero, List.getElem?_cons_succ, truD_bl]); (try simp only [if_true, Bool.false_eq_true, if_false, decide_true, decide_false, Bool.not_true, Bool.not_false, List.length_cons, List.length_nil, sizeLine_eq, Nat.reduceAdd, Nat.reduceLeDiff, true_and, and_true, pw6, pw10, pw11, pw12, pw13, pw30, pw40, pw60]); (try dsimp only [sAsg, sIf, sRet, sRetN, sDrop, sNext, asg, setAll, eT, eOp, eUn, eLst, eTup, eCons, eNil, eVar, eC, eCall, eCB, eNot, eAnd, eOr, eTru, eAndT, eOrT, eNotT, eIf, ePart, eNoPart, eYes, eChain, eChain3, oI, oI0, oLt, oLe, oGt, oGe, oNeg, oSub, oMod, oMul, oDivW, eXp, eXa, eConsX, eCallX, eCallN, eLstX, eCBX, sDropX, sRetX, sAsgX, sRaise, sRaiseF, List.set_cons_zero, List.set_cons_succ, List.getElem?_cons_zero, List.getElem?_cons_succ, truD_bl])
                  rw [decide_eq_false (by omega)] at k1
                  exact fin_id k1
              · rw [decide_eq_false c3]
                (try dsimp only [sAsg, sIf, sRet, sRetN, sDrop, sNext, asg, setAll, eT, eOp, eUn, eLst, eTup, eCons, eNil, eVar, eC, eCall, eCB, eNot, eAnd, eOr, eTru, eAndT, eOrT, eNotT, eIf, ePart, eNoPart, eYes, eChain, eChain3, oI, oI0, oLt, oLe, oGt, oGe, oNeg, oSub, oMod, oMul, oDivW, eXp, eXa, eConsX, eCallX, eCallN, eLstX, eCBX, sDropX, sRetX, sAsgX, sRaise, sRaiseF, List.set_cons_zero, List.set_cons_succ, List.getElem?_cons_zero, List.getElem?_cons_succ, truD_bl]); (try simp only [if_true, Bool.false_eq_true, if_false, decide_true, decide_false, Bool.not_true, Bool.not_false, List.length_cons, List.length_nil, sizeLine_eq, Nat.reduceAdd, Nat.reduceLeDiff, true_and, and_true, pw6, pw10, pw11, pw12, pw13, pw30, pw40, pw60]); (try dsimp only [sAsg, sIf, sRet, sRetN, sDrop, sNext, asg, setAll, eT, eOp, eUn, eLst, eTup, eCons, eNil, eVar, eC, eCall, eCB, eNot, eAnd, eOr, eTru, eAndT, eOrT, eNotT, eIf, ePart, eNoPart, eYes, eChain, eChain3, oI, oI0, oLt, oLe, oGt, oGe, oNeg, oSub, oMod, oMul, oDivW, eXp, eXa, eConsX, eCallX, eCallN, eLstX, eCBX, sDropX, sRetX, sAsgX, sRaise, sRaiseF, List.set_cons_zero, List.set_cons_succ, List.getElem?_cons_zero, List.getElem?_cons_succ, truD_bl])
                rw [decide_eq_false (by omega)] at k1
                exact fin_id k1
            · rw [decide_eq_false c2]
              (try dsimp only [sAsg, sIf, sRet, sRetN, sDrop, sNext, asg, setAll, eT, eOp, eUn, eLst, eTup, eCons, eNil, eVar, eC, eCall, eCB, eNot, eAnd, eOr, eTru, eAndT, eOrT, eNotT, eIf, ePart, eNoPart, eYes, eChain, eChain3, oI, oI0, oLt, oLe, oGt, oGe, oNeg, oSub, oMod, oMul, oDivW, eXp, eXa, eConsX, eCallX, eCallN, eLstX, eCBX, sDropX, sRetX, sAsgX, sRaise, sRaiseF, List.set_cons_zero, List.set_cons_succ, List.getElem?_cons_zero, List.getElem?_cons_succ, truD_bl]); (try simp only [if_true, Bool.false_eq_true, if_false, decide_true, decide_false, Bool.not_true, Bool.not_false, List.length_cons, List.length_nil, sizeLine_eq, Nat.reduceAdd, Nat.reduceLeDiff, true_and, and_true, pw6, pw10, pw11, pw12, pw13, pw30, pw40, pw60]); (try dsimp only [sAsg, sIf, sRet, sRetN, sDrop, sNext, asg, setAll, eT, eOp, eUn, eLst, eTup, eCons, eNil, eVar, eC, eCall, eCB, eNot, eAnd, eOr, eTru, eAndT, eOrT, eNotT, eIf, ePart, eNoPart, eYes, eChain, eChain3, oI, oI0, oLt, oLe, oGt, oGe, oNeg, oSub, oMod, oMul, oDivW, eXp, eXa, eConsX, eCallX, eCallN, eLstX, eCBX, sDropX, sRetX, sAsgX, sRaise, sRaiseF, List.set_cons_zero, List.set_cons_succ, List.getElem?_cons_zero, List.getElem?_cons_succ, truD_bl])
              rw [decide_eq_false (by omega)] at k1
              exact fin_id k1
          · rw [decide_eq_false c1]
            (try dsimp only [sAsg, sIf, sRet, sRetN, sDrop, sNext, asg, setAll, eT, eOp, eUn, eLst, eTup, eCons, eNil, eVar, eC, eCall, eCB, eNot, eAnd, eOr, eTru, eAndT, eOrT, eNotT, eIf, ePart, eNoPart, eYes, eChain, eChain3, oI, oI0, oLt, oLe, oGt, oGe, oNeg, oSub, oMod, oMul, oDivW, eXp, eXa, eConsX, eCallX, eCallN, eLstX, eCBX, sDropX, sRetX, sAsgX, sRaise, sRaiseF, List.set_cons_zero, List.set_cons_succ, List.getElem?_cons_zero, List.getElem?_cons_succ, truD_bl]); (try simp only [if_true, Bool.false_eq_true, if_false, decide_true, decide_false, Bool.not_true, Bool.not_false, List.length_cons, List.length_nil, sizeLine_eq, Nat.reduceAdd, Nat.reduceLeDiff, true_and, and_true, pw6, pw10, pw11, pw12, pw13, pw30, pw40, pw60]); (try dsimp only [sAsg, sIf, sRet, sRetN, sDrop, sNext, asg, setAll, eT, eOp, eUn, eLst, eTup, eCons, eNil, eVar, eC, eCall, eCB, eNot, eAnd, eOr, eTru, eAndT, eOrT, eNotT, eIf, ePart, eNoPart, eYes, eChain, eChain3, oI, oI0, oLt, oLe, oGt, oGe, oNeg, oSub, oMod, oMul, oDivW, eXp, eXa, eConsX, eCallX, eCallN, eLstX, eCBX, sDropX, sRetX, sAsgX, sRaise, sRaiseF, List.set_cons_zero, List.set_cons_succ, List.getElem?_cons_zero, List.getElem?_cons_succ, truD_bl])
            rw [decide_eq_false (by omega)] at k1
            exact fin_id k1
theorem d_is_ring_stretch (ds : List D) (G : Gp) (Q : DK) (h : F_is_ring_stretch ds G Q) : r_is_ring_stretch (fin G Q) (startD 3 ds) G := by
  obtain ⟨n, d, rfl, ha, k⟩ := h
  cases d with
  | tup es =>
    by_cases l4 : es.length = 4
    · match es, l4 with
      | [nm, b, e, w], _ =>
        have hm := okT_tup.mp ha
        exact ring_4 (hm nm (by simp)) (hm b (by simp)) (hm e (by simp)) (hm w (by simp)) k
    · rw [rsB_len l4] at k
      refine seq_gen fun W hW => ?_
      (try dsimp only [sAsg, sIf, sRet, sRetN, sDrop, sNext, asg, setAll, eT, eOp, eUn, eLst, eTup, eCons, eNil, eVar, eC, eCall, eCB, eNot, eAnd, eOr, eTru, eAndT, eOrT, eNotT, eIf, ePart, eNoPart, eYes, eChain, eChain3, oI, oI0, oLt, oLe, oGt, oGe, oNeg, oSub, oMod, oMul, oDivW, eXp, eXa, eConsX, eCallX, eCallN, eLstX, eCBX, sDropX, sRetX, sAsgX, sRaise, sRaiseF, List.set_cons_zero, List.set_cons_succ, List.getElem?_cons_zero, List.getElem?_cons_succ, truD_bl, startD, List.map_cons, List.map_nil, List.length_cons, List.length_nil, List.cons_append, List.nil_append]); (try simp only [if_true, Bool.false_eq_true, if_false, decide_true, decide_false, Bool.not_true, Bool.not_false, List.length_cons, List.length_nil, sizeLine_eq, Nat.reduceAdd, Nat.reduceLeDiff, true_and, and_true, pw6, pw10, pw11, pw12, pw13, pw30, pw40, pw60, startD, List.map_cons, List.map_nil, List.length_cons, List.length_nil, List.cons_append, List.nil_append]); (try dsimp only [sAsg, sIf, sRet, sRetN, sDrop, sNext, asg, setAll, eT, eOp, eUn, eLst, eTup, eCons, eNil, eVar, eC, eCall, eCB, eNot, eAnd, eOr, eTru, eAndT, eOrT, eNotT, eIf, ePart, eNoPart, eYes, eChain, eChain3, oI, oI0, oLt, oLe, oGt, oGe, oNeg, oSub, oMod, oMul, oDivW, eXp, eXa, eConsX, eCallX, eCallN, eLstX, eCBX, sDropX, sRetX, sAsgX, sRaise, sRaiseF, List.set_cons_zero, List.set_cons_succ, List.getElem?_cons_zero, List.getElem?_cons_succ, truD_bl, startD, List.map_cons, List.map_nil, List.length_cons, List.length_nil, List.cons_append, List.nil_append])
      rw [isi_tuple (okT_any ha)]
      (try dsimp only [sAsg, sIf, sRet, sRetN, sDrop, sNext, asg, setAll, eT, eOp, eUn, eLst, eTup, eCons, eNil, eVar, eC, eCall, eCB, eNot, eAnd, eOr, eTru, eAndT, eOrT, eNotT, eIf, ePart, eNoPart, eYes, eChain, eChain3, oI, oI0, oLt, oLe, oGt, oGe, oNeg, oSub, oMod, oMul, oDivW, eXp, eXa, eConsX, eCallX, eCallN, eLstX, eCBX, sDropX, sRetX, sAsgX, sRaise, sRaiseF, List.set_cons_zero, List.set_cons_succ, List.getElem?_cons_zero, List.getElem?_cons_succ, truD_bl, isT]); (try simp only [if_true, Bool.false_eq_true, if_false, decide_true, decide_false, Bool.not_true, Bool.not_false, List.length_cons, List.length_nil, sizeLine_eq, Nat.reduceAdd, Nat.reduceLeDiff, true_and, and_true, pw6, pw10, pw11, pw12, pw13, pw30, pw40, pw60, isT]); (try dsimp only [sAsg, sIf, sRet, sRetN, sDrop, sNext, asg, setAll, eT, eOp, eUn, eLst, eTup, eCons, eNil, eVar, eC, eCall, eCB, eNot, eAnd, eOr, eTru, eAndT, eOrT, eNotT, eIf, ePart, eNoPart, eYes, eChain, eChain3, oI, oI0, oLt, oLe, oGt, oGe, oNeg, oSub, oMod, oMul, oDivW, eXp, eXa, eConsX, eCallX, eCallN, eLstX, eCBX, sDropX, sRetX, sAsgX, sRaise, sRaiseF, List.set_cons_zero, List.set_cons_succ, List.getElem?_cons_zero, List.getElem?_cons_succ, truD_bl, isT])
      refine len_tup (ne_ii ?_)
      rw [decide_eq_false (by omega)]
      (try dsimp only [sAsg, sIf, sRet, sRetN, sDrop, sNext, asg, setAll, eT, eOp, eUn, eLst, eTup, eCons, eNil, eVar, eC, eCall, eCB, eNot, eAnd, eOr, eTru, eAndT, eOrT, eNotT, eIf, ePart, eNoPart, eYes, eChain, eChain3, oI, oI0, oLt, oLe, oGt, oGe, oNeg, oSub, oMod, oMul, oDivW, eXp, eXa, eConsX, eCallX, eCallN, eLstX, eCBX, sDropX, sRetX, sAsgX, sRaise, sRaiseF, List.set_cons_zero, List.set_cons_succ, List.getElem?_cons_zero, List.getElem?_cons_succ, truD_bl]); (try simp only [if_true, Bool.false_eq_true, if_false, decide_true, decide_false, Bool.not_true, Bool.not_false, List.length_cons, List.length_nil, sizeLine_eq, Nat.reduceAdd, Nat.reduceLeDiff, true_and, and_true, pw6, pw10, pw11, pw12, pw13, pw30, pw40, pw60]); (try dsimp only [sAsg, sIf, sRet, sRetN, sDrop, sNext, asg, setAll, eT, eOp, eUn, eLst, eTup, eCons, eNil, eVar, eC, eCall, eCB, eNot, eAnd, eOr, eTru, eAndT, eOrT, eNotT, eIf, ePart, eNoPart, eYes, eChain, eChain3, oI, oI0, oLt, oLe, oGt, oGe, oNeg, oSub, oMod, oMul, oDivW, eXp, eXa, eConsX, eCallX, eCallN, eLstX, eCBX, sDropX, sRetX, sAsgX, sRaise, sRaiseF, List.set_cons_zero, List.set_cons_succ, List.getElem?_cons_zero, List.getElem?_cons_succ, truD_bl])
      exact fin_id k
  | _ =>
    refine seq_gen fun W hW => ?_
    (try dsimp only [sAsg, sIf, sRet, sRetN, sDrop, sNext, asg, setAll, eT, eOp, eUn, eLst, eTup, eCons, eNil, eVar, eC, eCall, eCB, eNot, eAnd, eOr, eTru, eAndT, eOrT, eNotT, eIf, ePart, eNoPart, eYes, eChain, eChain3, oI, oI0, oLt, oLe, oGt, oGe, oNeg, oSub, oMod, oMul, oDivW, eXp, eXa, eConsX, eCallX, eCallN, eLstX, eCBX, sDropX, sRetX, sAsgX, sRaise, sRaiseF, List.set_cons_zero, List.set_cons_succ, List.getElem?_cons_zero, List.getElem?_cons_succ, truD_bl, startD, List.map_cons, List.map_nil, List.length_cons, List.length_nil, List.cons_append, List.nil_append]); (try simp only [if_true, Bool.false_eq_true, if_false, decide_true, decide_false, Bool.not_true, Bool.not_false, List.length_cons, List.length_nil, sizeLine_eq, Nat.reduceAdd, Nat.reduceLeDiff, true_and, and_true, pw6, pw10, pw11, pw12, pw13, pw30, pw40, pw60, startD, List.map_cons, List.map_nil, List.length_cons, List.length_nil, List.cons_append, List.nil_append]); (try dsimp only [sAsg, sIf, sRet, sRetN, sDrop, sNext, asg, setAll, eT, eOp, eUn, eLst, eTup, eCons, eNil, eVar, eC, eCall, eCB, eNot, eAnd, eOr, eTru, eAndT, eOrT, eNotT, eIf, ePart, eNoPart, eYes, eChain, eChain3, oI, oI0, oLt, oLe, oGt, oGe, oNeg, oSub, oMod, oMul, oDivW, eXp, eXa, eConsX, eCallX, eCallN, eLstX, eCBX, sDropX, sRetX, sAsgX, sRaise, sRaiseF, List.set_cons_zero, List.set_cons_succ, List.getElem?_cons_zero, List.getElem?_cons_succ, truD_bl, startD, List.map_cons, List.map_nil, List.length_cons, List.length_nil, List.cons_append, List.nil_append])
    rw [isi_tuple (okT_any ha)]
    (try dsimp only [sAsg, sIf, sRet, sRetN, sDrop, sNext, asg, setAll, eT, eOp, eUn, eLst, eTup, eCons, eNil, eVar, eC, eCall, eCB, eNot, eAnd, eOr, eTru, eAndT, eOrT, eNotT, eIf, ePart, eNoPart, eYes, eChain, eChain3, oI, oI0, oLt, oLe, oGt, oGe, oNeg, oSub, oMod, oMul, oDivW, eXp, eXa, eConsX, eCallX, eCallN, eLstX, eCBX, sDropX, sRetX, sAsgX, sRaise, sRaiseF, List.set_cons_zero, List.set_cons_succ, List.getElem?_cons_zero, List.getElem?_cons_succ, truD_bl, isT]); (try simp only [if_true, Bool.false_eq_true, if_false, decide_true, decide_false, Bool.not_true, Bool.not_false, List.length_cons, List.length_nil, sizeLine_eq, Nat.reduceAdd, Nat.reduceLeDiff, true_and, and_true, pw6, pw10, pw11, pw12, pw13, pw30, pw40, pw60, isT]); (try dsimp only [sAsg, sIf, sRet, sRetN, sDrop, sNext, asg, setAll, eT, eOp, eUn, eLst, eTup, eCons, eNil, eVar, eC, eCall, eCB, eNot, eAnd, eOr, eTru, eAndT, eOrT, eNotT, eIf, ePart, eNoPart, eYes, eChain, eChain3, oI, oI0, oLt, oLe, oGt, oGe, oNeg, oSub, oMod, oMul, oDivW, eXp, eXa, eConsX, eCallX, eCallN, eLstX, eCBX, sDropX, sRetX, sAsgX, sRaise, sRaiseF, List.set_cons_zero, List.set_cons_succ, List.getElem?_cons_zero, List.getElem?_cons_succ, truD_bl, isT])
    exact fin_id k
theorem eq_self5 {x y : D} {u : PyData} {n : Nat} {G : Gp} {Q : DK} (sh : Shp n u) (e1 : toPy G x = some u) (e2 : toPy G y = some u) (q : Q (.bl true) G) (hn : n ≤ 64 := by decide) : oEq x y G Q := by
  simp only [oEq, e1, e2, sh.shaped hn, eqv_self sh, true_and]
  exact q
theorem eq_bb5 {b : Bool} {G : Gp} {Q : DK} (q : Q (.bl true) G) : oEq (.bl b) (.bl b) G Q := eq_self5 (n := 0) (shp_bool b) (by simp) (by simp) q
theorem in_strsR {m : Str} {l : List Str} {q : Addr} {G : Gp} {Q : DK} (h : G q = some (.lst (l.map D.str))) (k : Q (.bl (decide (m ∈ l))) G) : oIn false (.str m) (.ref q) G Q := by
  simp only [oIn, flD, lkQ, lkL, h, Option.bind_some, flDs_strs, inV_strs, Bool.false_eq_true, if_false]
  exact k
theorem d_look_at_ring (ds : List D) (G : Gp) (Q : DK) (U : Ux) (h : F_look_at_ring ds G Q U) : r_look_at_ring (finX G Q U) (startD 6 ds) G := by
  obtain ⟨d, rfl, ha, k, u⟩ := h
  refine seq_gen fun W hW => ?_
  (try dsimp only [sAsg, sIf, sRet, sRetN, sDrop, sNext, asg, setAll, eT, eOp, eUn, eLst, eTup, eCons, eNil, eVar, eC, eCall, eCB, eNot, eAnd, eOr, eTru, eAndT, eOrT, eNotT, eIf, ePart, eNoPart, eYes, eChain, eChain3, oI, oI0, oLt, oLe, oGt, oGe, oNeg, oSub, oMod, oMul, oDivW, eXp, eXa, eConsX, eCallX, eCallN, eLstX, eCBX, sDropX, sRetX, sAsgX, sRaise, sRaiseF, List.set_cons_zero, List.set_cons_succ, List.getElem?_cons_zero, List.getElem?_cons_succ, truD_bl, startD, List.map_cons, List.map_nil, List.cons_append, List.nil_append, List.replicate]); (try simp only [if_true, Bool.false_eq_true, if_false, decide_true, decide_false, Bool.not_true, Bool.not_false, List.length_cons, List.length_nil, sizeLine_eq, Nat.reduceAdd, Nat.reduceLeDiff, true_and, and_true, pw6, pw10, pw11, pw12, pw13, pw30, pw40, pw60, startD, List.map_cons, List.map_nil, List.cons_append, List.nil_append, List.replicate]); (try dsimp only [sAsg, sIf, sRet, sRetN, sDrop, sNext, asg, setAll, eT, eOp, eUn, eLst, eTup, eCons, eNil, eVar, eC, eCall, eCB, eNot, eAnd, eOr, eTru, eAndT, eOrT, eNotT, eIf, ePart, eNoPart, eYes, eChain, eChain3, oI, oI0, oLt, oLe, oGt, oGe, oNeg, oSub, oMod, oMul, oDivW, eXp, eXa, eConsX, eCallX, eCallN, eLstX, eCBX, sDropX, sRetX, sAsgX, sRaise, sRaiseF, List.set_cons_zero, List.set_cons_succ, List.getElem?_cons_zero, List.getElem?_cons_succ, truD_bl, startD, List.map_cons, List.map_nil, List.cons_append, List.nil_append, List.replicate])
  rw [isi_tuple (okT_any ha)]
  cases d with
  | tup es =>
    (try dsimp only [sAsg, sIf, sRet, sRetN, sDrop, sNext, asg, setAll, eT, eOp, eUn, eLst, eTup, eCons, eNil, eVar, eC, eCall, eCB, eNot, eAnd, eOr, eTru, eAndT, eOrT, eNotT, eIf, ePart, eNoPart, eYes, eChain, eChain3, oI, oI0, oLt, oLe, oGt, oGe, oNeg, oSub, oMod, oMul, oDivW, eXp, eXa, eConsX, eCallX, eCallN, eLstX, eCBX, sDropX, sRetX, sAsgX, sRaise, sRaiseF, List.set_cons_zero, List.set_cons_succ, List.getElem?_cons_zero, List.getElem?_cons_succ, truD_bl, isT]); (try simp only [if_true, Bool.false_eq_true, if_false, decide_true, decide_false, Bool.not_true, Bool.not_false, List.length_cons, List.length_nil, sizeLine_eq, Nat.reduceAdd, Nat.reduceLeDiff, true_and, and_true, pw6, pw10, pw11, pw12, pw13, pw30, pw40, pw60, isT]); (try dsimp only [sAsg, sIf, sRet, sRetN, sDrop, sNext, asg, setAll, eT, eOp, eUn, eLst, eTup, eCons, eNil, eVar, eC, eCall, eCB, eNot, eAnd, eOr, eTru, eAndT, eOrT, eNotT, eIf, ePart, eNoPart, eYes, eChain, eChain3, oI, oI0, oLt, oLe, oGt, oGe, oNeg, oSub, oMod, oMul, oDivW, eXp, eXa, eConsX, eCallX, eCallN, eLstX, eCBX, sDropX, sRetX, sAsgX, sRaise, sRaiseF, List.set_cons_zero, List.set_cons_succ, List.getElem?_cons_zero, List.getElem?_cons_succ, truD_bl, isT])
    have hm := okT_tup.mp ha
    by_cases l2 : es.length = 2
    · match es, l2 with
      | [sz, l], _ =>
        have hs := hm sz (by simp)
        have hl := hm l (by simp)
        refine len_tup (ne_ii ?_)
        rw [decide_eq_true (by rfl)]
        (try dsimp only [sAsg, sIf, sRet, sRetN, sDrop, sNext, asg, setAll, eT, eOp, eUn, eLst, eTup, eCons, eNil, eVar, eC, eCall, eCB, eNot, eAnd, eOr, eTru, eAndT, eOrT, eNotT, eIf, ePart, eNoPart, eYes, eChain, eChain3, oI, oI0, oLt, oLe, oGt, oGe, oNeg, oSub, oMod, oMul, oDivW, eXp, eXa, eConsX, eCallX, eCallN, eLstX, eCBX, sDropX, sRetX, sAsgX, sRaise, sRaiseF, List.set_cons_zero, List.set_cons_succ, List.getElem?_cons_zero, List.getElem?_cons_succ, truD_bl]); (try simp only [if_true, Bool.false_eq_true, if_false, decide_true, decide_false, Bool.not_true, Bool.not_false, List.length_cons, List.length_nil, sizeLine_eq, Nat.reduceAdd, Nat.reduceLeDiff, true_and, and_true, pw6, pw10, pw11, pw12, pw13, pw30, pw40, pw60]); (try dsimp only [sAsg, sIf, sRet, sRetN, sDrop, sNext, asg, setAll, eT, eOp, eUn, eLst, eTup, eCons, eNil, eVar, eC, eCall, eCB, eNot, eAnd, eOr, eTru, eAndT, eOrT, eNotT, eIf, ePart, eNoPart, eYes, eChain, eChain3, oI, oI0, oLt, oLe, oGt, oGe, oNeg, oSub, oMod, oMul, oDivW, eXp, eXa, eConsX, eCallX, eCallN, eLstX, eCBX, sDropX, sRetX, sAsgX, sRaise, sRaiseF, List.set_cons_zero, List.set_cons_succ, List.getElem?_cons_zero, List.getElem?_cons_succ, truD_bl])
        refine ixt_0 (d := l) rfl ?_
        rw [isi_list (okT_any hl)]
        cases l with
        | lst es =>
          have he := okT_lst.mp hl
          (try dsimp only [sAsg, sIf, sRet, sRetN, sDrop, sNext, asg, setAll, eT, eOp, eUn, eLst, eTup, eCons, eNil, eVar, eC, eCall, eCB, eNot, eAnd, eOr, eTru, eAndT, eOrT, eNotT, eIf, ePart, eNoPart, eYes, eChain, eChain3, oI, oI0, oLt, oLe, oGt, oGe, oNeg, oSub, oMod, oMul, oDivW, eXp, eXa, eConsX, eCallX, eCallN, eLstX, eCBX, sDropX, sRetX, sAsgX, sRaise, sRaiseF, List.set_cons_zero, List.set_cons_succ, List.getElem?_cons_zero, List.getElem?_cons_succ, truD_bl, isL]); (try simp only [if_true, Bool.false_eq_true, if_false, decide_true, decide_false, Bool.not_true, Bool.not_false, List.length_cons, List.length_nil, sizeLine_eq, Nat.reduceAdd, Nat.reduceLeDiff, true_and, and_true, pw6, pw10, pw11, pw12, pw13, pw30, pw40, pw60, isL]); (try dsimp only [sAsg, sIf, sRet, sRetN, sDrop, sNext, asg, setAll, eT, eOp, eUn, eLst, eTup, eCons, eNil, eVar, eC, eCall, eCB, eNot, eAnd, eOr, eTru, eAndT, eOrT, eNotT, eIf, ePart, eNoPart, eYes, eChain, eChain3, oI, oI0, oLt, oLe, oGt, oGe, oNeg, oSub, oMod, oMul, oDivW, eXp, eXa, eConsX, eCallX, eCallN, eLstX, eCBX, sDropX, sRetX, sAsgX, sRaise, sRaiseF, List.set_cons_zero, List.set_cons_succ, List.getElem?_cons_zero, List.getElem?_cons_succ, truD_bl, isL])
          refine hW _ _ ?_
          refine seq_gen fun W2 hW2 => ?_
          (try dsimp only [sAsg, sIf, sRet, sRetN, sDrop, sNext, asg, setAll, eT, eOp, eUn, eLst, eTup, eCons, eNil, eVar, eC, eCall, eCB, eNot, eAnd, eOr, eTru, eAndT, eOrT, eNotT, eIf, ePart, eNoPart, eYes, eChain, eChain3, oI, oI0, oLt, oLe, oGt, oGe, oNeg, oSub, oMod, oMul, oDivW, eXp, eXa, eConsX, eCallX, eCallN, eLstX, eCBX, sDropX, sRetX, sAsgX, sRaise, sRaiseF, List.set_cons_zero, List.set_cons_succ, List.getElem?_cons_zero, List.getElem?_cons_succ, truD_bl, lkQ_tup]); (try simp only [if_true, Bool.false_eq_true, if_false, decide_true, decide_false, Bool.not_true, Bool.not_false, List.length_cons, List.length_nil, sizeLine_eq, Nat.reduceAdd, Nat.reduceLeDiff, true_and, and_true, pw6, pw10, pw11, pw12, pw13, pw30, pw40, pw60, lkQ_tup]); (try dsimp only [sAsg, sIf, sRet, sRetN, sDrop, sNext, asg, setAll, eT, eOp, eUn, eLst, eTup, eCons, eNil, eVar, eC, eCall, eCB, eNot, eAnd, eOr, eTru, eAndT, eOrT, eNotT, eIf, ePart, eNoPart, eYes, eChain, eChain3, oI, oI0, oLt, oLe, oGt, oGe, oNeg, oSub, oMod, oMul, oDivW, eXp, eXa, eConsX, eCallX, eCallN, eLstX, eCBX, sDropX, sRetX, sAsgX, sRaise, sRaiseF, List.set_cons_zero, List.set_cons_succ, List.getElem?_cons_zero, List.getElem?_cons_succ, truD_bl, lkQ_tup])
          refine hW2 _ _ ?_
          refine seq_gen fun W3 hW3 => ?_
          (try dsimp only [sAsg, sIf, sRet, sRetN, sDrop, sNext, asg, setAll, eT, eOp, eUn, eLst, eTup, eCons, eNil, eVar, eC, eCall, eCB, eNot, eAnd, eOr, eTru, eAndT, eOrT, eNotT, eIf, ePart, eNoPart, eYes, eChain, eChain3, oI, oI0, oLt, oLe, oGt, oGe, oNeg, oSub, oMod, oMul, oDivW, eXp, eXa, eConsX, eCallX, eCallN, eLstX, eCBX, sDropX, sRetX, sAsgX, sRaise, sRaiseF, List.set_cons_zero, List.set_cons_succ, List.getElem?_cons_zero, List.getElem?_cons_succ, truD_bl]); (try simp only [if_true, Bool.false_eq_true, if_false, decide_true, decide_false, Bool.not_true, Bool.not_false, List.length_cons, List.length_nil, sizeLine_eq, Nat.reduceAdd, Nat.reduceLeDiff, true_and, and_true, pw6, pw10, pw11, pw12, pw13, pw30, pw40, pw60]); (try dsimp only [sAsg, sIf, sRet, sRetN, sDrop, sNext, asg, setAll, eT, eOp, eUn, eLst, eTup, eCons, eNil, eVar, eC, eCall, eCB, eNot, eAnd, eOr, eTru, eAndT, eOrT, eNotT, eIf, ePart, eNoPart, eYes, eChain, eChain3, oI, oI0, oLt, oLe, oGt, oGe, oNeg, oSub, oMod, oMul, oDivW, eXp, eXa, eConsX, eCallX, eCallN, eLstX, eCBX, sDropX, sRetX, sAsgX, sRaise, sRaiseF, List.set_cons_zero, List.set_cons_succ, List.getElem?_cons_zero, List.getElem?_cons_succ, truD_bl])
          refine whole_any (okT_any hs) ?_
          cases qs : intOf sz with
          | none =>
            have w0 : whB sz = false := by rw [wh_int, qs]; rfl
            rw [w0]
            (try dsimp only [sAsg, sIf, sRet, sRetN, sDrop, sNext, asg, setAll, eT, eOp, eUn, eLst, eTup, eCons, eNil, eVar, eC, eCall, eCB, eNot, eAnd, eOr, eTru, eAndT, eOrT, eNotT, eIf, ePart, eNoPart, eYes, eChain, eChain3, oI, oI0, oLt, oLe, oGt, oGe, oNeg, oSub, oMod, oMul, oDivW, eXp, eXa, eConsX, eCallX, eCallN, eLstX, eCBX, sDropX, sRetX, sAsgX, sRaise, sRaiseF, List.set_cons_zero, List.set_cons_succ, List.getElem?_cons_zero, List.getElem?_cons_succ, truD_bl]); (try simp only [if_true, Bool.false_eq_true, if_false, decide_true, decide_false, Bool.not_true, Bool.not_false, List.length_cons, List.length_nil, sizeLine_eq, Nat.reduceAdd, Nat.reduceLeDiff, true_and, and_true, pw6, pw10, pw11, pw12, pw13, pw30, pw40, pw60]); (try dsimp only [sAsg, sIf, sRet, sRetN, sDrop, sNext, asg, setAll, eT, eOp, eUn, eLst, eTup, eCons, eNil, eVar, eC, eCall, eCB, eNot, eAnd, eOr, eTru, eAndT, eOrT, eNotT, eIf, ePart, eNoPart, eYes, eChain, eChain3, oI, oI0, oLt, oLe, oGt, oGe, oNeg, oSub, oMod, oMul, oDivW, eXp, eXa, eConsX, eCallX, eCallN, eLstX, eCBX, sDropX, sRetX, sAsgX, sRaise, sRaiseF, List.set_cons_zero, List.set_cons_succ, List.getElem?_cons_zero, List.getElem?_cons_succ, truD_bl])
            exact finX_id (u none (by simp only [lookR, qs]))
          | some n =>
            have := intOf_eq qs
            subst this
            (try dsimp only [sAsg, sIf, sRet, sRetN, sDrop, sNext, asg, setAll, eT, eOp, eUn, eLst, eTup, eCons, eNil, eVar, eC, eCall, eCB, eNot, eAnd, eOr, eTru, eAndT, eOrT, eNotT, eIf, ePart, eNoPart, eYes, eChain, eChain3, oI, oI0, oLt, oLe, oGt, oGe, oNeg, oSub, oMod, oMul, oDivW, eXp, eXa, eConsX, eCallX, eCallN, eLstX, eCBX, sDropX, sRetX, sAsgX, sRaise, sRaiseF, List.set_cons_zero, List.set_cons_succ, List.getElem?_cons_zero, List.getElem?_cons_succ, truD_bl, whB]); (try simp only [if_true, Bool.false_eq_true, if_false, decide_true, decide_false, Bool.not_true, Bool.not_false, List.length_cons, List.length_nil, sizeLine_eq, Nat.reduceAdd, Nat.reduceLeDiff, true_and, and_true, pw6, pw10, pw11, pw12, pw13, pw30, pw40, pw60, whB]); (try dsimp only [sAsg, sIf, sRet, sRetN, sDrop, sNext, asg, setAll, eT, eOp, eUn, eLst, eTup, eCons, eNil, eVar, eC, eCall, eCB, eNot, eAnd, eOr, eTru, eAndT, eOrT, eNotT, eIf, ePart, eNoPart, eYes, eChain, eChain3, oI, oI0, oLt, oLe, oGt, oGe, oNeg, oSub, oMod, oMul, oDivW, eXp, eXa, eConsX, eCallX, eCallN, eLstX, eCBX, sDropX, sRetX, sAsgX, sRaise, sRaiseF, List.set_cons_zero, List.set_cons_succ, List.getElem?_cons_zero, List.getElem?_cons_succ, truD_bl, whB])
            have bad : ¬ (1 ≤ n ∧ n ≤ 40) → U ⟨"NoRing", some ("number", .non)⟩ G := fun c => u none (by simp only [lookR, qs, if_neg c])
            by_cases c1 : (1 : Int) ≤ n
            · rw [decide_eq_true c1]
              (try dsimp only [sAsg, sIf, sRet, sRetN, sDrop, sNext, asg, setAll, eT, eOp, eUn, eLst, eTup, eCons, eNil, eVar, eC, eCall, eCB, eNot, eAnd, eOr, eTru, eAndT, eOrT, eNotT, eIf, ePart, eNoPart, eYes, eChain, eChain3, oI, oI0, oLt, oLe, oGt, oGe, oNeg, oSub, oMod, oMul, oDivW, eXp, eXa, eConsX, eCallX, eCallN, eLstX, eCBX, sDropX, sRetX, sAsgX, sRaise, sRaiseF, List.set_cons_zero, List.set_cons_succ, List.getElem?_cons_zero, List.getElem?_cons_succ, truD_bl]); (try simp only [if_true, Bool.false_eq_true, if_false, decide_true, decide_false, Bool.not_true, Bool.not_false, List.length_cons, List.length_nil, sizeLine_eq, Nat.reduceAdd, Nat.reduceLeDiff, true_and, and_true, pw6, pw10, pw11, pw12, pw13, pw30, pw40, pw60]); (try dsimp only [sAsg, sIf, sRet, sRetN, sDrop, sNext, asg, setAll, eT, eOp, eUn, eLst, eTup, eCons, eNil, eVar, eC, eCall, eCB, eNot, eAnd, eOr, eTru, eAndT, eOrT, eNotT, eIf, ePart, eNoPart, eYes, eChain, eChain3, oI, oI0, oLt, oLe, oGt, oGe, oNeg, oSub, oMod, oMul, oDivW, eXp, eXa, eConsX, eCallX, eCallN, eLstX, eCBX, sDropX, sRetX, sAsgX, sRaise, sRaiseF, List.set_cons_zero, List.set_cons_succ, List.getElem?_cons_zero, List.getElem?_cons_succ, truD_bl])
              by_cases c2 : n ≤ 40
              · rw [decide_eq_true c2]
                (try dsimp only [sAsg, sIf, sRet, sRetN, sDrop, sNext, asg, setAll, eT, eOp, eUn, eLst, eTup, eCons, eNil, eVar, eC, eCall, eCB, eNot, eAnd, eOr, eTru, eAndT, eOrT, eNotT, eIf, ePart, eNoPart, eYes, eChain, eChain3, oI, oI0, oLt, oLe, oGt, oGe, oNeg, oSub, oMod, oMul, oDivW, eXp, eXa, eConsX, eCallX, eCallN, eLstX, eCBX, sDropX, sRetX, sAsgX, sRaise, sRaiseF, List.set_cons_zero, List.set_cons_succ, List.getElem?_cons_zero, List.getElem?_cons_succ, truD_bl]); (try simp only [if_true, Bool.false_eq_true, if_false, decide_true, decide_false, Bool.not_true, Bool.not_false, List.length_cons, List.length_nil, sizeLine_eq, Nat.reduceAdd, Nat.reduceLeDiff, true_and, and_true, pw6, pw10, pw11, pw12, pw13, pw30, pw40, pw60]); (try dsimp only [sAsg, sIf, sRet, sRetN, sDrop, sNext, asg, setAll, eT, eOp, eUn, eLst, eTup, eCons, eNil, eVar, eC, eCall, eCB, eNot, eAnd, eOr, eTru, eAndT, eOrT, eNotT, eIf, ePart, eNoPart, eYes, eChain, eChain3, oI, oI0, oLt, oLe, oGt, oGe, oNeg, oSub, oMod, oMul, oDivW, eXp, eXa, eConsX, eCallX, eCallN, eLstX, eCBX, sDropX, sRetX, sAsgX, sRaise, sRaiseF, List.set_cons_zero, List.set_cons_succ, List.getElem?_cons_zero, List.getElem?_cons_succ, truD_bl])
                refine hW3 _ _ ?_
                have el : lookR (.tup [.int n, .lst es]) = (badR n [] 0 es).map some := by simp only [lookR, qs, if_pos (And.intro c1 c2)]
                rw [el] at k
                rw [el] at u
                refine seq_gen fun W4 hW4 => ?_
                (try dsimp only [sAsg, sIf, sRet, sRetN, sDrop, sNext, asg, setAll, eT, eOp, eUn, eLst, eTup, eCons, eNil, eVar, eC, eCall, eCB, eNot, eAnd, eOr, eTru, eAndT, eOrT, eNotT, eIf, ePart, eNoPart, eYes, eChain, eChain3, oI, oI0, oLt, oLe, oGt, oGe, oNeg, oSub, oMod, oMul, oDivW, eXp, eXa, eConsX, eCallX, eCallN, eLstX, eCBX, sDropX, sRetX, sAsgX, sRaise, sRaiseF, List.set_cons_zero, List.set_cons_succ, List.getElem?_cons_zero, List.getElem?_cons_succ, truD_bl, eLstO]); (try simp only [if_true, Bool.false_eq_true, if_false, decide_true, decide_false, Bool.not_true, Bool.not_false, List.length_cons, List.length_nil, sizeLine_eq, Nat.reduceAdd, Nat.reduceLeDiff, true_and, and_true, pw6, pw10, pw11, pw12, pw13, pw30, pw40, pw60, eLstO]); (try dsimp only [sAsg, sIf, sRet, sRetN, sDrop, sNext, asg, setAll, eT, eOp, eUn, eLst, eTup, eCons, eNil, eVar, eC, eCall, eCB, eNot, eAnd, eOr, eTru, eAndT, eOrT, eNotT, eIf, ePart, eNoPart, eYes, eChain, eChain3, oI, oI0, oLt, oLe, oGt, oGe, oNeg, oSub, oMod, oMul, oDivW, eXp, eXa, eConsX, eCallX, eCallN, eLstX, eCBX, sDropX, sRetX, sAsgX, sRaise, sRaiseF, List.set_cons_zero, List.set_cons_succ, List.getElem?_cons_zero, List.getElem?_cons_succ, truD_bl, eLstO])
                intro q hq
                refine hW4 _ _ ?_
                have kp : ∀ (o : GO) (a : Addr) (o' : GO), G a = some o' → gput G q o a = some o' := fun o a o' e => by
                  rw [gput_ne (fun z => by rw [z, hq] at e; cases e)]
                  exact e
                (try dsimp only [sAsg, sIf, sRet, sRetN, sDrop, sNext, asg, setAll, eT, eOp, eUn, eLst, eTup, eCons, eNil, eVar, eC, eCall, eCB, eNot, eAnd, eOr, eTru, eAndT, eOrT, eNotT, eIf, ePart, eNoPart, eYes, eChain, eChain3, oI, oI0, oLt, oLe, oGt, oGe, oNeg, oSub, oMod, oMul, oDivW, eXp, eXa, eConsX, eCallX, eCallN, eLstX, eCBX, sDropX, sRetX, sAsgX, sRaise, sRaiseF, List.set_cons_zero, List.set_cons_succ, List.getElem?_cons_zero, List.getElem?_cons_succ, truD_bl, sFor, iE, lkL_lst]); (try simp only [if_true, Bool.false_eq_true, if_false, decide_true, decide_false, Bool.not_true, Bool.not_false, List.length_cons, List.length_nil, sizeLine_eq, Nat.reduceAdd, Nat.reduceLeDiff, true_and, and_true, pw6, pw10, pw11, pw12, pw13, pw30, pw40, pw60, sFor, iE, lkL_lst]); (try dsimp only [sAsg, sIf, sRet, sRetN, sDrop, sNext, asg, setAll, eT, eOp, eUn, eLst, eTup, eCons, eNil, eVar, eC, eCall, eCB, eNot, eAnd, eOr, eTru, eAndT, eOrT, eNotT, eIf, ePart, eNoPart, eYes, eChain, eChain3, oI, oI0, oLt, oLe, oGt, oGe, oNeg, oSub, oMod, oMul, oDivW, eXp, eXa, eConsX, eCallX, eCallN, eLstX, eCBX, sDropX, sRetX, sAsgX, sRaise, sRaiseF, List.set_cons_zero, List.set_cons_succ, List.getElem?_cons_zero, List.getElem?_cons_succ, truD_bl, sFor, iE, lkL_lst])
                obtain ⟨r0, hr0⟩ : ∃ r, r = badR n [] 0 es := ⟨_, rfl⟩
                refine forW_enumK (fun j s G' => ∃ (ns : List Str) (o4 o5 : Option D), s = [some (.tup [.int n, .lst es]), some (.int n), some (.lst es), some (.ref q), o4, o5] ∧ ns.length = j ∧ j ≤ 24 ∧ G' = gput G q (.lst (ns.map D.str)) ∧ r0 = badR n ns j (es.drop j)) (fun _ _ _ _ => ?_) ?_ ?_ ⟨[], _, _, rfl, rfl, Nat.zero_le _, rfl, hr0⟩
                · first | trivial | exact stays_of lkL_lst
                · rintro j x s G' Wl hx ⟨ns, o4, o5, rfl, hn, j24, rfl, hb⟩ hWl
                  have hj := (List.getElem?_eq_some_iff.mp hx).1
                  have ex := (List.getElem?_eq_some_iff.mp hx).2
                  rw [List.drop_eq_getElem_cons hj, ex] at hb
                  have hx2 : okT x = true := he x (List.mem_of_getElem? hx)
                  unfold badR at hb
                  have bad : (j = 24 ∨ rsB n x = false ∨ stName x ∈ ns) → (finX G Q U).xr ⟨"NoRing", some ("number", .int (j : Int))⟩ [some (.tup [.int n, .lst es]), some (.int n), some (.lst es), some (.ref q), some (.int (j : Int)), some x] (gput G q (.lst (ns.map D.str))) := fun c => by
                    rw [if_pos c] at hb
                    exact finX_back (fun a o e => kp _ _ _ e) (by simp [refX, RefIn]) (u (some j) (by rw [← hr0, hb]; rfl))
                  (try dsimp only [sAsg, sIf, sRet, sRetN, sDrop, sNext, asg, setAll, eT, eOp, eUn, eLst, eTup, eCons, eNil, eVar, eC, eCall, eCB, eNot, eAnd, eOr, eTru, eAndT, eOrT, eNotT, eIf, ePart, eNoPart, eYes, eChain, eChain3, oI, oI0, oLt, oLe, oGt, oGe, oNeg, oSub, oMod, oMul, oDivW, eXp, eXa, eConsX, eCallX, eCallN, eLstX, eCBX, sDropX, sRetX, sAsgX, sRaise, sRaiseF, List.set_cons_zero, List.set_cons_succ, List.getElem?_cons_zero, List.getElem?_cons_succ, truD_bl]); (try simp only [if_true, Bool.false_eq_true, if_false, decide_true, decide_false, Bool.not_true, Bool.not_false, List.length_cons, List.length_nil, sizeLine_eq, Nat.reduceAdd, Nat.reduceLeDiff, true_and, and_true, pw6, pw10, pw11, pw12, pw13, pw30, pw40, pw60]); (try dsimp only [sAsg, sIf, sRet, sRetN, sDrop, sNext, asg, setAll, eT, eOp, eUn, eLst, eTup, eCons, eNil, eVar, eC, eCall, eCB, eNot, eAnd, eOr, eTru, eAndT, eOrT, eNotT, eIf, ePart, eNoPart, eYes, eChain, eChain3, oI, oI0, oLt, oLe, oGt, oGe, oNeg, oSub, oMod, oMul, oDivW, eXp, eXa, eConsX, eCallX, eCallN, eLstX, eCBX, sDropX, sRetX, sAsgX, sRaise, sRaiseF, List.set_cons_zero, List.set_cons_succ, List.getElem?_cons_zero, List.getElem?_cons_succ, truD_bl])
                  unfold r_look_at_ring_L1
                  refine seq_gen fun W5 hW5 => ?_
                  (try dsimp only [sAsg, sIf, sRet, sRetN, sDrop, sNext, asg, setAll, eT, eOp, eUn, eLst, eTup, eCons, eNil, eVar, eC, eCall, eCB, eNot, eAnd, eOr, eTru, eAndT, eOrT, eNotT, eIf, ePart, eNoPart, eYes, eChain, eChain3, oI, oI0, oLt, oLe, oGt, oGe, oNeg, oSub, oMod, oMul, oDivW, eXp, eXa, eConsX, eCallX, eCallN, eLstX, eCBX, sDropX, sRetX, sAsgX, sRaise, sRaiseF, List.set_cons_zero, List.set_cons_succ, List.getElem?_cons_zero, List.getElem?_cons_succ, truD_bl]); (try simp only [if_true, Bool.false_eq_true, if_false, decide_true, decide_false, Bool.not_true, Bool.not_false, List.length_cons, List.length_nil, sizeLine_eq, Nat.reduceAdd, Nat.reduceLeDiff, true_and, and_true, pw6, pw10, pw11, pw12, pw13, pw30, pw40, pw60]); (try dsimp only [sAsg, sIf, sRet, sRetN, sDrop, sNext, asg, setAll, eT, eOp, eUn, eLst, eTup, eCons, eNil, eVar, eC, eCall, eCB, eNot, eAnd, eOr, eTru, eAndT, eOrT, eNotT, eIf, ePart, eNoPart, eYes, eChain, eChain3, oI, oI0, oLt, oLe, oGt, oGe, oNeg, oSub, oMod, oMul, oDivW, eXp, eXa, eConsX, eCallX, eCallN, eLstX, eCBX, sDropX, sRetX, sAsgX, sRaise, sRaiseF, List.set_cons_zero, List.set_cons_succ, List.getElem?_cons_zero, List.getElem?_cons_succ, truD_bl])
                  refine eq_ii ?_
                  by_cases c1 : j = 24
                  · rw [decide_eq_true (show (j : Int) = 24 by omega)]
                    (try dsimp only [sAsg, sIf, sRet, sRetN, sDrop, sNext, asg, setAll, eT, eOp, eUn, eLst, eTup, eCons, eNil, eVar, eC, eCall, eCB, eNot, eAnd, eOr, eTru, eAndT, eOrT, eNotT, eIf, ePart, eNoPart, eYes, eChain, eChain3, oI, oI0, oLt, oLe, oGt, oGe, oNeg, oSub, oMod, oMul, oDivW, eXp, eXa, eConsX, eCallX, eCallN, eLstX, eCBX, sDropX, sRetX, sAsgX, sRaise, sRaiseF, List.set_cons_zero, List.set_cons_succ, List.getElem?_cons_zero, List.getElem?_cons_succ, truD_bl]); (try simp only [if_true, Bool.false_eq_true, if_false, decide_true, decide_false, Bool.not_true, Bool.not_false, List.length_cons, List.length_nil, sizeLine_eq, Nat.reduceAdd, Nat.reduceLeDiff, true_and, and_true, pw6, pw10, pw11, pw12, pw13, pw30, pw40, pw60]); (try dsimp only [sAsg, sIf, sRet, sRetN, sDrop, sNext, asg, setAll, eT, eOp, eUn, eLst, eTup, eCons, eNil, eVar, eC, eCall, eCB, eNot, eAnd, eOr, eTru, eAndT, eOrT, eNotT, eIf, ePart, eNoPart, eYes, eChain, eChain3, oI, oI0, oLt, oLe, oGt, oGe, oNeg, oSub, oMod, oMul, oDivW, eXp, eXa, eConsX, eCallX, eCallN, eLstX, eCBX, sDropX, sRetX, sAsgX, sRaise, sRaiseF, List.set_cons_zero, List.set_cons_succ, List.getElem?_cons_zero, List.getElem?_cons_succ, truD_bl])
                    exact bad (.inl c1)
                  · rw [decide_eq_false (show ¬ (j : Int) = 24 by omega)]
                    (try dsimp only [sAsg, sIf, sRet, sRetN, sDrop, sNext, asg, setAll, eT, eOp, eUn, eLst, eTup, eCons, eNil, eVar, eC, eCall, eCB, eNot, eAnd, eOr, eTru, eAndT, eOrT, eNotT, eIf, ePart, eNoPart, eYes, eChain, eChain3, oI, oI0, oLt, oLe, oGt, oGe, oNeg, oSub, oMod, oMul, oDivW, eXp, eXa, eConsX, eCallX, eCallN, eLstX, eCBX, sDropX, sRetX, sAsgX, sRaise, sRaiseF, List.set_cons_zero, List.set_cons_succ, List.getElem?_cons_zero, List.getElem?_cons_succ, truD_bl]); (try simp only [if_true, Bool.false_eq_true, if_false, decide_true, decide_false, Bool.not_true, Bool.not_false, List.length_cons, List.length_nil, sizeLine_eq, Nat.reduceAdd, Nat.reduceLeDiff, true_and, and_true, pw6, pw10, pw11, pw12, pw13, pw30, pw40, pw60]); (try dsimp only [sAsg, sIf, sRet, sRetN, sDrop, sNext, asg, setAll, eT, eOp, eUn, eLst, eTup, eCons, eNil, eVar, eC, eCall, eCB, eNot, eAnd, eOr, eTru, eAndT, eOrT, eNotT, eIf, ePart, eNoPart, eYes, eChain, eChain3, oI, oI0, oLt, oLe, oGt, oGe, oNeg, oSub, oMod, oMul, oDivW, eXp, eXa, eConsX, eCallX, eCallN, eLstX, eCBX, sDropX, sRetX, sAsgX, sRaise, sRaiseF, List.set_cons_zero, List.set_cons_succ, List.getElem?_cons_zero, List.getElem?_cons_succ, truD_bl])
                    refine ⟨n, x, rfl, hx2, ?_⟩
                    cases c2 : rsB n x with
                    | false =>
                      (try dsimp only [sAsg, sIf, sRet, sRetN, sDrop, sNext, asg, setAll, eT, eOp, eUn, eLst, eTup, eCons, eNil, eVar, eC, eCall, eCB, eNot, eAnd, eOr, eTru, eAndT, eOrT, eNotT, eIf, ePart, eNoPart, eYes, eChain, eChain3, oI, oI0, oLt, oLe, oGt, oGe, oNeg, oSub, oMod, oMul, oDivW, eXp, eXa, eConsX, eCallX, eCallN, eLstX, eCBX, sDropX, sRetX, sAsgX, sRaise, sRaiseF, List.set_cons_zero, List.set_cons_succ, List.getElem?_cons_zero, List.getElem?_cons_succ, truD_bl]); (try simp only [if_true, Bool.false_eq_true, if_false, decide_true, decide_false, Bool.not_true, Bool.not_false, List.length_cons, List.length_nil, sizeLine_eq, Nat.reduceAdd, Nat.reduceLeDiff, true_and, and_true, pw6, pw10, pw11, pw12, pw13, pw30, pw40, pw60]); (try dsimp only [sAsg, sIf, sRet, sRetN, sDrop, sNext, asg, setAll, eT, eOp, eUn, eLst, eTup, eCons, eNil, eVar, eC, eCall, eCB, eNot, eAnd, eOr, eTru, eAndT, eOrT, eNotT, eIf, ePart, eNoPart, eYes, eChain, eChain3, oI, oI0, oLt, oLe, oGt, oGe, oNeg, oSub, oMod, oMul, oDivW, eXp, eXa, eConsX, eCallX, eCallN, eLstX, eCBX, sDropX, sRetX, sAsgX, sRaise, sRaiseF, List.set_cons_zero, List.set_cons_succ, List.getElem?_cons_zero, List.getElem?_cons_succ, truD_bl])
                      exact bad (.inr (.inl c2))
                    | true =>
                      obtain ⟨z, b, e, w, rfl⟩ := rsB_shape c2
                      (try dsimp only [sAsg, sIf, sRet, sRetN, sDrop, sNext, asg, setAll, eT, eOp, eUn, eLst, eTup, eCons, eNil, eVar, eC, eCall, eCB, eNot, eAnd, eOr, eTru, eAndT, eOrT, eNotT, eIf, ePart, eNoPart, eYes, eChain, eChain3, oI, oI0, oLt, oLe, oGt, oGe, oNeg, oSub, oMod, oMul, oDivW, eXp, eXa, eConsX, eCallX, eCallN, eLstX, eCBX, sDropX, sRetX, sAsgX, sRaise, sRaiseF, List.set_cons_zero, List.set_cons_succ, List.getElem?_cons_zero, List.getElem?_cons_succ, truD_bl]); (try simp only [if_true, Bool.false_eq_true, if_false, decide_true, decide_false, Bool.not_true, Bool.not_false, List.length_cons, List.length_nil, sizeLine_eq, Nat.reduceAdd, Nat.reduceLeDiff, true_and, and_true, pw6, pw10, pw11, pw12, pw13, pw30, pw40, pw60]); (try dsimp only [sAsg, sIf, sRet, sRetN, sDrop, sNext, asg, setAll, eT, eOp, eUn, eLst, eTup, eCons, eNil, eVar, eC, eCall, eCB, eNot, eAnd, eOr, eTru, eAndT, eOrT, eNotT, eIf, ePart, eNoPart, eYes, eChain, eChain3, oI, oI0, oLt, oLe, oGt, oGe, oNeg, oSub, oMod, oMul, oDivW, eXp, eXa, eConsX, eCallX, eCallN, eLstX, eCBX, sDropX, sRetX, sAsgX, sRaise, sRaiseF, List.set_cons_zero, List.set_cons_succ, List.getElem?_cons_zero, List.getElem?_cons_succ, truD_bl])
                      refine ixt_0 (d := .str z) rfl ?_
                      refine in_strsR gput_same ?_
                      by_cases c3 : z ∈ ns
                      · rw [decide_eq_true c3]
                        (try dsimp only [sAsg, sIf, sRet, sRetN, sDrop, sNext, asg, setAll, eT, eOp, eUn, eLst, eTup, eCons, eNil, eVar, eC, eCall, eCB, eNot, eAnd, eOr, eTru, eAndT, eOrT, eNotT, eIf, ePart, eNoPart, eYes, eChain, eChain3, oI, oI0, oLt, oLe, oGt, oGe, oNeg, oSub, oMod, oMul, oDivW, eXp, eXa, eConsX, eCallX, eCallN, eLstX, eCBX, sDropX, sRetX, sAsgX, sRaise, sRaiseF, List.set_cons_zero, List.set_cons_succ, List.getElem?_cons_zero, List.getElem?_cons_succ, truD_bl]); (try simp only [if_true, Bool.false_eq_true, if_false, decide_true, decide_false, Bool.not_true, Bool.not_false, List.length_cons, List.length_nil, sizeLine_eq, Nat.reduceAdd, Nat.reduceLeDiff, true_and, and_true, pw6, pw10, pw11, pw12, pw13, pw30, pw40, pw60]); (try dsimp only [sAsg, sIf, sRet, sRetN, sDrop, sNext, asg, setAll, eT, eOp, eUn, eLst, eTup, eCons, eNil, eVar, eC, eCall, eCB, eNot, eAnd, eOr, eTru, eAndT, eOrT, eNotT, eIf, ePart, eNoPart, eYes, eChain, eChain3, oI, oI0, oLt, oLe, oGt, oGe, oNeg, oSub, oMod, oMul, oDivW, eXp, eXa, eConsX, eCallX, eCallN, eLstX, eCBX, sDropX, sRetX, sAsgX, sRaise, sRaiseF, List.set_cons_zero, List.set_cons_succ, List.getElem?_cons_zero, List.getElem?_cons_succ, truD_bl])
                        exact bad (.inr (.inr c3))
                      · rw [decide_eq_false c3]
                        (try dsimp only [sAsg, sIf, sRet, sRetN, sDrop, sNext, asg, setAll, eT, eOp, eUn, eLst, eTup, eCons, eNil, eVar, eC, eCall, eCB, eNot, eAnd, eOr, eTru, eAndT, eOrT, eNotT, eIf, ePart, eNoPart, eYes, eChain, eChain3, oI, oI0, oLt, oLe, oGt, oGe, oNeg, oSub, oMod, oMul, oDivW, eXp, eXa, eConsX, eCallX, eCallN, eLstX, eCBX, sDropX, sRetX, sAsgX, sRaise, sRaiseF, List.set_cons_zero, List.set_cons_succ, List.getElem?_cons_zero, List.getElem?_cons_succ, truD_bl]); (try simp only [if_true, Bool.false_eq_true, if_false, decide_true, decide_false, Bool.not_true, Bool.not_false, List.length_cons, List.length_nil, sizeLine_eq, Nat.reduceAdd, Nat.reduceLeDiff, true_and, and_true, pw6, pw10, pw11, pw12, pw13, pw30, pw40, pw60]); (try dsimp only [sAsg, sIf, sRet, sRetN, sDrop, sNext, asg, setAll, eT, eOp, eUn, eLst, eTup, eCons, eNil, eVar, eC, eCall, eCB, eNot, eAnd, eOr, eTru, eAndT, eOrT, eNotT, eIf, ePart, eNoPart, eYes, eChain, eChain3, oI, oI0, oLt, oLe, oGt, oGe, oNeg, oSub, oMod, oMul, oDivW, eXp, eXa, eConsX, eCallX, eCallN, eLstX, eCBX, sDropX, sRetX, sAsgX, sRaise, sRaiseF, List.set_cons_zero, List.set_cons_succ, List.getElem?_cons_zero, List.getElem?_cons_succ, truD_bl])
                        refine hW5 _ _ ?_
                        rw [if_neg (by
                          rintro (q1 | q1 | q1)
                          · exact c1 q1
                          · rw [c2] at q1; cases q1
                          · exact c3 q1)] at hb
                        (try dsimp only [sAsg, sIf, sRet, sRetN, sDrop, sNext, asg, setAll, eT, eOp, eUn, eLst, eTup, eCons, eNil, eVar, eC, eCall, eCB, eNot, eAnd, eOr, eTru, eAndT, eOrT, eNotT, eIf, ePart, eNoPart, eYes, eChain, eChain3, oI, oI0, oLt, oLe, oGt, oGe, oNeg, oSub, oMod, oMul, oDivW, eXp, eXa, eConsX, eCallX, eCallN, eLstX, eCBX, sDropX, sRetX, sAsgX, sRaise, sRaiseF, List.set_cons_zero, List.set_cons_succ, List.getElem?_cons_zero, List.getElem?_cons_succ, truD_bl, eBm]); (try simp only [if_true, Bool.false_eq_true, if_false, decide_true, decide_false, Bool.not_true, Bool.not_false, List.length_cons, List.length_nil, sizeLine_eq, Nat.reduceAdd, Nat.reduceLeDiff, true_and, and_true, pw6, pw10, pw11, pw12, pw13, pw30, pw40, pw60, eBm]); (try dsimp only [sAsg, sIf, sRet, sRetN, sDrop, sNext, asg, setAll, eT, eOp, eUn, eLst, eTup, eCons, eNil, eVar, eC, eCall, eCB, eNot, eAnd, eOr, eTru, eAndT, eOrT, eNotT, eIf, ePart, eNoPart, eYes, eChain, eChain3, oI, oI0, oLt, oLe, oGt, oGe, oNeg, oSub, oMod, oMul, oDivW, eXp, eXa, eConsX, eCallX, eCallN, eLstX, eCBX, sDropX, sRetX, sAsgX, sRaise, sRaiseF, List.set_cons_zero, List.set_cons_succ, List.getElem?_cons_zero, List.getElem?_cons_succ, truD_bl, eBm])
                        refine ⟨⟨_, gput_same⟩, ixt_0 (d := .str z) rfl (app_ref gput_same (by rw [List.length_map]; omega) ?_)⟩
                        rw [gput_gput]
                        exact hWl _ _ ⟨ns ++ [z], _, _, rfl, by simp; omega, by omega, by simp, hb⟩
                · rintro s G' ⟨ns, o4, o5, rfl, hn, j24, rfl, hb⟩
                  rw [List.drop_length] at hb
                  unfold badR at hb
                  exact finX_nx (fun a o e => kp _ _ _ e) (k (by rw [← hr0, hb]; rfl))
              · rw [decide_eq_false c2]
                (try dsimp only [sAsg, sIf, sRet, sRetN, sDrop, sNext, asg, setAll, eT, eOp, eUn, eLst, eTup, eCons, eNil, eVar, eC, eCall, eCB, eNot, eAnd, eOr, eTru, eAndT, eOrT, eNotT, eIf, ePart, eNoPart, eYes, eChain, eChain3, oI, oI0, oLt, oLe, oGt, oGe, oNeg, oSub, oMod, oMul, oDivW, eXp, eXa, eConsX, eCallX, eCallN, eLstX, eCBX, sDropX, sRetX, sAsgX, sRaise, sRaiseF, List.set_cons_zero, List.set_cons_succ, List.getElem?_cons_zero, List.getElem?_cons_succ, truD_bl]); (try simp only [if_true, Bool.false_eq_true, if_false, decide_true, decide_false, Bool.not_true, Bool.not_false, List.length_cons, List.length_nil, sizeLine_eq, Nat.reduceAdd, Nat.reduceLeDiff, true_and, and_true, pw6, pw10, pw11, pw12, pw13, pw30, pw40, pw60]); (try dsimp only [sAsg, sIf, sRet, sRetN, sDrop, sNext, asg, setAll, eT, eOp, eUn, eLst, eTup, eCons, eNil, eVar, eC, eCall, eCB, eNot, eAnd, eOr, eTru, eAndT, eOrT, eNotT, eIf, ePart, eNoPart, eYes, eChain, eChain3, oI, oI0, oLt, oLe, oGt, oGe, oNeg, oSub, oMod, oMul, oDivW, eXp, eXa, eConsX, eCallX, eCallN, eLstX, eCBX, sDropX, sRetX, sAsgX, sRaise, sRaiseF, List.set_cons_zero, List.set_cons_succ, List.getElem?_cons_zero, List.getElem?_cons_succ, truD_bl])
                exact finX_id (bad fun h => c2 h.2)
            · rw [decide_eq_false c1]
              (try dsimp only [sAsg, sIf, sRet, sRetN, sDrop, sNext, asg, setAll, eT, eOp, eUn, eLst, eTup, eCons, eNil, eVar, eC, eCall, eCB, eNot, eAnd, eOr, eTru, eAndT, eOrT, eNotT, eIf, ePart, eNoPart, eYes, eChain, eChain3, oI, oI0, oLt, oLe, oGt, oGe, oNeg, oSub, oMod, oMul, oDivW, eXp, eXa, eConsX, eCallX, eCallN, eLstX, eCBX, sDropX, sRetX, sAsgX, sRaise, sRaiseF, List.set_cons_zero, List.set_cons_succ, List.getElem?_cons_zero, List.getElem?_cons_succ, truD_bl]); (try simp only [if_true, Bool.false_eq_true, if_false, decide_true, decide_false, Bool.not_true, Bool.not_false, List.length_cons, List.length_nil, sizeLine_eq, Nat.reduceAdd, Nat.reduceLeDiff, true_and, and_true, pw6, pw10, pw11, pw12, pw13, pw30, pw40, pw60]); (try dsimp only [sAsg, sIf, sRet, sRetN, sDrop, sNext, asg, setAll, eT, eOp, eUn, eLst, eTup, eCons, eNil, eVar, eC, eCall, eCB, eNot, eAnd, eOr, eTru, eAndT, eOrT, eNotT, eIf, ePart, eNoPart, eYes, eChain, eChain3, oI, oI0, oLt, oLe, oGt, oGe, oNeg, oSub, oMod, oMul, oDivW, eXp, eXa, eConsX, eCallX, eCallN, eLstX, eCBX, sDropX, sRetX, sAsgX, sRaise, sRaiseF, List.set_cons_zero, List.set_cons_succ, List.getElem?_cons_zero, List.getElem?_cons_succ, truD_bl])
              exact finX_id (bad fun h => c1 h.1)
        | _ =>
          (try dsimp only [sAsg, sIf, sRet, sRetN, sDrop, sNext, asg, setAll, eT, eOp, eUn, eLst, eTup, eCons, eNil, eVar, eC, eCall, eCB, eNot, eAnd, eOr, eTru, eAndT, eOrT, eNotT, eIf, ePart, eNoPart, eYes, eChain, eChain3, oI, oI0, oLt, oLe, oGt, oGe, oNeg, oSub, oMod, oMul, oDivW, eXp, eXa, eConsX, eCallX, eCallN, eLstX, eCBX, sDropX, sRetX, sAsgX, sRaise, sRaiseF, List.set_cons_zero, List.set_cons_succ, List.getElem?_cons_zero, List.getElem?_cons_succ, truD_bl, isL]); (try simp only [if_true, Bool.false_eq_true, if_false, decide_true, decide_false, Bool.not_true, Bool.not_false, List.length_cons, List.length_nil, sizeLine_eq, Nat.reduceAdd, Nat.reduceLeDiff, true_and, and_true, pw6, pw10, pw11, pw12, pw13, pw30, pw40, pw60, isL]); (try dsimp only [sAsg, sIf, sRet, sRetN, sDrop, sNext, asg, setAll, eT, eOp, eUn, eLst, eTup, eCons, eNil, eVar, eC, eCall, eCB, eNot, eAnd, eOr, eTru, eAndT, eOrT, eNotT, eIf, ePart, eNoPart, eYes, eChain, eChain3, oI, oI0, oLt, oLe, oGt, oGe, oNeg, oSub, oMod, oMul, oDivW, eXp, eXa, eConsX, eCallX, eCallN, eLstX, eCBX, sDropX, sRetX, sAsgX, sRaise, sRaiseF, List.set_cons_zero, List.set_cons_succ, List.getElem?_cons_zero, List.getElem?_cons_succ, truD_bl, isL])
          exact finX_id (u none rfl)
    · refine len_tup (ne_ii ?_)
      rw [decide_eq_false (by omega)]
      (try dsimp only [sAsg, sIf, sRet, sRetN, sDrop, sNext, asg, setAll, eT, eOp, eUn, eLst, eTup, eCons, eNil, eVar, eC, eCall, eCB, eNot, eAnd, eOr, eTru, eAndT, eOrT, eNotT, eIf, ePart, eNoPart, eYes, eChain, eChain3, oI, oI0, oLt, oLe, oGt, oGe, oNeg, oSub, oMod, oMul, oDivW, eXp, eXa, eConsX, eCallX, eCallN, eLstX, eCBX, sDropX, sRetX, sAsgX, sRaise, sRaiseF, List.set_cons_zero, List.set_cons_succ, List.getElem?_cons_zero, List.getElem?_cons_succ, truD_bl]); (try simp only [if_true, Bool.false_eq_true, if_false, decide_true, decide_false, Bool.not_true, Bool.not_false, List.length_cons, List.length_nil, sizeLine_eq, Nat.reduceAdd, Nat.reduceLeDiff, true_and, and_true, pw6, pw10, pw11, pw12, pw13, pw30, pw40, pw60]); (try dsimp only [sAsg, sIf, sRet, sRetN, sDrop, sNext, asg, setAll, eT, eOp, eUn, eLst, eTup, eCons, eNil, eVar, eC, eCall, eCB, eNot, eAnd, eOr, eTru, eAndT, eOrT, eNotT, eIf, ePart, eNoPart, eYes, eChain, eChain3, oI, oI0, oLt, oLe, oGt, oGe, oNeg, oSub, oMod, oMul, oDivW, eXp, eXa, eConsX, eCallX, eCallN, eLstX, eCBX, sDropX, sRetX, sAsgX, sRaise, sRaiseF, List.set_cons_zero, List.set_cons_succ, List.getElem?_cons_zero, List.getElem?_cons_succ, truD_bl])
      refine finX_id (u none ?_)
      match es, l2 with
      | [], _ => rfl
      | [_], _ => rfl
      | [_, _], h => exact absurd rfl h
      | _ :: b :: _ :: _, _ => cases b <;> rfl
  | _ =>
    (try dsimp only [sAsg, sIf, sRet, sRetN, sDrop, sNext, asg, setAll, eT, eOp, eUn, eLst, eTup, eCons, eNil, eVar, eC, eCall, eCB, eNot, eAnd, eOr, eTru, eAndT, eOrT, eNotT, eIf, ePart, eNoPart, eYes, eChain, eChain3, oI, oI0, oLt, oLe, oGt, oGe, oNeg, oSub, oMod, oMul, oDivW, eXp, eXa, eConsX, eCallX, eCallN, eLstX, eCBX, sDropX, sRetX, sAsgX, sRaise, sRaiseF, List.set_cons_zero, List.set_cons_succ, List.getElem?_cons_zero, List.getElem?_cons_succ, truD_bl, isT]); (try simp only [if_true, Bool.false_eq_true, if_false, decide_true, decide_false, Bool.not_true, Bool.not_false, List.length_cons, List.length_nil, sizeLine_eq, Nat.reduceAdd, Nat.reduceLeDiff, true_and, and_true, pw6, pw10, pw11, pw12, pw13, pw30, pw40, pw60, isT]); (try dsimp only [sAsg, sIf, sRet, sRetN, sDrop, sNext, asg, setAll, eT, eOp, eUn, eLst, eTup, eCons, eNil, eVar, eC, eCall, eCB, eNot, eAnd, eOr, eTru, eAndT, eOrT, eNotT, eIf, ePart, eNoPart, eYes, eChain, eChain3, oI, oI0, oLt, oLe, oGt, oGe, oNeg, oSub, oMod, oMul, oDivW, eXp, eXa, eConsX, eCallX, eCallN, eLstX, eCBX, sDropX, sRetX, sAsgX, sRaise, sRaiseF, List.set_cons_zero, List.set_cons_succ, List.getElem?_cons_zero, List.getElem?_cons_succ, truD_bl, isT])
    exact finX_id (u none rfl)
theorem caught53 {d : D} {r : Option Nat} {N : En} {G : Gp} (q : N.rt (.bl true) G) (a dd : Addr) :
    suite53 a dd ⟨Str.ofString "NoRing", some (Str.ofString "number", numD r)⟩ (behind 2 N) ([some d, some (numD r), none].set 2 (some (excD a dd ⟨Str.ofString "NoRing", some (Str.ofString "number", numD r)⟩))) G := by
  have i1 : isSub (Str.ofString "NoRing") (Str.ofString "NoRing") = true := by decide +kernel
  have i2 : (([Str.ofString "Crowded", Str.ofString "NoBenches", Str.ofString "NoBook", Str.ofString "NoRow", Str.ofString "NoStretch", Str.ofString "NoText"] : List Str).any fun c => isSub (Str.ofString "NoRing") c) = false := by decide +kernel
  have i3 : (([Str.ofString "NoTree", Str.ofString "NoTurn", Str.ofString "NoUndo", Str.ofString "TooMany", Str.ofString "Unknown"] : List Str).any fun c => isSub (Str.ofString "NoRing") c) = false := by decide +kernel
  have kb : kitB "int" "bool" = some false := by decide +kernel
  have kn : kitB "NoneType" "bool" = some false := by decide +kernel
  unfold suite53
  (try dsimp only [sAsg, sIf, sRet, sRetN, sDrop, sNext, asg, setAll, eT, eOp, eUn, eLst, eTup, eCons, eNil, eVar, eC, eCall, eCB, eNot, eAnd, eOr, eTru, eAndT, eOrT, eNotT, eIf, ePart, eNoPart, eYes, eChain, eChain3, oI, oI0, oLt, oLe, oGt, oGe, oNeg, oSub, oMod, oMul, oDivW, eXp, eXa, eConsX, eCallX, eCallN, eLstX, eCBX, sDropX, sRetX, sAsgX, sRaise, sRaiseF, List.set_cons_zero, List.set_cons_succ, List.getElem?_cons_zero, List.getElem?_cons_succ, truD_bl, i1]); (try simp only [if_true, Bool.false_eq_true, if_false, decide_true, decide_false, Bool.not_true, Bool.not_false, List.length_cons, List.length_nil, sizeLine_eq, Nat.reduceAdd, Nat.reduceLeDiff, true_and, and_true, pw6, pw10, pw11, pw12, pw13, pw30, pw40, pw60, i1]); (try dsimp only [sAsg, sIf, sRet, sRetN, sDrop, sNext, asg, setAll, eT, eOp, eUn, eLst, eTup, eCons, eNil, eVar, eC, eCall, eCB, eNot, eAnd, eOr, eTru, eAndT, eOrT, eNotT, eIf, ePart, eNoPart, eYes, eChain, eChain3, oI, oI0, oLt, oLe, oGt, oGe, oNeg, oSub, oMod, oMul, oDivW, eXp, eXa, eConsX, eCallX, eCallN, eLstX, eCBX, sDropX, sRetX, sAsgX, sRaise, sRaiseF, List.set_cons_zero, List.set_cons_succ, List.getElem?_cons_zero, List.getElem?_cons_succ, truD_bl, i1])
  refine seq_gen fun W hW => ?_
  (try dsimp only [sAsg, sIf, sRet, sRetN, sDrop, sNext, asg, setAll, eT, eOp, eUn, eLst, eTup, eCons, eNil, eVar, eC, eCall, eCB, eNot, eAnd, eOr, eTru, eAndT, eOrT, eNotT, eIf, ePart, eNoPart, eYes, eChain, eChain3, oI, oI0, oLt, oLe, oGt, oGe, oNeg, oSub, oMod, oMul, oDivW, eXp, eXa, eConsX, eCallX, eCallN, eLstX, eCBX, sDropX, sRetX, sAsgX, sRaise, sRaiseF, List.set_cons_zero, List.set_cons_succ, List.getElem?_cons_zero, List.getElem?_cons_succ, truD_bl, eIsE, excD, dOf]); (try simp only [if_true, Bool.false_eq_true, if_false, decide_true, decide_false, Bool.not_true, Bool.not_false, List.length_cons, List.length_nil, sizeLine_eq, Nat.reduceAdd, Nat.reduceLeDiff, true_and, and_true, pw6, pw10, pw11, pw12, pw13, pw30, pw40, pw60, eIsE, excD, dOf]); (try dsimp only [sAsg, sIf, sRet, sRetN, sDrop, sNext, asg, setAll, eT, eOp, eUn, eLst, eTup, eCons, eNil, eVar, eC, eCall, eCB, eNot, eAnd, eOr, eTru, eAndT, eOrT, eNotT, eIf, ePart, eNoPart, eYes, eChain, eChain3, oI, oI0, oLt, oLe, oGt, oGe, oNeg, oSub, oMod, oMul, oDivW, eXp, eXa, eConsX, eCallX, eCallN, eLstX, eCBX, sDropX, sRetX, sAsgX, sRaise, sRaiseF, List.set_cons_zero, List.set_cons_succ, List.getElem?_cons_zero, List.getElem?_cons_succ, truD_bl, eIsE, excD, dOf])
  refine hW _ _ ?_
  refine seq_gen fun W2 hW2 => ?_
  (try dsimp only [sAsg, sIf, sRet, sRetN, sDrop, sNext, asg, setAll, eT, eOp, eUn, eLst, eTup, eCons, eNil, eVar, eC, eCall, eCB, eNot, eAnd, eOr, eTru, eAndT, eOrT, eNotT, eIf, ePart, eNoPart, eYes, eChain, eChain3, oI, oI0, oLt, oLe, oGt, oGe, oNeg, oSub, oMod, oMul, oDivW, eXp, eXa, eConsX, eCallX, eCallN, eLstX, eCBX, sDropX, sRetX, sAsgX, sRaise, sRaiseF, List.set_cons_zero, List.set_cons_succ, List.getElem?_cons_zero, List.getElem?_cons_succ, truD_bl, eIsE, excD, dOf]); (try simp only [if_true, Bool.false_eq_true, if_false, decide_true, decide_false, Bool.not_true, Bool.not_false, List.length_cons, List.length_nil, sizeLine_eq, Nat.reduceAdd, Nat.reduceLeDiff, true_and, and_true, pw6, pw10, pw11, pw12, pw13, pw30, pw40, pw60, eIsE, excD, dOf]); (try dsimp only [sAsg, sIf, sRet, sRetN, sDrop, sNext, asg, setAll, eT, eOp, eUn, eLst, eTup, eCons, eNil, eVar, eC, eCall, eCB, eNot, eAnd, eOr, eTru, eAndT, eOrT, eNotT, eIf, ePart, eNoPart, eYes, eChain, eChain3, oI, oI0, oLt, oLe, oGt, oGe, oNeg, oSub, oMod, oMul, oDivW, eXp, eXa, eConsX, eCallX, eCallN, eLstX, eCBX, sDropX, sRetX, sAsgX, sRaise, sRaiseF, List.set_cons_zero, List.set_cons_succ, List.getElem?_cons_zero, List.getElem?_cons_succ, truD_bl, eIsE, excD, dOf])
  rw [i2]
  (try dsimp only [sAsg, sIf, sRet, sRetN, sDrop, sNext, asg, setAll, eT, eOp, eUn, eLst, eTup, eCons, eNil, eVar, eC, eCall, eCB, eNot, eAnd, eOr, eTru, eAndT, eOrT, eNotT, eIf, ePart, eNoPart, eYes, eChain, eChain3, oI, oI0, oLt, oLe, oGt, oGe, oNeg, oSub, oMod, oMul, oDivW, eXp, eXa, eConsX, eCallX, eCallN, eLstX, eCBX, sDropX, sRetX, sAsgX, sRaise, sRaiseF, List.set_cons_zero, List.set_cons_succ, List.getElem?_cons_zero, List.getElem?_cons_succ, truD_bl]); (try simp only [if_true, Bool.false_eq_true, if_false, decide_true, decide_false, Bool.not_true, Bool.not_false, List.length_cons, List.length_nil, sizeLine_eq, Nat.reduceAdd, Nat.reduceLeDiff, true_and, and_true, pw6, pw10, pw11, pw12, pw13, pw30, pw40, pw60]); (try dsimp only [sAsg, sIf, sRet, sRetN, sDrop, sNext, asg, setAll, eT, eOp, eUn, eLst, eTup, eCons, eNil, eVar, eC, eCall, eCB, eNot, eAnd, eOr, eTru, eAndT, eOrT, eNotT, eIf, ePart, eNoPart, eYes, eChain, eChain3, oI, oI0, oLt, oLe, oGt, oGe, oNeg, oSub, oMod, oMul, oDivW, eXp, eXa, eConsX, eCallX, eCallN, eLstX, eCBX, sDropX, sRetX, sAsgX, sRaise, sRaiseF, List.set_cons_zero, List.set_cons_succ, List.getElem?_cons_zero, List.getElem?_cons_succ, truD_bl])
  refine hW2 _ _ ?_
  refine seq_gen fun W3 hW3 => ?_
  (try dsimp only [sAsg, sIf, sRet, sRetN, sDrop, sNext, asg, setAll, eT, eOp, eUn, eLst, eTup, eCons, eNil, eVar, eC, eCall, eCB, eNot, eAnd, eOr, eTru, eAndT, eOrT, eNotT, eIf, ePart, eNoPart, eYes, eChain, eChain3, oI, oI0, oLt, oLe, oGt, oGe, oNeg, oSub, oMod, oMul, oDivW, eXp, eXa, eConsX, eCallX, eCallN, eLstX, eCBX, sDropX, sRetX, sAsgX, sRaise, sRaiseF, List.set_cons_zero, List.set_cons_succ, List.getElem?_cons_zero, List.getElem?_cons_succ, truD_bl, eIsE, excD, dOf]); (try simp only [if_true, Bool.false_eq_true, if_false, decide_true, decide_false, Bool.not_true, Bool.not_false, List.length_cons, List.length_nil, sizeLine_eq, Nat.reduceAdd, Nat.reduceLeDiff, true_and, and_true, pw6, pw10, pw11, pw12, pw13, pw30, pw40, pw60, eIsE, excD, dOf]); (try dsimp only [sAsg, sIf, sRet, sRetN, sDrop, sNext, asg, setAll, eT, eOp, eUn, eLst, eTup, eCons, eNil, eVar, eC, eCall, eCB, eNot, eAnd, eOr, eTru, eAndT, eOrT, eNotT, eIf, ePart, eNoPart, eYes, eChain, eChain3, oI, oI0, oLt, oLe, oGt, oGe, oNeg, oSub, oMod, oMul, oDivW, eXp, eXa, eConsX, eCallX, eCallN, eLstX, eCBX, sDropX, sRetX, sAsgX, sRaise, sRaiseF, List.set_cons_zero, List.set_cons_succ, List.getElem?_cons_zero, List.getElem?_cons_succ, truD_bl, eIsE, excD, dOf])
  rw [i3]
  (try dsimp only [sAsg, sIf, sRet, sRetN, sDrop, sNext, asg, setAll, eT, eOp, eUn, eLst, eTup, eCons, eNil, eVar, eC, eCall, eCB, eNot, eAnd, eOr, eTru, eAndT, eOrT, eNotT, eIf, ePart, eNoPart, eYes, eChain, eChain3, oI, oI0, oLt, oLe, oGt, oGe, oNeg, oSub, oMod, oMul, oDivW, eXp, eXa, eConsX, eCallX, eCallN, eLstX, eCBX, sDropX, sRetX, sAsgX, sRaise, sRaiseF, List.set_cons_zero, List.set_cons_succ, List.getElem?_cons_zero, List.getElem?_cons_succ, truD_bl]); (try simp only [if_true, Bool.false_eq_true, if_false, decide_true, decide_false, Bool.not_true, Bool.not_false, List.length_cons, List.length_nil, sizeLine_eq, Nat.reduceAdd, Nat.reduceLeDiff, true_and, and_true, pw6, pw10, pw11, pw12, pw13, pw30, pw40, pw60]); (try dsimp only [sAsg, sIf, sRet, sRetN, sDrop, sNext, asg, setAll, eT, eOp, eUn, eLst, eTup, eCons, eNil, eVar, eC, eCall, eCB, eNot, eAnd, eOr, eTru, eAndT, eOrT, eNotT, eIf, ePart, eNoPart, eYes, eChain, eChain3, oI, oI0, oLt, oLe, oGt, oGe, oNeg, oSub, oMod, oMul, oDivW, eXp, eXa, eConsX, eCallX, eCallN, eLstX, eCBX, sDropX, sRetX, sAsgX, sRaise, sRaiseF, List.set_cons_zero, List.set_cons_succ, List.getElem?_cons_zero, List.getElem?_cons_succ, truD_bl])
  refine hW3 _ _ ?_
  refine seq_gen fun W4 hW4 => ?_
  cases r with
  | none =>
    (try dsimp only [sAsg, sIf, sRet, sRetN, sDrop, sNext, asg, setAll, eT, eOp, eUn, eLst, eTup, eCons, eNil, eVar, eC, eCall, eCB, eNot, eAnd, eOr, eTru, eAndT, eOrT, eNotT, eIf, ePart, eNoPart, eYes, eChain, eChain3, oI, oI0, oLt, oLe, oGt, oGe, oNeg, oSub, oMod, oMul, oDivW, eXp, eXa, eConsX, eCallX, eCallN, eLstX, eCBX, sDropX, sRetX, sAsgX, sRaise, sRaiseF, List.set_cons_zero, List.set_cons_succ, List.getElem?_cons_zero, List.getElem?_cons_succ, truD_bl, eXf, excD, dOf, numD]); (try simp only [if_true, Bool.false_eq_true, if_false, decide_true, decide_false, Bool.not_true, Bool.not_false, List.length_cons, List.length_nil, sizeLine_eq, Nat.reduceAdd, Nat.reduceLeDiff, true_and, and_true, pw6, pw10, pw11, pw12, pw13, pw30, pw40, pw60, eXf, excD, dOf, numD]); (try dsimp only [sAsg, sIf, sRet, sRetN, sDrop, sNext, asg, setAll, eT, eOp, eUn, eLst, eTup, eCons, eNil, eVar, eC, eCall, eCB, eNot, eAnd, eOr, eTru, eAndT, eOrT, eNotT, eIf, ePart, eNoPart, eYes, eChain, eChain3, oI, oI0, oLt, oLe, oGt, oGe, oNeg, oSub, oMod, oMul, oDivW, eXp, eXa, eConsX, eCallX, eCallN, eLstX, eCBX, sDropX, sRetX, sAsgX, sRaise, sRaiseF, List.set_cons_zero, List.set_cons_succ, List.getElem?_cons_zero, List.getElem?_cons_succ, truD_bl, eXf, excD, dOf, numD])
    refine eq_self5 (u := .none) (n := 0) shp_none (by simp) (by simp) ?_
    (try dsimp only [sAsg, sIf, sRet, sRetN, sDrop, sNext, asg, setAll, eT, eOp, eUn, eLst, eTup, eCons, eNil, eVar, eC, eCall, eCB, eNot, eAnd, eOr, eTru, eAndT, eOrT, eNotT, eIf, ePart, eNoPart, eYes, eChain, eChain3, oI, oI0, oLt, oLe, oGt, oGe, oNeg, oSub, oMod, oMul, oDivW, eXp, eXa, eConsX, eCallX, eCallN, eLstX, eCBX, sDropX, sRetX, sAsgX, sRaise, sRaiseF, List.set_cons_zero, List.set_cons_succ, List.getElem?_cons_zero, List.getElem?_cons_succ, truD_bl]); (try simp only [if_true, Bool.false_eq_true, if_false, decide_true, decide_false, Bool.not_true, Bool.not_false, List.length_cons, List.length_nil, sizeLine_eq, Nat.reduceAdd, Nat.reduceLeDiff, true_and, and_true, pw6, pw10, pw11, pw12, pw13, pw30, pw40, pw60]); (try dsimp only [sAsg, sIf, sRet, sRetN, sDrop, sNext, asg, setAll, eT, eOp, eUn, eLst, eTup, eCons, eNil, eVar, eC, eCall, eCB, eNot, eAnd, eOr, eTru, eAndT, eOrT, eNotT, eIf, ePart, eNoPart, eYes, eChain, eChain3, oI, oI0, oLt, oLe, oGt, oGe, oNeg, oSub, oMod, oMul, oDivW, eXp, eXa, eConsX, eCallX, eCallN, eLstX, eCBX, sDropX, sRetX, sAsgX, sRaise, sRaiseF, List.set_cons_zero, List.set_cons_succ, List.getElem?_cons_zero, List.getElem?_cons_succ, truD_bl])
    refine hW4 _ _ ?_
    (try dsimp only [sAsg, sIf, sRet, sRetN, sDrop, sNext, asg, setAll, eT, eOp, eUn, eLst, eTup, eCons, eNil, eVar, eC, eCall, eCB, eNot, eAnd, eOr, eTru, eAndT, eOrT, eNotT, eIf, ePart, eNoPart, eYes, eChain, eChain3, oI, oI0, oLt, oLe, oGt, oGe, oNeg, oSub, oMod, oMul, oDivW, eXp, eXa, eConsX, eCallX, eCallN, eLstX, eCBX, sDropX, sRetX, sAsgX, sRaise, sRaiseF, List.set_cons_zero, List.set_cons_succ, List.getElem?_cons_zero, List.getElem?_cons_succ, truD_bl, eXf, excD, dOf, numD, oIsN]); (try simp only [if_true, Bool.false_eq_true, if_false, decide_true, decide_false, Bool.not_true, Bool.not_false, List.length_cons, List.length_nil, sizeLine_eq, Nat.reduceAdd, Nat.reduceLeDiff, true_and, and_true, pw6, pw10, pw11, pw12, pw13, pw30, pw40, pw60, eXf, excD, dOf, numD, oIsN]); (try dsimp only [sAsg, sIf, sRet, sRetN, sDrop, sNext, asg, setAll, eT, eOp, eUn, eLst, eTup, eCons, eNil, eVar, eC, eCall, eCB, eNot, eAnd, eOr, eTru, eAndT, eOrT, eNotT, eIf, ePart, eNoPart, eYes, eChain, eChain3, oI, oI0, oLt, oLe, oGt, oGe, oNeg, oSub, oMod, oMul, oDivW, eXp, eXa, eConsX, eCallX, eCallN, eLstX, eCBX, sDropX, sRetX, sAsgX, sRaise, sRaiseF, List.set_cons_zero, List.set_cons_succ, List.getElem?_cons_zero, List.getElem?_cons_succ, truD_bl, eXf, excD, dOf, numD, oIsN])
    refine eq_bb5 ?_
    (try dsimp only [sAsg, sIf, sRet, sRetN, sDrop, sNext, asg, setAll, eT, eOp, eUn, eLst, eTup, eCons, eNil, eVar, eC, eCall, eCB, eNot, eAnd, eOr, eTru, eAndT, eOrT, eNotT, eIf, ePart, eNoPart, eYes, eChain, eChain3, oI, oI0, oLt, oLe, oGt, oGe, oNeg, oSub, oMod, oMul, oDivW, eXp, eXa, eConsX, eCallX, eCallN, eLstX, eCBX, sDropX, sRetX, sAsgX, sRaise, sRaiseF, List.set_cons_zero, List.set_cons_succ, List.getElem?_cons_zero, List.getElem?_cons_succ, truD_bl, tyD, kn, kb, Option.bind_some, behind]); (try simp only [if_true, Bool.false_eq_true, if_false, decide_true, decide_false, Bool.not_true, Bool.not_false, List.length_cons, List.length_nil, sizeLine_eq, Nat.reduceAdd, Nat.reduceLeDiff, true_and, and_true, pw6, pw10, pw11, pw12, pw13, pw30, pw40, pw60, tyD, kn, kb, Option.bind_some, behind]); (try dsimp only [sAsg, sIf, sRet, sRetN, sDrop, sNext, asg, setAll, eT, eOp, eUn, eLst, eTup, eCons, eNil, eVar, eC, eCall, eCB, eNot, eAnd, eOr, eTru, eAndT, eOrT, eNotT, eIf, ePart, eNoPart, eYes, eChain, eChain3, oI, oI0, oLt, oLe, oGt, oGe, oNeg, oSub, oMod, oMul, oDivW, eXp, eXa, eConsX, eCallX, eCallN, eLstX, eCBX, sDropX, sRetX, sAsgX, sRaise, sRaiseF, List.set_cons_zero, List.set_cons_succ, List.getElem?_cons_zero, List.getElem?_cons_succ, truD_bl, tyD, kn, kb, Option.bind_some, behind])
    exact q
  | some k =>
    (try dsimp only [sAsg, sIf, sRet, sRetN, sDrop, sNext, asg, setAll, eT, eOp, eUn, eLst, eTup, eCons, eNil, eVar, eC, eCall, eCB, eNot, eAnd, eOr, eTru, eAndT, eOrT, eNotT, eIf, ePart, eNoPart, eYes, eChain, eChain3, oI, oI0, oLt, oLe, oGt, oGe, oNeg, oSub, oMod, oMul, oDivW, eXp, eXa, eConsX, eCallX, eCallN, eLstX, eCBX, sDropX, sRetX, sAsgX, sRaise, sRaiseF, List.set_cons_zero, List.set_cons_succ, List.getElem?_cons_zero, List.getElem?_cons_succ, truD_bl, eXf, excD, dOf, numD]); (try simp only [if_true, Bool.false_eq_true, if_false, decide_true, decide_false, Bool.not_true, Bool.not_false, List.length_cons, List.length_nil, sizeLine_eq, Nat.reduceAdd, Nat.reduceLeDiff, true_and, and_true, pw6, pw10, pw11, pw12, pw13, pw30, pw40, pw60, eXf, excD, dOf, numD]); (try dsimp only [sAsg, sIf, sRet, sRetN, sDrop, sNext, asg, setAll, eT, eOp, eUn, eLst, eTup, eCons, eNil, eVar, eC, eCall, eCB, eNot, eAnd, eOr, eTru, eAndT, eOrT, eNotT, eIf, ePart, eNoPart, eYes, eChain, eChain3, oI, oI0, oLt, oLe, oGt, oGe, oNeg, oSub, oMod, oMul, oDivW, eXp, eXa, eConsX, eCallX, eCallN, eLstX, eCBX, sDropX, sRetX, sAsgX, sRaise, sRaiseF, List.set_cons_zero, List.set_cons_succ, List.getElem?_cons_zero, List.getElem?_cons_succ, truD_bl, eXf, excD, dOf, numD])
    refine eq_ii ?_
    rw [decide_eq_true rfl]
    (try dsimp only [sAsg, sIf, sRet, sRetN, sDrop, sNext, asg, setAll, eT, eOp, eUn, eLst, eTup, eCons, eNil, eVar, eC, eCall, eCB, eNot, eAnd, eOr, eTru, eAndT, eOrT, eNotT, eIf, ePart, eNoPart, eYes, eChain, eChain3, oI, oI0, oLt, oLe, oGt, oGe, oNeg, oSub, oMod, oMul, oDivW, eXp, eXa, eConsX, eCallX, eCallN, eLstX, eCBX, sDropX, sRetX, sAsgX, sRaise, sRaiseF, List.set_cons_zero, List.set_cons_succ, List.getElem?_cons_zero, List.getElem?_cons_succ, truD_bl]); (try simp only [if_true, Bool.false_eq_true, if_false, decide_true, decide_false, Bool.not_true, Bool.not_false, List.length_cons, List.length_nil, sizeLine_eq, Nat.reduceAdd, Nat.reduceLeDiff, true_and, and_true, pw6, pw10, pw11, pw12, pw13, pw30, pw40, pw60]); (try dsimp only [sAsg, sIf, sRet, sRetN, sDrop, sNext, asg, setAll, eT, eOp, eUn, eLst, eTup, eCons, eNil, eVar, eC, eCall, eCB, eNot, eAnd, eOr, eTru, eAndT, eOrT, eNotT, eIf, ePart, eNoPart, eYes, eChain, eChain3, oI, oI0, oLt, oLe, oGt, oGe, oNeg, oSub, oMod, oMul, oDivW, eXp, eXa, eConsX, eCallX, eCallN, eLstX, eCBX, sDropX, sRetX, sAsgX, sRaise, sRaiseF, List.set_cons_zero, List.set_cons_succ, List.getElem?_cons_zero, List.getElem?_cons_succ, truD_bl])
    refine hW4 _ _ ?_
    (try dsimp only [sAsg, sIf, sRet, sRetN, sDrop, sNext, asg, setAll, eT, eOp, eUn, eLst, eTup, eCons, eNil, eVar, eC, eCall, eCB, eNot, eAnd, eOr, eTru, eAndT, eOrT, eNotT, eIf, ePart, eNoPart, eYes, eChain, eChain3, oI, oI0, oLt, oLe, oGt, oGe, oNeg, oSub, oMod, oMul, oDivW, eXp, eXa, eConsX, eCallX, eCallN, eLstX, eCBX, sDropX, sRetX, sAsgX, sRaise, sRaiseF, List.set_cons_zero, List.set_cons_succ, List.getElem?_cons_zero, List.getElem?_cons_succ, truD_bl, eXf, excD, dOf, numD, oIsN]); (try simp only [if_true, Bool.false_eq_true, if_false, decide_true, decide_false, Bool.not_true, Bool.not_false, List.length_cons, List.length_nil, sizeLine_eq, Nat.reduceAdd, Nat.reduceLeDiff, true_and, and_true, pw6, pw10, pw11, pw12, pw13, pw30, pw40, pw60, eXf, excD, dOf, numD, oIsN]); (try dsimp only [sAsg, sIf, sRet, sRetN, sDrop, sNext, asg, setAll, eT, eOp, eUn, eLst, eTup, eCons, eNil, eVar, eC, eCall, eCB, eNot, eAnd, eOr, eTru, eAndT, eOrT, eNotT, eIf, ePart, eNoPart, eYes, eChain, eChain3, oI, oI0, oLt, oLe, oGt, oGe, oNeg, oSub, oMod, oMul, oDivW, eXp, eXa, eConsX, eCallX, eCallN, eLstX, eCBX, sDropX, sRetX, sAsgX, sRaise, sRaiseF, List.set_cons_zero, List.set_cons_succ, List.getElem?_cons_zero, List.getElem?_cons_succ, truD_bl, eXf, excD, dOf, numD, oIsN])
    refine eq_bb5 ?_
    (try dsimp only [sAsg, sIf, sRet, sRetN, sDrop, sNext, asg, setAll, eT, eOp, eUn, eLst, eTup, eCons, eNil, eVar, eC, eCall, eCB, eNot, eAnd, eOr, eTru, eAndT, eOrT, eNotT, eIf, ePart, eNoPart, eYes, eChain, eChain3, oI, oI0, oLt, oLe, oGt, oGe, oNeg, oSub, oMod, oMul, oDivW, eXp, eXa, eConsX, eCallX, eCallN, eLstX, eCBX, sDropX, sRetX, sAsgX, sRaise, sRaiseF, List.set_cons_zero, List.set_cons_succ, List.getElem?_cons_zero, List.getElem?_cons_succ, truD_bl, tyD, kn, kb, Option.bind_some, behind]); (try simp only [if_true, Bool.false_eq_true, if_false, decide_true, decide_false, Bool.not_true, Bool.not_false, List.length_cons, List.length_nil, sizeLine_eq, Nat.reduceAdd, Nat.reduceLeDiff, true_and, and_true, pw6, pw10, pw11, pw12, pw13, pw30, pw40, pw60, tyD, kn, kb, Option.bind_some, behind]); (try dsimp only [sAsg, sIf, sRet, sRetN, sDrop, sNext, asg, setAll, eT, eOp, eUn, eLst, eTup, eCons, eNil, eVar, eC, eCall, eCB, eNot, eAnd, eOr, eTru, eAndT, eOrT, eNotT, eIf, ePart, eNoPart, eYes, eChain, eChain3, oI, oI0, oLt, oLe, oGt, oGe, oNeg, oSub, oMod, oMul, oDivW, eXp, eXa, eConsX, eCallX, eCallN, eLstX, eCBX, sDropX, sRetX, sAsgX, sRaise, sRaiseF, List.set_cons_zero, List.set_cons_succ, List.getElem?_cons_zero, List.getElem?_cons_succ, truD_bl, tyD, kn, kb, Option.bind_some, behind])
    exact q
theorem d__law_refused (ds : List D) (G : Gp) (Q : DK) (h : F__law_refused ds G Q) : r__law_refused (fin G Q) (startD 3 ds) G := by
  obtain ⟨d, r, rfl, ha, hr, k⟩ := h
  have i0 : isSub (Str.ofString "NoRing") (Str.ofString "BenchError") = true := by decide +kernel
  refine seq_gen fun W hW => ?_
  unfold sTryAs
  (try dsimp only [sAsg, sIf, sRet, sRetN, sDrop, sNext, asg, setAll, eT, eOp, eUn, eLst, eTup, eCons, eNil, eVar, eC, eCall, eCB, eNot, eAnd, eOr, eTru, eAndT, eOrT, eNotT, eIf, ePart, eNoPart, eYes, eChain, eChain3, oI, oI0, oLt, oLe, oGt, oGe, oNeg, oSub, oMod, oMul, oDivW, eXp, eXa, eConsX, eCallX, eCallN, eLstX, eCBX, sDropX, sRetX, sAsgX, sRaise, sRaiseF, List.set_cons_zero, List.set_cons_succ, List.getElem?_cons_zero, List.getElem?_cons_succ, truD_bl, startD, List.map_cons, List.map_nil, List.cons_append, List.nil_append, List.replicate]); (try simp only [if_true, Bool.false_eq_true, if_false, decide_true, decide_false, Bool.not_true, Bool.not_false, List.length_cons, List.length_nil, sizeLine_eq, Nat.reduceAdd, Nat.reduceLeDiff, true_and, and_true, pw6, pw10, pw11, pw12, pw13, pw30, pw40, pw60, startD, List.map_cons, List.map_nil, List.cons_append, List.nil_append, List.replicate]); (try dsimp only [sAsg, sIf, sRet, sRetN, sDrop, sNext, asg, setAll, eT, eOp, eUn, eLst, eTup, eCons, eNil, eVar, eC, eCall, eCB, eNot, eAnd, eOr, eTru, eAndT, eOrT, eNotT, eIf, ePart, eNoPart, eYes, eChain, eChain3, oI, oI0, oLt, oLe, oGt, oGe, oNeg, oSub, oMod, oMul, oDivW, eXp, eXa, eConsX, eCallX, eCallN, eLstX, eCBX, sDropX, sRetX, sAsgX, sRaise, sRaiseF, List.set_cons_zero, List.set_cons_succ, List.getElem?_cons_zero, List.getElem?_cons_succ, truD_bl, startD, List.map_cons, List.map_nil, List.cons_append, List.nil_append, List.replicate])
  refine ⟨d, rfl, ha, fun e => ?_, fun r2 e => ⟨by simp, ?_⟩⟩
  · rw [e] at hr; cases hr
  · rw [if_pos i0]
    rw [hr] at e
    cases e
    exact caught53 (N := { fin G Q with nx := W }) (fin_id k)
def Holds (ga : Str → Addr) (L : List (Addr × Str)) (G : Gp) : Prop := ∀ p ∈ L, G p.1 = some (exG ga p.2 p.1)
theorem holds_snoc {ga : Str → Addr} {L : List (Addr × Str)} {G : Gp} {a : Addr} {c : Str} (h : Holds ga L G) (ha : G a = none) : Holds ga (L ++ [(a, c)]) (gput G a (exG ga c a)) := fun p hp => by
  rcases List.mem_append.mp hp with q | q
  · have := h p q
    rw [gput_ne (fun e => by rw [e, ha] at this; cases this)]
    exact this
  · rw [List.mem_singleton.mp q]
    exact gput_same
theorem keep_snoc {G0 G : Gp} {a : Addr} {o : GO} (h : ∀ c u, G0 c = some u → G c = some u) (ha : G a = none) : ∀ c u, G0 c = some u → gput G a o c = some u := fun c u e => by
  have := h c u e
  rw [gput_ne (fun e => by rw [e, ha] at this; cases this)]
  exact this
theorem d__law_made_by_hand (ga : Str → Addr) (ds : List D) (G : Gp) (Q : DK) (h : F__law_made_by_hand ds G Q) : r__law_made_by_hand ga (fin G Q) (startD 2 ds) G := by
  obtain ⟨rfl, k⟩ := h
  refine seq_gen fun W hW => ?_
  (try dsimp only [sAsg, sIf, sRet, sRetN, sDrop, sNext, asg, setAll, eT, eOp, eUn, eLst, eTup, eCons, eNil, eVar, eC, eCall, eCB, eNot, eAnd, eOr, eTru, eAndT, eOrT, eNotT, eIf, ePart, eNoPart, eYes, eChain, eChain3, oI, oI0, oLt, oLe, oGt, oGe, oNeg, oSub, oMod, oMul, oDivW, eXp, eXa, eConsX, eCallX, eCallN, eLstX, eCBX, sDropX, sRetX, sAsgX, sRaise, sRaiseF, List.set_cons_zero, List.set_cons_succ, List.getElem?_cons_zero, List.getElem?_cons_succ, truD_bl, startD, List.map_cons, List.map_nil, List.cons_append, List.nil_append, List.replicate]); (try simp only [if_true, Bool.false_eq_true, if_false, decide_true, decide_false, Bool.not_true, Bool.not_false, List.length_cons, List.length_nil, sizeLine_eq, Nat.reduceAdd, Nat.reduceLeDiff, true_and, and_true, pw6, pw10, pw11, pw12, pw13, pw30, pw40, pw60, startD, List.map_cons, List.map_nil, List.cons_append, List.nil_append, List.replicate]); (try dsimp only [sAsg, sIf, sRet, sRetN, sDrop, sNext, asg, setAll, eT, eOp, eUn, eLst, eTup, eCons, eNil, eVar, eC, eCall, eCB, eNot, eAnd, eOr, eTru, eAndT, eOrT, eNotT, eIf, ePart, eNoPart, eYes, eChain, eChain3, oI, oI0, oLt, oLe, oGt, oGe, oNeg, oSub, oMod, oMul, oDivW, eXp, eXa, eConsX, eCallX, eCallN, eLstX, eCBX, sDropX, sRetX, sAsgX, sRaise, sRaiseF, List.set_cons_zero, List.set_cons_succ, List.getElem?_cons_zero, List.getElem?_cons_succ, truD_bl, startD, List.map_cons, List.map_nil, List.cons_append, List.nil_append, List.replicate])
  refine ne_ii ?_
  rw [decide_eq_true rfl]
  (try dsimp only [sAsg, sIf, sRet, sRetN, sDrop, sNext, asg, setAll, eT, eOp, eUn, eLst, eTup, eCons, eNil, eVar, eC, eCall, eCB, eNot, eAnd, eOr, eTru, eAndT, eOrT, eNotT, eIf, ePart, eNoPart, eYes, eChain, eChain3, oI, oI0, oLt, oLe, oGt, oGe, oNeg, oSub, oMod, oMul, oDivW, eXp, eXa, eConsX, eCallX, eCallN, eLstX, eCBX, sDropX, sRetX, sAsgX, sRaise, sRaiseF, List.set_cons_zero, List.set_cons_succ, List.getElem?_cons_zero, List.getElem?_cons_succ, truD_bl, oNotN]); (try simp only [if_true, Bool.false_eq_true, if_false, decide_true, decide_false, Bool.not_true, Bool.not_false, List.length_cons, List.length_nil, sizeLine_eq, Nat.reduceAdd, Nat.reduceLeDiff, true_and, and_true, pw6, pw10, pw11, pw12, pw13, pw30, pw40, pw60, oNotN]); (try dsimp only [sAsg, sIf, sRet, sRetN, sDrop, sNext, asg, setAll, eT, eOp, eUn, eLst, eTup, eCons, eNil, eVar, eC, eCall, eCB, eNot, eAnd, eOr, eTru, eAndT, eOrT, eNotT, eIf, ePart, eNoPart, eYes, eChain, eChain3, oI, oI0, oLt, oLe, oGt, oGe, oNeg, oSub, oMod, oMul, oDivW, eXp, eXa, eConsX, eCallX, eCallN, eLstX, eCBX, sDropX, sRetX, sAsgX, sRaise, sRaiseF, List.set_cons_zero, List.set_cons_succ, List.getElem?_cons_zero, List.getElem?_cons_succ, truD_bl, oNotN])
  refine ne_ii ?_
  rw [decide_eq_true rfl]
  (try dsimp only [sAsg, sIf, sRet, sRetN, sDrop, sNext, asg, setAll, eT, eOp, eUn, eLst, eTup, eCons, eNil, eVar, eC, eCall, eCB, eNot, eAnd, eOr, eTru, eAndT, eOrT, eNotT, eIf, ePart, eNoPart, eYes, eChain, eChain3, oI, oI0, oLt, oLe, oGt, oGe, oNeg, oSub, oMod, oMul, oDivW, eXp, eXa, eConsX, eCallX, eCallN, eLstX, eCBX, sDropX, sRetX, sAsgX, sRaise, sRaiseF, List.set_cons_zero, List.set_cons_succ, List.getElem?_cons_zero, List.getElem?_cons_succ, truD_bl]); (try simp only [if_true, Bool.false_eq_true, if_false, decide_true, decide_false, Bool.not_true, Bool.not_false, List.length_cons, List.length_nil, sizeLine_eq, Nat.reduceAdd, Nat.reduceLeDiff, true_and, and_true, pw6, pw10, pw11, pw12, pw13, pw30, pw40, pw60]); (try dsimp only [sAsg, sIf, sRet, sRetN, sDrop, sNext, asg, setAll, eT, eOp, eUn, eLst, eTup, eCons, eNil, eVar, eC, eCall, eCB, eNot, eAnd, eOr, eTru, eAndT, eOrT, eNotT, eIf, ePart, eNoPart, eYes, eChain, eChain3, oI, oI0, oLt, oLe, oGt, oGe, oNeg, oSub, oMod, oMul, oDivW, eXp, eXa, eConsX, eCallX, eCallN, eLstX, eCBX, sDropX, sRetX, sAsgX, sRaise, sRaiseF, List.set_cons_zero, List.set_cons_succ, List.getElem?_cons_zero, List.getElem?_cons_succ, truD_bl])
  refine hW _ _ ?_
  refine seq_gen fun W2 hW2 => ?_
  (try dsimp only [sAsg, sIf, sRet, sRetN, sDrop, sNext, asg, setAll, eT, eOp, eUn, eLst, eTup, eCons, eNil, eVar, eC, eCall, eCB, eNot, eAnd, eOr, eTru, eAndT, eOrT, eNotT, eIf, ePart, eNoPart, eYes, eChain, eChain3, oI, oI0, oLt, oLe, oGt, oGe, oNeg, oSub, oMod, oMul, oDivW, eXp, eXa, eConsX, eCallX, eCallN, eLstX, eCBX, sDropX, sRetX, sAsgX, sRaise, sRaiseF, List.set_cons_zero, List.set_cons_succ, List.getElem?_cons_zero, List.getElem?_cons_succ, truD_bl]); (try simp only [if_true, Bool.false_eq_true, if_false, decide_true, decide_false, Bool.not_true, Bool.not_false, List.length_cons, List.length_nil, sizeLine_eq, Nat.reduceAdd, Nat.reduceLeDiff, true_and, and_true, pw6, pw10, pw11, pw12, pw13, pw30, pw40, pw60]); (try dsimp only [sAsg, sIf, sRet, sRetN, sDrop, sNext, asg, setAll, eT, eOp, eUn, eLst, eTup, eCons, eNil, eVar, eC, eCall, eCB, eNot, eAnd, eOr, eTru, eAndT, eOrT, eNotT, eIf, ePart, eNoPart, eYes, eChain, eChain3, oI, oI0, oLt, oLe, oGt, oGe, oNeg, oSub, oMod, oMul, oDivW, eXp, eXa, eConsX, eCallX, eCallN, eLstX, eCBX, sDropX, sRetX, sAsgX, sRaise, sRaiseF, List.set_cons_zero, List.set_cons_succ, List.getElem?_cons_zero, List.getElem?_cons_succ, truD_bl])
  refine ne_ii ?_
  rw [decide_eq_true rfl]
  (try dsimp only [sAsg, sIf, sRet, sRetN, sDrop, sNext, asg, setAll, eT, eOp, eUn, eLst, eTup, eCons, eNil, eVar, eC, eCall, eCB, eNot, eAnd, eOr, eTru, eAndT, eOrT, eNotT, eIf, ePart, eNoPart, eYes, eChain, eChain3, oI, oI0, oLt, oLe, oGt, oGe, oNeg, oSub, oMod, oMul, oDivW, eXp, eXa, eConsX, eCallX, eCallN, eLstX, eCBX, sDropX, sRetX, sAsgX, sRaise, sRaiseF, List.set_cons_zero, List.set_cons_succ, List.getElem?_cons_zero, List.getElem?_cons_succ, truD_bl]); (try simp only [if_true, Bool.false_eq_true, if_false, decide_true, decide_false, Bool.not_true, Bool.not_false, List.length_cons, List.length_nil, sizeLine_eq, Nat.reduceAdd, Nat.reduceLeDiff, true_and, and_true, pw6, pw10, pw11, pw12, pw13, pw30, pw40, pw60]); (try dsimp only [sAsg, sIf, sRet, sRetN, sDrop, sNext, asg, setAll, eT, eOp, eUn, eLst, eTup, eCons, eNil, eVar, eC, eCall, eCB, eNot, eAnd, eOr, eTru, eAndT, eOrT, eNotT, eIf, ePart, eNoPart, eYes, eChain, eChain3, oI, oI0, oLt, oLe, oGt, oGe, oNeg, oSub, oMod, oMul, oDivW, eXp, eXa, eConsX, eCallX, eCallN, eLstX, eCBX, sDropX, sRetX, sAsgX, sRaise, sRaiseF, List.set_cons_zero, List.set_cons_succ, List.getElem?_cons_zero, List.getElem?_cons_succ, truD_bl])
  refine ne_self (u := .list [.int 1, .int 0]) (n := 1) (shp_list fun x hx => by
    simp only [List.mem_cons, List.not_mem_nil, or_false] at hx
    rcases hx with rfl | rfl <;> exact shp_int _) (by simp) (by simp) ?_
  (try dsimp only [sAsg, sIf, sRet, sRetN, sDrop, sNext, asg, setAll, eT, eOp, eUn, eLst, eTup, eCons, eNil, eVar, eC, eCall, eCB, eNot, eAnd, eOr, eTru, eAndT, eOrT, eNotT, eIf, ePart, eNoPart, eYes, eChain, eChain3, oI, oI0, oLt, oLe, oGt, oGe, oNeg, oSub, oMod, oMul, oDivW, eXp, eXa, eConsX, eCallX, eCallN, eLstX, eCBX, sDropX, sRetX, sAsgX, sRaise, sRaiseF, List.set_cons_zero, List.set_cons_succ, List.getElem?_cons_zero, List.getElem?_cons_succ, truD_bl]); (try simp only [if_true, Bool.false_eq_true, if_false, decide_true, decide_false, Bool.not_true, Bool.not_false, List.length_cons, List.length_nil, sizeLine_eq, Nat.reduceAdd, Nat.reduceLeDiff, true_and, and_true, pw6, pw10, pw11, pw12, pw13, pw30, pw40, pw60]); (try dsimp only [sAsg, sIf, sRet, sRetN, sDrop, sNext, asg, setAll, eT, eOp, eUn, eLst, eTup, eCons, eNil, eVar, eC, eCall, eCB, eNot, eAnd, eOr, eTru, eAndT, eOrT, eNotT, eIf, ePart, eNoPart, eYes, eChain, eChain3, oI, oI0, oLt, oLe, oGt, oGe, oNeg, oSub, oMod, oMul, oDivW, eXp, eXa, eConsX, eCallX, eCallN, eLstX, eCBX, sDropX, sRetX, sAsgX, sRaise, sRaiseF, List.set_cons_zero, List.set_cons_succ, List.getElem?_cons_zero, List.getElem?_cons_succ, truD_bl])
  refine hW2 _ _ ?_
  refine seq_gen fun W3 hW3 => ?_
  (try dsimp only [sAsg, sIf, sRet, sRetN, sDrop, sNext, asg, setAll, eT, eOp, eUn, eLst, eTup, eCons, eNil, eVar, eC, eCall, eCB, eNot, eAnd, eOr, eTru, eAndT, eOrT, eNotT, eIf, ePart, eNoPart, eYes, eChain, eChain3, oI, oI0, oLt, oLe, oGt, oGe, oNeg, oSub, oMod, oMul, oDivW, eXp, eXa, eConsX, eCallX, eCallN, eLstX, eCBX, sDropX, sRetX, sAsgX, sRaise, sRaiseF, List.set_cons_zero, List.set_cons_succ, List.getElem?_cons_zero, List.getElem?_cons_succ, truD_bl, eMkV]); (try simp only [if_true, Bool.false_eq_true, if_false, decide_true, decide_false, Bool.not_true, Bool.not_false, List.length_cons, List.length_nil, sizeLine_eq, Nat.reduceAdd, Nat.reduceLeDiff, true_and, and_true, pw6, pw10, pw11, pw12, pw13, pw30, pw40, pw60, eMkV]); (try dsimp only [sAsg, sIf, sRet, sRetN, sDrop, sNext, asg, setAll, eT, eOp, eUn, eLst, eTup, eCons, eNil, eVar, eC, eCall, eCB, eNot, eAnd, eOr, eTru, eAndT, eOrT, eNotT, eIf, ePart, eNoPart, eYes, eChain, eChain3, oI, oI0, oLt, oLe, oGt, oGe, oNeg, oSub, oMod, oMul, oDivW, eXp, eXa, eConsX, eCallX, eCallN, eLstX, eCBX, sDropX, sRetX, sAsgX, sRaise, sRaiseF, List.set_cons_zero, List.set_cons_succ, List.getElem?_cons_zero, List.getElem?_cons_succ, truD_bl, eMkV])
  intro a1 h1
  intro a2 h2
  intro a3 h3
  intro a4 h4
  have H4 := holds_snoc (c := "NoTurn") (holds_snoc (c := "NoStretch") (holds_snoc (c := "NoRow") (holds_snoc (ga := ga) (c := "NoBenches") (L := []) (G := G) (fun p hp => by cases hp) h1) h2) h3) h4
  have k4 := keep_snoc (o := exG ga "NoTurn" a4) (keep_snoc (o := exG ga "NoStretch" a3) (keep_snoc (o := exG ga "NoRow" a2) (keep_snoc (o := exG ga "NoBenches" a1) (fun c (u : GO) (e : G c = some u) => e) h1) h2) h3) h4
  refine hW3 _ _ ?_
  clear h1 h2 h3
  generalize gput (gput (gput (gput G a1 (exG ga "NoBenches" a1)) a2 (exG ga "NoRow" a2)) a3 (exG ga "NoStretch" a3)) a4 (exG ga "NoTurn" a4) = G4 at H4 k4 ⊢
  refine seq_gen fun W4 hW4 => ?_
  (try dsimp only [sAsg, sIf, sRet, sRetN, sDrop, sNext, asg, setAll, eT, eOp, eUn, eLst, eTup, eCons, eNil, eVar, eC, eCall, eCB, eNot, eAnd, eOr, eTru, eAndT, eOrT, eNotT, eIf, ePart, eNoPart, eYes, eChain, eChain3, oI, oI0, oLt, oLe, oGt, oGe, oNeg, oSub, oMod, oMul, oDivW, eXp, eXa, eConsX, eCallX, eCallN, eLstX, eCBX, sDropX, sRetX, sAsgX, sRaise, sRaiseF, List.set_cons_zero, List.set_cons_succ, List.getElem?_cons_zero, List.getElem?_cons_succ, truD_bl, eMkV]); (try simp only [if_true, Bool.false_eq_true, if_false, decide_true, decide_false, Bool.not_true, Bool.not_false, List.length_cons, List.length_nil, sizeLine_eq, Nat.reduceAdd, Nat.reduceLeDiff, true_and, and_true, pw6, pw10, pw11, pw12, pw13, pw30, pw40, pw60, eMkV]); (try dsimp only [sAsg, sIf, sRet, sRetN, sDrop, sNext, asg, setAll, eT, eOp, eUn, eLst, eTup, eCons, eNil, eVar, eC, eCall, eCB, eNot, eAnd, eOr, eTru, eAndT, eOrT, eNotT, eIf, ePart, eNoPart, eYes, eChain, eChain3, oI, oI0, oLt, oLe, oGt, oGe, oNeg, oSub, oMod, oMul, oDivW, eXp, eXa, eConsX, eCallX, eCallN, eLstX, eCBX, sDropX, sRetX, sAsgX, sRaise, sRaiseF, List.set_cons_zero, List.set_cons_succ, List.getElem?_cons_zero, List.getElem?_cons_succ, truD_bl, eMkV])
  intro a5 h5
  intro a6 h6
  intro a7 h7
  have H7 := holds_snoc (c := "Unknown") (holds_snoc (c := "TooMany") (holds_snoc (c := "NoUndo") H4 h5) h6) h7
  have k7 := keep_snoc (o := exG ga "Unknown" a7) (keep_snoc (o := exG ga "TooMany" a6) (keep_snoc (o := exG ga "NoUndo" a5) k4 h5) h6) h7
  generalize gput (gput (gput G4 a5 (exG ga "NoUndo" a5)) a6 (exG ga "TooMany" a6)) a7 (exG ga "Unknown" a7) = G7 at H7 k7 ⊢
  refine add_ok (by simp) (hW4 _ _ ?_)
  (try dsimp only [sAsg, sIf, sRet, sRetN, sDrop, sNext, asg, setAll, eT, eOp, eUn, eLst, eTup, eCons, eNil, eVar, eC, eCall, eCB, eNot, eAnd, eOr, eTru, eAndT, eOrT, eNotT, eIf, ePart, eNoPart, eYes, eChain, eChain3, oI, oI0, oLt, oLe, oGt, oGe, oNeg, oSub, oMod, oMul, oDivW, eXp, eXa, eConsX, eCallX, eCallN, eLstX, eCBX, sDropX, sRetX, sAsgX, sRaise, sRaiseF, List.set_cons_zero, List.set_cons_succ, List.getElem?_cons_zero, List.getElem?_cons_succ, truD_bl, eLc, iL, lkL_lst]); (try simp only [if_true, Bool.false_eq_true, if_false, decide_true, decide_false, Bool.not_true, Bool.not_false, List.length_cons, List.length_nil, sizeLine_eq, Nat.reduceAdd, Nat.reduceLeDiff, true_and, and_true, pw6, pw10, pw11, pw12, pw13, pw30, pw40, pw60, eLc, iL, lkL_lst]); (try dsimp only [sAsg, sIf, sRet, sRetN, sDrop, sNext, asg, setAll, eT, eOp, eUn, eLst, eTup, eCons, eNil, eVar, eC, eCall, eCB, eNot, eAnd, eOr, eTru, eAndT, eOrT, eNotT, eIf, ePart, eNoPart, eYes, eChain, eChain3, oI, oI0, oLt, oLe, oGt, oGe, oNeg, oSub, oMod, oMul, oDivW, eXp, eXa, eConsX, eCallX, eCallN, eLstX, eCBX, sDropX, sRetX, sAsgX, sRaise, sRaiseF, List.set_cons_zero, List.set_cons_succ, List.getElem?_cons_zero, List.getElem?_cons_succ, truD_bl, eLc, iL, lkL_lst])
  refine compW_none (stays_of lkL_lst) _ (fun d hd => ⟨_, rfl, fun R r => ?_⟩) ?_
  · (try dsimp only [sAsg, sIf, sRet, sRetN, sDrop, sNext, asg, setAll, eT, eOp, eUn, eLst, eTup, eCons, eNil, eVar, eC, eCall, eCB, eNot, eAnd, eOr, eTru, eAndT, eOrT, eNotT, eIf, ePart, eNoPart, eYes, eChain, eChain3, oI, oI0, oLt, oLe, oGt, oGe, oNeg, oSub, oMod, oMul, oDivW, eXp, eXa, eConsX, eCallX, eCallN, eLstX, eCBX, sDropX, sRetX, sAsgX, sRaise, sRaiseF, List.set_cons_zero, List.set_cons_succ, List.getElem?_cons_zero, List.getElem?_cons_succ, truD_bl, wipeD, List.foldl_cons, List.foldl_nil, eIsV]); (try simp only [if_true, Bool.false_eq_true, if_false, decide_true, decide_false, Bool.not_true, Bool.not_false, List.length_cons, List.length_nil, sizeLine_eq, Nat.reduceAdd, Nat.reduceLeDiff, true_and, and_true, pw6, pw10, pw11, pw12, pw13, pw30, pw40, pw60, wipeD, List.foldl_cons, List.foldl_nil, eIsV]); (try dsimp only [sAsg, sIf, sRet, sRetN, sDrop, sNext, asg, setAll, eT, eOp, eUn, eLst, eTup, eCons, eNil, eVar, eC, eCall, eCB, eNot, eAnd, eOr, eTru, eAndT, eOrT, eNotT, eIf, ePart, eNoPart, eYes, eChain, eChain3, oI, oI0, oLt, oLe, oGt, oGe, oNeg, oSub, oMod, oMul, oDivW, eXp, eXa, eConsX, eCallX, eCallN, eLstX, eCBX, sDropX, sRetX, sAsgX, sRaise, sRaiseF, List.set_cons_zero, List.set_cons_succ, List.getElem?_cons_zero, List.getElem?_cons_succ, truD_bl, wipeD, List.foldl_cons, List.foldl_nil, eIsV])
    have : ∃ a m, d = .ref a ∧ G7 a = some (exG ga m a) ∧ m ∈ ([Str.ofString "Crowded", Str.ofString "NoBenches", Str.ofString "NoBook", Str.ofString "NoRing", Str.ofString "NoRow", Str.ofString "NoStretch", Str.ofString "NoText", Str.ofString "NoTree", Str.ofString "NoTurn", Str.ofString "NoUndo", Str.ofString "TooMany", Str.ofString "Unknown"] : List Str) := by
      have get : ∀ a m, (a, m) ∈ [(a1, Str.ofString "NoBenches"), (a2, Str.ofString "NoRow"), (a3, Str.ofString "NoStretch"), (a4, Str.ofString "NoTurn"), (a5, Str.ofString "NoUndo"), (a6, Str.ofString "TooMany"), (a7, Str.ofString "Unknown")] → G7 a = some (exG ga m a) := fun a m h => H7 (a, m) h
      simp only [List.cons_append, List.nil_append, List.mem_cons, List.not_mem_nil, or_false] at hd
      rcases hd with rfl | rfl | rfl | rfl | rfl | rfl | rfl
      · exact ⟨_, Str.ofString "NoBenches", rfl, get _ _ (.head _), by simp⟩
      · exact ⟨_, Str.ofString "NoRow", rfl, get _ _ (.tail _ (.head _)), by simp⟩
      · exact ⟨_, Str.ofString "NoStretch", rfl, get _ _ (.tail _ (.tail _ (.head _))), by simp⟩
      · exact ⟨_, Str.ofString "NoTurn", rfl, get _ _ (.tail _ (.tail _ (.tail _ (.head _)))), by simp⟩
      · exact ⟨_, Str.ofString "NoUndo", rfl, get _ _ (.tail _ (.tail _ (.tail _ (.tail _ (.head _))))), by simp⟩
      · exact ⟨_, Str.ofString "TooMany", rfl, get _ _ (.tail _ (.tail _ (.tail _ (.tail _ (.tail _ (.head _)))))), by simp⟩
      · exact ⟨_, Str.ofString "Unknown", rfl, get _ _ (.tail _ (.tail _ (.tail _ (.tail _ (.tail _ (.tail _ (.head _))))))), by simp⟩
    obtain ⟨a, m, rfl, hG, hm⟩ := this
    refine ⟨m, hm, hG, ?_⟩
    have i : isSub m (Str.ofString "BenchError") = true := by
      unfold isSub
      simp
    rw [i]
    exact r
  · exact eq_self5 (u := .list []) (n := 1) (shp_list fun x hx => by cases hx) (by simp) (by simp) (fin_back k7 (by simp only [RefIn]) k)
theorem same_put5 {G : Gp} {a : Addr} {o : GO} (h : G a = some o) : G = gput G a o := by
  funext b
  by_cases hb : b = a
  · rw [hb, gput_same, h]
  · rw [gput_ne hb]
theorem rs_n {k : Int} {n b e w : D} (h : namB n = false) : rsB k (.tup [n, b, e, w]) = false := by rw [rsB_4, h]; rfl
theorem rs_b {k : Int} {n b e w : D} (h : intOf b = none) : rsB k (.tup [n, b, e, w]) = false := by rw [rsB_4, h, Bool.and_false]
theorem rs_e {k : Int} {n b e w : D} (h : intOf e = none) : rsB k (.tup [n, b, e, w]) = false := by
  rw [rsB_4, h]
  cases intOf b <;> simp
theorem rs_w {k : Int} {n b e w : D} (h : intOf w = none) : rsB k (.tup [n, b, e, w]) = false := by
  rw [rsB_4, h]
  cases intOf b <;> cases intOf e <;> simp
theorem rs_i {k : Int} {n : D} {b e w : Int} (h : ¬ (0 ≤ b ∧ b < k ∧ 1 ≤ e ∧ e ≤ k ∧ 0 ≤ w ∧ w ≤ 1000000000000)) : rsB k (.tup [n, .int b, .int e, .int w]) = false := by
  rw [rsB_4]
  simp only [intOf]
  rw [decide_eq_false h, Bool.and_false]
theorem rs_ok {n : Int} {s : Stretch} (h : RSOk n s) : rsB n s.d = true := by
  unfold Stretch.d
  rw [rsB_4, namB_iff.mpr h.nm, Bool.true_and]
  simp only [intOf]
  exact decide_eq_true ⟨h.b0, h.b1, h.e1, h.e2, h.w0, h.w1⟩
def EP5 (x : D) : Prop := okT x = true ∧ Thg 1 600 x
theorem eo_i {i : Int} (h1 : -1000000000000000000000000000000 ≤ i) (h2 : i ≤ 1000000000000000000000000000000) : EP5 (.int i) := ⟨rfl, (thg_i (by omega) (by omega)).mono (by decide) (by decide)⟩
theorem eo_s {z : Str} (h : Asc z) (hl : z.length ≤ 20) : EP5 (.str z) := ⟨okT_of (by omega) h, (thg_str h hl).mono (by decide) (by decide)⟩
theorem eo_n : EP5 .non := ⟨rfl, thg_non.mono (by decide) (by decide)⟩
theorem eo_b (b : Bool) : EP5 (.bl b) := ⟨rfl, (thg_bl b).mono (by decide) (by decide)⟩
theorem to_tup {xs : List D} (h : ∀ x ∈ xs, EP5 x) (hl : xs.length ≤ 5) : TO 3 4000 (.tup xs) := ⟨okT_tup.mpr fun d hd => (h d hd).1, (thg_tup (m := 5) (fun d hd => (h d hd).2) hl).mono (by decide) (by decide)⟩
theorem to_lst {xs : List D} (h : ∀ x ∈ xs, EP5 x) (hl : xs.length ≤ 5) : TO 3 4000 (.lst xs) := ⟨okT_lst.mpr fun d hd => (h d hd).1, (thg_lst (m := 5) (fun d hd => (h d hd).2) hl).mono (by decide) (by decide)⟩
theorem eo_l1 {z : Str} (h : Asc z) (hl : z.length ≤ 20) : EP5 (.lst [.str z]) := ⟨okT_lst.mpr fun d hd => by rw [List.mem_singleton.mp hd]; exact (eo_s h hl).1, (thg_lst (k := 0) (n := 202) (m := 1) (fun d hd => by rw [List.mem_singleton.mp hd]; exact (thg_str h hl).mono (by decide) (by decide)) (by simp)).mono (by decide) (by decide)⟩
theorem to_eo {x : D} (h : EP5 x) : TO 3 4000 x := ⟨h.1, h.2.mono (by decide) (by decide)⟩
theorem all4 {P : D → Prop} {a b c d : D} (ha : P a) (hb : P b) (hc : P c) (hd : P d) : ∀ x ∈ [a, b, c, d], P x := fun x hx => by
  simp only [List.mem_cons, List.not_mem_nil, or_false] at hx
  rcases hx with rfl | rfl | rfl | rfl <;> assumption
theorem to_4 {a b c d : D} (ha : EP5 a) (hb : EP5 b) (hc : EP5 c) (hd : EP5 d) : TO 3 4000 (.tup [a, b, c, d]) := to_tup (all4 ha hb hc hd) (by simp)
theorem ring_eo {n : Int} {s : Stretch} (h : RSOk n s) (hn : n ≤ 40) : EP5 (.str s.name) ∧ EP5 (.int s.b) ∧ EP5 (.int s.e) ∧ EP5 (.int s.w) := by
  have := h.b0
  have := h.b1
  have := h.e1
  have := h.e2
  have := h.w0
  have := h.w1
  have := h.nm.l8
  exact ⟨eo_s (asc_name h.nm) (by omega), eo_i (by omega) (by omega), eo_i (by omega) (by omega), eo_i (by omega) (by omega)⟩
theorem d__law_odd_stretch (ds : List D) (G : Gp) (Q : DK) (h : F__law_odd_stretch ds G Q) : r__law_odd_stretch (fin G Q) (startD 10 ds) G := by
  obtain ⟨a, x, y, z, n, rs, p, rfl, hG, ok, hr, hp, k⟩ := h
  have n1 := hr.n1
  have n2 := hr.n2
  have rl := hr.len
  have so := hr.all _ (st_mem hp)
  have ie := bk_at hp
  generalize st rs p = s at so ie
  obtain ⟨en, eb, ee, ew⟩ := ring_eo so n2
  have b0 := so.b0
  have b1 := so.b1
  have e1 := so.e1
  have e2 := so.e2
  have w0 := so.w0
  have w1 := so.w1
  have r0 : ∀ {G : Gp} {Q : DK}, Q (.int n) G → oIx (ringD n rs) (.int 0) G Q := fun q => ixt_0 rfl q
  have r1 : ∀ {G : Gp} {Q : DK}, Q (.lst (rs.map Stretch.d)) G → oIx (ringD n rs) (.int 1) G Q := fun q => ixt_0 rfl q
  refine seq_gen fun W hW => ?_
  (try dsimp only [sAsg, sIf, sRet, sRetN, sDrop, sNext, asg, setAll, eT, eOp, eUn, eLst, eTup, eCons, eNil, eVar, eC, eCall, eCB, eNot, eAnd, eOr, eTru, eAndT, eOrT, eNotT, eIf, ePart, eNoPart, eYes, eChain, eChain3, oI, oI0, oLt, oLe, oGt, oGe, oNeg, oSub, oMod, oMul, oDivW, eXp, eXa, eConsX, eCallX, eCallN, eLstX, eCBX, sDropX, sRetX, sAsgX, sRaise, sRaiseF, List.set_cons_zero, List.set_cons_succ, List.getElem?_cons_zero, List.getElem?_cons_succ, truD_bl, startD, List.map_cons, List.map_nil, List.cons_append, List.nil_append, List.replicate]); (try simp only [if_true, Bool.false_eq_true, if_false, decide_true, decide_false, Bool.not_true, Bool.not_false, List.length_cons, List.length_nil, sizeLine_eq, Nat.reduceAdd, Nat.reduceLeDiff, true_and, and_true, pw6, pw10, pw11, pw12, pw13, pw30, pw40, pw60, startD, List.map_cons, List.map_nil, List.cons_append, List.nil_append, List.replicate]); (try dsimp only [sAsg, sIf, sRet, sRetN, sDrop, sNext, asg, setAll, eT, eOp, eUn, eLst, eTup, eCons, eNil, eVar, eC, eCall, eCB, eNot, eAnd, eOr, eTru, eAndT, eOrT, eNotT, eIf, ePart, eNoPart, eYes, eChain, eChain3, oI, oI0, oLt, oLe, oGt, oGe, oNeg, oSub, oMod, oMul, oDivW, eXp, eXa, eConsX, eCallX, eCallN, eLstX, eCBX, sDropX, sRetX, sAsgX, sRaise, sRaiseF, List.set_cons_zero, List.set_cons_succ, List.getElem?_cons_zero, List.getElem?_cons_succ, truD_bl, startD, List.map_cons, List.map_nil, List.cons_append, List.nil_append, List.replicate])
  refine r1 (ix_at ie ?_)
  (try dsimp only [sAsg, sIf, sRet, sRetN, sDrop, sNext, asg, setAll, eT, eOp, eUn, eLst, eTup, eCons, eNil, eVar, eC, eCall, eCB, eNot, eAnd, eOr, eTru, eAndT, eOrT, eNotT, eIf, ePart, eNoPart, eYes, eChain, eChain3, oI, oI0, oLt, oLe, oGt, oGe, oNeg, oSub, oMod, oMul, oDivW, eXp, eXa, eConsX, eCallX, eCallN, eLstX, eCBX, sDropX, sRetX, sAsgX, sRaise, sRaiseF, List.set_cons_zero, List.set_cons_succ, List.getElem?_cons_zero, List.getElem?_cons_succ, truD_bl, Stretch.d, lkQ_tup]); (try simp only [if_true, Bool.false_eq_true, if_false, decide_true, decide_false, Bool.not_true, Bool.not_false, List.length_cons, List.length_nil, sizeLine_eq, Nat.reduceAdd, Nat.reduceLeDiff, true_and, and_true, pw6, pw10, pw11, pw12, pw13, pw30, pw40, pw60, Stretch.d, lkQ_tup]); (try dsimp only [sAsg, sIf, sRet, sRetN, sDrop, sNext, asg, setAll, eT, eOp, eUn, eLst, eTup, eCons, eNil, eVar, eC, eCall, eCB, eNot, eAnd, eOr, eTru, eAndT, eOrT, eNotT, eIf, ePart, eNoPart, eYes, eChain, eChain3, oI, oI0, oLt, oLe, oGt, oGe, oNeg, oSub, oMod, oMul, oDivW, eXp, eXa, eConsX, eCallX, eCallN, eLstX, eCBX, sDropX, sRetX, sAsgX, sRaise, sRaiseF, List.set_cons_zero, List.set_cons_succ, List.getElem?_cons_zero, List.getElem?_cons_succ, truD_bl, Stretch.d, lkQ_tup])
  refine hW _ _ ?_
  refine seq_gen fun W2 hW2 => ?_
  (try dsimp only [sAsg, sIf, sRet, sRetN, sDrop, sNext, asg, setAll, eT, eOp, eUn, eLst, eTup, eCons, eNil, eVar, eC, eCall, eCB, eNot, eAnd, eOr, eTru, eAndT, eOrT, eNotT, eIf, ePart, eNoPart, eYes, eChain, eChain3, oI, oI0, oLt, oLe, oGt, oGe, oNeg, oSub, oMod, oMul, oDivW, eXp, eXa, eConsX, eCallX, eCallN, eLstX, eCBX, sDropX, sRetX, sAsgX, sRaise, sRaiseF, List.set_cons_zero, List.set_cons_succ, List.getElem?_cons_zero, List.getElem?_cons_succ, truD_bl]); (try simp only [if_true, Bool.false_eq_true, if_false, decide_true, decide_false, Bool.not_true, Bool.not_false, List.length_cons, List.length_nil, sizeLine_eq, Nat.reduceAdd, Nat.reduceLeDiff, true_and, and_true, pw6, pw10, pw11, pw12, pw13, pw30, pw40, pw60]); (try dsimp only [sAsg, sIf, sRet, sRetN, sDrop, sNext, asg, setAll, eT, eOp, eUn, eLst, eTup, eCons, eNil, eVar, eC, eCall, eCB, eNot, eAnd, eOr, eTru, eAndT, eOrT, eNotT, eIf, ePart, eNoPart, eYes, eChain, eChain3, oI, oI0, oLt, oLe, oGt, oGe, oNeg, oSub, oMod, oMul, oDivW, eXp, eXa, eConsX, eCallX, eCallN, eLstX, eCBX, sDropX, sRetX, sAsgX, sRaise, sRaiseF, List.set_cons_zero, List.set_cons_succ, List.getElem?_cons_zero, List.getElem?_cons_succ, truD_bl])
  refine r0 (hW2 _ _ ?_)
  refine seq_gen fun W3 hW3 => ?_
  (try dsimp only [sAsg, sIf, sRet, sRetN, sDrop, sNext, asg, setAll, eT, eOp, eUn, eLst, eTup, eCons, eNil, eVar, eC, eCall, eCB, eNot, eAnd, eOr, eTru, eAndT, eOrT, eNotT, eIf, ePart, eNoPart, eYes, eChain, eChain3, oI, oI0, oLt, oLe, oGt, oGe, oNeg, oSub, oMod, oMul, oDivW, eXp, eXa, eConsX, eCallX, eCallN, eLstX, eCBX, sDropX, sRetX, sAsgX, sRaise, sRaiseF, List.set_cons_zero, List.set_cons_succ, List.getElem?_cons_zero, List.getElem?_cons_succ, truD_bl]); (try simp only [if_true, Bool.false_eq_true, if_false, decide_true, decide_false, Bool.not_true, Bool.not_false, List.length_cons, List.length_nil, sizeLine_eq, Nat.reduceAdd, Nat.reduceLeDiff, true_and, and_true, pw6, pw10, pw11, pw12, pw13, pw30, pw40, pw60]); (try dsimp only [sAsg, sIf, sRet, sRetN, sDrop, sNext, asg, setAll, eT, eOp, eUn, eLst, eTup, eCons, eNil, eVar, eC, eCall, eCB, eNot, eAnd, eOr, eTru, eAndT, eOrT, eNotT, eIf, ePart, eNoPart, eYes, eChain, eChain3, oI, oI0, oLt, oLe, oGt, oGe, oNeg, oSub, oMod, oMul, oDivW, eXp, eXa, eConsX, eCallX, eCallN, eLstX, eCBX, sDropX, sRetX, sAsgX, sRaise, sRaiseF, List.set_cons_zero, List.set_cons_succ, List.getElem?_cons_zero, List.getElem?_cons_succ, truD_bl])
  refine hW3 _ _ ?_
  refine seq_gen fun W4 hW4 => ?_
  (try dsimp only [sAsg, sIf, sRet, sRetN, sDrop, sNext, asg, setAll, eT, eOp, eUn, eLst, eTup, eCons, eNil, eVar, eC, eCall, eCB, eNot, eAnd, eOr, eTru, eAndT, eOrT, eNotT, eIf, ePart, eNoPart, eYes, eChain, eChain3, oI, oI0, oLt, oLe, oGt, oGe, oNeg, oSub, oMod, oMul, oDivW, eXp, eXa, eConsX, eCallX, eCallN, eLstX, eCBX, sDropX, sRetX, sAsgX, sRaise, sRaiseF, List.set_cons_zero, List.set_cons_succ, List.getElem?_cons_zero, List.getElem?_cons_succ, truD_bl, eDnew0]); (try simp only [if_true, Bool.false_eq_true, if_false, decide_true, decide_false, Bool.not_true, Bool.not_false, List.length_cons, List.length_nil, sizeLine_eq, Nat.reduceAdd, Nat.reduceLeDiff, true_and, and_true, pw6, pw10, pw11, pw12, pw13, pw30, pw40, pw60, eDnew0]); (try dsimp only [sAsg, sIf, sRet, sRetN, sDrop, sNext, asg, setAll, eT, eOp, eUn, eLst, eTup, eCons, eNil, eVar, eC, eCall, eCB, eNot, eAnd, eOr, eTru, eAndT, eOrT, eNotT, eIf, ePart, eNoPart, eYes, eChain, eChain3, oI, oI0, oLt, oLe, oGt, oGe, oNeg, oSub, oMod, oMul, oDivW, eXp, eXa, eConsX, eCallX, eCallN, eLstX, eCBX, sDropX, sRetX, sAsgX, sRaise, sRaiseF, List.set_cons_zero, List.set_cons_succ, List.getElem?_cons_zero, List.getElem?_cons_succ, truD_bl, eDnew0])
  refine add_ok (by simp) (hW4 _ _ ?_)
  refine seq_gen fun W5 hW5 => ?_
  (try dsimp only [sAsg, sIf, sRet, sRetN, sDrop, sNext, asg, setAll, eT, eOp, eUn, eLst, eTup, eCons, eNil, eVar, eC, eCall, eCB, eNot, eAnd, eOr, eTru, eAndT, eOrT, eNotT, eIf, ePart, eNoPart, eYes, eChain, eChain3, oI, oI0, oLt, oLe, oGt, oGe, oNeg, oSub, oMod, oMul, oDivW, eXp, eXa, eConsX, eCallX, eCallN, eLstX, eCBX, sDropX, sRetX, sAsgX, sRaise, sRaiseF, List.set_cons_zero, List.set_cons_succ, List.getElem?_cons_zero, List.getElem?_cons_succ, truD_bl]); (try simp only [if_true, Bool.false_eq_true, if_false, decide_true, decide_false, Bool.not_true, Bool.not_false, List.length_cons, List.length_nil, sizeLine_eq, Nat.reduceAdd, Nat.reduceLeDiff, true_and, and_true, pw6, pw10, pw11, pw12, pw13, pw30, pw40, pw60]); (try dsimp only [sAsg, sIf, sRet, sRetN, sDrop, sNext, asg, setAll, eT, eOp, eUn, eLst, eTup, eCons, eNil, eVar, eC, eCall, eCB, eNot, eAnd, eOr, eTru, eAndT, eOrT, eNotT, eIf, ePart, eNoPart, eYes, eChain, eChain3, oI, oI0, oLt, oLe, oGt, oGe, oNeg, oSub, oMod, oMul, oDivW, eXp, eXa, eConsX, eCallX, eCallN, eLstX, eCBX, sDropX, sRetX, sAsgX, sRaise, sRaiseF, List.set_cons_zero, List.set_cons_succ, List.getElem?_cons_zero, List.getElem?_cons_succ, truD_bl])
  refine add_ok (by simp) (hW5 _ _ ?_)
  refine seq_gen fun W6 hW6 => ?_
  (try dsimp only [sAsg, sIf, sRet, sRetN, sDrop, sNext, asg, setAll, eT, eOp, eUn, eLst, eTup, eCons, eNil, eVar, eC, eCall, eCB, eNot, eAnd, eOr, eTru, eAndT, eOrT, eNotT, eIf, ePart, eNoPart, eYes, eChain, eChain3, oI, oI0, oLt, oLe, oGt, oGe, oNeg, oSub, oMod, oMul, oDivW, eXp, eXa, eConsX, eCallX, eCallN, eLstX, eCBX, sDropX, sRetX, sAsgX, sRaise, sRaiseF, List.set_cons_zero, List.set_cons_succ, List.getElem?_cons_zero, List.getElem?_cons_succ, truD_bl]); (try simp only [if_true, Bool.false_eq_true, if_false, decide_true, decide_false, Bool.not_true, Bool.not_false, List.length_cons, List.length_nil, sizeLine_eq, Nat.reduceAdd, Nat.reduceLeDiff, true_and, and_true, pw6, pw10, pw11, pw12, pw13, pw30, pw40, pw60]); (try dsimp only [sAsg, sIf, sRet, sRetN, sDrop, sNext, asg, setAll, eT, eOp, eUn, eLst, eTup, eCons, eNil, eVar, eC, eCall, eCB, eNot, eAnd, eOr, eTru, eAndT, eOrT, eNotT, eIf, ePart, eNoPart, eYes, eChain, eChain3, oI, oI0, oLt, oLe, oGt, oGe, oNeg, oSub, oMod, oMul, oDivW, eXp, eXa, eConsX, eCallX, eCallN, eLstX, eCBX, sDropX, sRetX, sAsgX, sRaise, sRaiseF, List.set_cons_zero, List.set_cons_succ, List.getElem?_cons_zero, List.getElem?_cons_succ, truD_bl])
  refine add_ok (by simp) (hW6 _ _ ?_)
  refine seq_gen fun W7 hW7 => ?_
  (try dsimp only [sAsg, sIf, sRet, sRetN, sDrop, sNext, asg, setAll, eT, eOp, eUn, eLst, eTup, eCons, eNil, eVar, eC, eCall, eCB, eNot, eAnd, eOr, eTru, eAndT, eOrT, eNotT, eIf, ePart, eNoPart, eYes, eChain, eChain3, oI, oI0, oLt, oLe, oGt, oGe, oNeg, oSub, oMod, oMul, oDivW, eXp, eXa, eConsX, eCallX, eCallN, eLstX, eCBX, sDropX, sRetX, sAsgX, sRaise, sRaiseF, List.set_cons_zero, List.set_cons_succ, List.getElem?_cons_zero, List.getElem?_cons_succ, truD_bl]); (try simp only [if_true, Bool.false_eq_true, if_false, decide_true, decide_false, Bool.not_true, Bool.not_false, List.length_cons, List.length_nil, sizeLine_eq, Nat.reduceAdd, Nat.reduceLeDiff, true_and, and_true, pw6, pw10, pw11, pw12, pw13, pw30, pw40, pw60]); (try dsimp only [sAsg, sIf, sRet, sRetN, sDrop, sNext, asg, setAll, eT, eOp, eUn, eLst, eTup, eCons, eNil, eVar, eC, eCall, eCB, eNot, eAnd, eOr, eTru, eAndT, eOrT, eNotT, eIf, ePart, eNoPart, eYes, eChain, eChain3, oI, oI0, oLt, oLe, oGt, oGe, oNeg, oSub, oMod, oMul, oDivW, eXp, eXa, eConsX, eCallX, eCallN, eLstX, eCBX, sDropX, sRetX, sAsgX, sRaise, sRaiseF, List.set_cons_zero, List.set_cons_succ, List.getElem?_cons_zero, List.getElem?_cons_succ, truD_bl])
  refine add_ok (by simp) (hW7 _ _ ?_)
  refine seq_gen fun W8 hW8 => ?_
  (try dsimp only [sAsg, sIf, sRet, sRetN, sDrop, sNext, asg, setAll, eT, eOp, eUn, eLst, eTup, eCons, eNil, eVar, eC, eCall, eCB, eNot, eAnd, eOr, eTru, eAndT, eOrT, eNotT, eIf, ePart, eNoPart, eYes, eChain, eChain3, oI, oI0, oLt, oLe, oGt, oGe, oNeg, oSub, oMod, oMul, oDivW, eXp, eXa, eConsX, eCallX, eCallN, eLstX, eCBX, sDropX, sRetX, sAsgX, sRaise, sRaiseF, List.set_cons_zero, List.set_cons_succ, List.getElem?_cons_zero, List.getElem?_cons_succ, truD_bl]); (try simp only [if_true, Bool.false_eq_true, if_false, decide_true, decide_false, Bool.not_true, Bool.not_false, List.length_cons, List.length_nil, sizeLine_eq, Nat.reduceAdd, Nat.reduceLeDiff, true_and, and_true, pw6, pw10, pw11, pw12, pw13, pw30, pw40, pw60]); (try dsimp only [sAsg, sIf, sRet, sRetN, sDrop, sNext, asg, setAll, eT, eOp, eUn, eLst, eTup, eCons, eNil, eVar, eC, eCall, eCB, eNot, eAnd, eOr, eTru, eAndT, eOrT, eNotT, eIf, ePart, eNoPart, eYes, eChain, eChain3, oI, oI0, oLt, oLe, oGt, oGe, oNeg, oSub, oMod, oMul, oDivW, eXp, eXa, eConsX, eCallX, eCallN, eLstX, eCBX, sDropX, sRetX, sAsgX, sRaise, sRaiseF, List.set_cons_zero, List.set_cons_succ, List.getElem?_cons_zero, List.getElem?_cons_succ, truD_bl])
  refine add_ok (by simp) (hW8 _ _ ?_)
  refine seq_gen fun W9 hW9 => ?_
  (try dsimp only [sAsg, sIf, sRet, sRetN, sDrop, sNext, asg, setAll, eT, eOp, eUn, eLst, eTup, eCons, eNil, eVar, eC, eCall, eCB, eNot, eAnd, eOr, eTru, eAndT, eOrT, eNotT, eIf, ePart, eNoPart, eYes, eChain, eChain3, oI, oI0, oLt, oLe, oGt, oGe, oNeg, oSub, oMod, oMul, oDivW, eXp, eXa, eConsX, eCallX, eCallN, eLstX, eCBX, sDropX, sRetX, sAsgX, sRaise, sRaiseF, List.set_cons_zero, List.set_cons_succ, List.getElem?_cons_zero, List.getElem?_cons_succ, truD_bl]); (try simp only [if_true, Bool.false_eq_true, if_false, decide_true, decide_false, Bool.not_true, Bool.not_false, List.length_cons, List.length_nil, sizeLine_eq, Nat.reduceAdd, Nat.reduceLeDiff, true_and, and_true, pw6, pw10, pw11, pw12, pw13, pw30, pw40, pw60]); (try dsimp only [sAsg, sIf, sRet, sRetN, sDrop, sNext, asg, setAll, eT, eOp, eUn, eLst, eTup, eCons, eNil, eVar, eC, eCall, eCB, eNot, eAnd, eOr, eTru, eAndT, eOrT, eNotT, eIf, ePart, eNoPart, eYes, eChain, eChain3, oI, oI0, oLt, oLe, oGt, oGe, oNeg, oSub, oMod, oMul, oDivW, eXp, eXa, eConsX, eCallX, eCallN, eLstX, eCBX, sDropX, sRetX, sAsgX, sRaise, sRaiseF, List.set_cons_zero, List.set_cons_succ, List.getElem?_cons_zero, List.getElem?_cons_succ, truD_bl])
  refine add_ok (by simp) (hW9 _ _ ?_)
  refine seq_gen fun W10 hW10 => ?_
  (try dsimp only [sAsg, sIf, sRet, sRetN, sDrop, sNext, asg, setAll, eT, eOp, eUn, eLst, eTup, eCons, eNil, eVar, eC, eCall, eCB, eNot, eAnd, eOr, eTru, eAndT, eOrT, eNotT, eIf, ePart, eNoPart, eYes, eChain, eChain3, oI, oI0, oLt, oLe, oGt, oGe, oNeg, oSub, oMod, oMul, oDivW, eXp, eXa, eConsX, eCallX, eCallN, eLstX, eCBX, sDropX, sRetX, sAsgX, sRaise, sRaiseF, List.set_cons_zero, List.set_cons_succ, List.getElem?_cons_zero, List.getElem?_cons_succ, truD_bl]); (try simp only [if_true, Bool.false_eq_true, if_false, decide_true, decide_false, Bool.not_true, Bool.not_false, List.length_cons, List.length_nil, sizeLine_eq, Nat.reduceAdd, Nat.reduceLeDiff, true_and, and_true, pw6, pw10, pw11, pw12, pw13, pw30, pw40, pw60]); (try dsimp only [sAsg, sIf, sRet, sRetN, sDrop, sNext, asg, setAll, eT, eOp, eUn, eLst, eTup, eCons, eNil, eVar, eC, eCall, eCB, eNot, eAnd, eOr, eTru, eAndT, eOrT, eNotT, eIf, ePart, eNoPart, eYes, eChain, eChain3, oI, oI0, oLt, oLe, oGt, oGe, oNeg, oSub, oMod, oMul, oDivW, eXp, eXa, eConsX, eCallX, eCallN, eLstX, eCBX, sDropX, sRetX, sAsgX, sRaise, sRaiseF, List.set_cons_zero, List.set_cons_succ, List.getElem?_cons_zero, List.getElem?_cons_succ, truD_bl])
  refine add_ok (by simp) (hW10 _ _ ?_)
  refine seq_gen fun W11 hW11 => ?_
  (try dsimp only [sAsg, sIf, sRet, sRetN, sDrop, sNext, asg, setAll, eT, eOp, eUn, eLst, eTup, eCons, eNil, eVar, eC, eCall, eCB, eNot, eAnd, eOr, eTru, eAndT, eOrT, eNotT, eIf, ePart, eNoPart, eYes, eChain, eChain3, oI, oI0, oLt, oLe, oGt, oGe, oNeg, oSub, oMod, oMul, oDivW, eXp, eXa, eConsX, eCallX, eCallN, eLstX, eCBX, sDropX, sRetX, sAsgX, sRaise, sRaiseF, List.set_cons_zero, List.set_cons_succ, List.getElem?_cons_zero, List.getElem?_cons_succ, truD_bl]); (try simp only [if_true, Bool.false_eq_true, if_false, decide_true, decide_false, Bool.not_true, Bool.not_false, List.length_cons, List.length_nil, sizeLine_eq, Nat.reduceAdd, Nat.reduceLeDiff, true_and, and_true, pw6, pw10, pw11, pw12, pw13, pw30, pw40, pw60]); (try dsimp only [sAsg, sIf, sRet, sRetN, sDrop, sNext, asg, setAll, eT, eOp, eUn, eLst, eTup, eCons, eNil, eVar, eC, eCall, eCB, eNot, eAnd, eOr, eTru, eAndT, eOrT, eNotT, eIf, ePart, eNoPart, eYes, eChain, eChain3, oI, oI0, oLt, oLe, oGt, oGe, oNeg, oSub, oMod, oMul, oDivW, eXp, eXa, eConsX, eCallX, eCallN, eLstX, eCBX, sDropX, sRetX, sAsgX, sRaise, sRaiseF, List.set_cons_zero, List.set_cons_succ, List.getElem?_cons_zero, List.getElem?_cons_succ, truD_bl])
  refine add_ii (add_ok (by simp) (hW11 _ _ ?_))
  refine seq_gen fun W12 hW12 => ?_
  (try dsimp only [sAsg, sIf, sRet, sRetN, sDrop, sNext, asg, setAll, eT, eOp, eUn, eLst, eTup, eCons, eNil, eVar, eC, eCall, eCB, eNot, eAnd, eOr, eTru, eAndT, eOrT, eNotT, eIf, ePart, eNoPart, eYes, eChain, eChain3, oI, oI0, oLt, oLe, oGt, oGe, oNeg, oSub, oMod, oMul, oDivW, eXp, eXa, eConsX, eCallX, eCallN, eLstX, eCBX, sDropX, sRetX, sAsgX, sRaise, sRaiseF, List.set_cons_zero, List.set_cons_succ, List.getElem?_cons_zero, List.getElem?_cons_succ, truD_bl]); (try simp only [if_true, Bool.false_eq_true, if_false, decide_true, decide_false, Bool.not_true, Bool.not_false, List.length_cons, List.length_nil, sizeLine_eq, Nat.reduceAdd, Nat.reduceLeDiff, true_and, and_true, pw6, pw10, pw11, pw12, pw13, pw30, pw40, pw60]); (try dsimp only [sAsg, sIf, sRet, sRetN, sDrop, sNext, asg, setAll, eT, eOp, eUn, eLst, eTup, eCons, eNil, eVar, eC, eCall, eCB, eNot, eAnd, eOr, eTru, eAndT, eOrT, eNotT, eIf, ePart, eNoPart, eYes, eChain, eChain3, oI, oI0, oLt, oLe, oGt, oGe, oNeg, oSub, oMod, oMul, oDivW, eXp, eXa, eConsX, eCallX, eCallN, eLstX, eCBX, sDropX, sRetX, sAsgX, sRaise, sRaiseF, List.set_cons_zero, List.set_cons_succ, List.getElem?_cons_zero, List.getElem?_cons_succ, truD_bl])
  refine add_ok (by simp) (hW12 _ _ ?_)
  refine seq_gen fun W13 hW13 => ?_
  (try dsimp only [sAsg, sIf, sRet, sRetN, sDrop, sNext, asg, setAll, eT, eOp, eUn, eLst, eTup, eCons, eNil, eVar, eC, eCall, eCB, eNot, eAnd, eOr, eTru, eAndT, eOrT, eNotT, eIf, ePart, eNoPart, eYes, eChain, eChain3, oI, oI0, oLt, oLe, oGt, oGe, oNeg, oSub, oMod, oMul, oDivW, eXp, eXa, eConsX, eCallX, eCallN, eLstX, eCBX, sDropX, sRetX, sAsgX, sRaise, sRaiseF, List.set_cons_zero, List.set_cons_succ, List.getElem?_cons_zero, List.getElem?_cons_succ, truD_bl]); (try simp only [if_true, Bool.false_eq_true, if_false, decide_true, decide_false, Bool.not_true, Bool.not_false, List.length_cons, List.length_nil, sizeLine_eq, Nat.reduceAdd, Nat.reduceLeDiff, true_and, and_true, pw6, pw10, pw11, pw12, pw13, pw30, pw40, pw60]); (try dsimp only [sAsg, sIf, sRet, sRetN, sDrop, sNext, asg, setAll, eT, eOp, eUn, eLst, eTup, eCons, eNil, eVar, eC, eCall, eCB, eNot, eAnd, eOr, eTru, eAndT, eOrT, eNotT, eIf, ePart, eNoPart, eYes, eChain, eChain3, oI, oI0, oLt, oLe, oGt, oGe, oNeg, oSub, oMod, oMul, oDivW, eXp, eXa, eConsX, eCallX, eCallN, eLstX, eCBX, sDropX, sRetX, sAsgX, sRaise, sRaiseF, List.set_cons_zero, List.set_cons_succ, List.getElem?_cons_zero, List.getElem?_cons_succ, truD_bl])
  refine add_ok (by simp) (hW13 _ _ ?_)
  refine seq_gen fun W14 hW14 => ?_
  (try dsimp only [sAsg, sIf, sRet, sRetN, sDrop, sNext, asg, setAll, eT, eOp, eUn, eLst, eTup, eCons, eNil, eVar, eC, eCall, eCB, eNot, eAnd, eOr, eTru, eAndT, eOrT, eNotT, eIf, ePart, eNoPart, eYes, eChain, eChain3, oI, oI0, oLt, oLe, oGt, oGe, oNeg, oSub, oMod, oMul, oDivW, eXp, eXa, eConsX, eCallX, eCallN, eLstX, eCBX, sDropX, sRetX, sAsgX, sRaise, sRaiseF, List.set_cons_zero, List.set_cons_succ, List.getElem?_cons_zero, List.getElem?_cons_succ, truD_bl]); (try simp only [if_true, Bool.false_eq_true, if_false, decide_true, decide_false, Bool.not_true, Bool.not_false, List.length_cons, List.length_nil, sizeLine_eq, Nat.reduceAdd, Nat.reduceLeDiff, true_and, and_true, pw6, pw10, pw11, pw12, pw13, pw30, pw40, pw60]); (try dsimp only [sAsg, sIf, sRet, sRetN, sDrop, sNext, asg, setAll, eT, eOp, eUn, eLst, eTup, eCons, eNil, eVar, eC, eCall, eCB, eNot, eAnd, eOr, eTru, eAndT, eOrT, eNotT, eIf, ePart, eNoPart, eYes, eChain, eChain3, oI, oI0, oLt, oLe, oGt, oGe, oNeg, oSub, oMod, oMul, oDivW, eXp, eXa, eConsX, eCallX, eCallN, eLstX, eCBX, sDropX, sRetX, sAsgX, sRaise, sRaiseF, List.set_cons_zero, List.set_cons_succ, List.getElem?_cons_zero, List.getElem?_cons_succ, truD_bl])
  refine add_ii (add_ok (by simp) (hW14 _ _ ?_))
  refine seq_gen fun W15 hW15 => ?_
  (try dsimp only [sAsg, sIf, sRet, sRetN, sDrop, sNext, asg, setAll, eT, eOp, eUn, eLst, eTup, eCons, eNil, eVar, eC, eCall, eCB, eNot, eAnd, eOr, eTru, eAndT, eOrT, eNotT, eIf, ePart, eNoPart, eYes, eChain, eChain3, oI, oI0, oLt, oLe, oGt, oGe, oNeg, oSub, oMod, oMul, oDivW, eXp, eXa, eConsX, eCallX, eCallN, eLstX, eCBX, sDropX, sRetX, sAsgX, sRaise, sRaiseF, List.set_cons_zero, List.set_cons_succ, List.getElem?_cons_zero, List.getElem?_cons_succ, truD_bl]); (try simp only [if_true, Bool.false_eq_true, if_false, decide_true, decide_false, Bool.not_true, Bool.not_false, List.length_cons, List.length_nil, sizeLine_eq, Nat.reduceAdd, Nat.reduceLeDiff, true_and, and_true, pw6, pw10, pw11, pw12, pw13, pw30, pw40, pw60]); (try dsimp only [sAsg, sIf, sRet, sRetN, sDrop, sNext, asg, setAll, eT, eOp, eUn, eLst, eTup, eCons, eNil, eVar, eC, eCall, eCB, eNot, eAnd, eOr, eTru, eAndT, eOrT, eNotT, eIf, ePart, eNoPart, eYes, eChain, eChain3, oI, oI0, oLt, oLe, oGt, oGe, oNeg, oSub, oMod, oMul, oDivW, eXp, eXa, eConsX, eCallX, eCallN, eLstX, eCBX, sDropX, sRetX, sAsgX, sRaise, sRaiseF, List.set_cons_zero, List.set_cons_succ, List.getElem?_cons_zero, List.getElem?_cons_succ, truD_bl])
  refine add_ok (by simp) (hW15 _ _ ?_)
  refine seq_gen fun W16 hW16 => ?_
  have done : ∀ (d : D) x y z, Ok3 x y z → (TO 3 4000 d ∧ (rsB n d = false ∨ stName d ∈ (rs.take p).map Stretch.name)) → (fin G Q).rt d (gput G a (stO x y z)) := fun d x y z ok h => fin_stP hG (fun b u e => e) (okT_plain h.1.1) (k d x y z ok h.1 h.2)
  have rest_ : ∀ L : List D, (∀ d ∈ L, TO 3 4000 d ∧ (rsB n d = false ∨ stName d ∈ (rs.take p).map Stretch.name)) → L.length = 27 → W16 [some (.ref a), some (ringD n rs), some (.int (p : Int)), some (.str s.name), some (.int s.b), some (.int s.e), some (.int s.w), some (.int n), some (.lst L), none] G := by
    intro L hL hl
    refine hW16 _ _ ?_
    refine seq_gen fun W17 hW17 => ?_
    have last : ∀ (L : List D) (o9 : Option D) (G' : Gp) (x y z : Int), G' = gput G a (stO x y z) → Ok3 x y z → (∀ d ∈ L, TO 3 4000 d ∧ (rsB n d = false ∨ stName d ∈ (rs.take p).map Stretch.name)) → 0 < L.length → L.length ≤ 100 → W17 [some (.ref a), some (ringD n rs), some (.int (p : Int)), some (.str s.name), some (.int s.b), some (.int s.e), some (.int s.w), some (.int n), some (.lst L), o9] G' := by
      rintro L o9 G' x y z rfl ok hL l0 l1
      refine hW17 _ _ ?_
      (try dsimp only [sAsg, sIf, sRet, sRetN, sDrop, sNext, asg, setAll, eT, eOp, eUn, eLst, eTup, eCons, eNil, eVar, eC, eCall, eCB, eNot, eAnd, eOr, eTru, eAndT, eOrT, eNotT, eIf, ePart, eNoPart, eYes, eChain, eChain3, oI, oI0, oLt, oLe, oGt, oGe, oNeg, oSub, oMod, oMul, oDivW, eXp, eXa, eConsX, eCallX, eCallN, eLstX, eCBX, sDropX, sRetX, sAsgX, sRaise, sRaiseF, List.set_cons_zero, List.set_cons_succ, List.getElem?_cons_zero, List.getElem?_cons_succ, truD_bl]); (try simp only [if_true, Bool.false_eq_true, if_false, decide_true, decide_false, Bool.not_true, Bool.not_false, List.length_cons, List.length_nil, sizeLine_eq, Nat.reduceAdd, Nat.reduceLeDiff, true_and, and_true, pw6, pw10, pw11, pw12, pw13, pw30, pw40, pw60]); (try dsimp only [sAsg, sIf, sRet, sRetN, sDrop, sNext, asg, setAll, eT, eOp, eUn, eLst, eTup, eCons, eNil, eVar, eC, eCall, eCB, eNot, eAnd, eOr, eTru, eAndT, eOrT, eNotT, eIf, ePart, eNoPart, eYes, eChain, eChain3, oI, oI0, oLt, oLe, oGt, oGe, oNeg, oSub, oMod, oMul, oDivW, eXp, eXa, eConsX, eCallX, eCallN, eLstX, eCBX, sDropX, sRetX, sAsgX, sRaise, sRaiseF, List.set_cons_zero, List.set_cons_succ, List.getElem?_cons_zero, List.getElem?_cons_succ, truD_bl])
      refine len_lst ?_
      refine take_ok gput_same ok (wd_of (by omega) (by omega)) fun j x y z ok j0 j1 => ?_
      rw [gput_gput]
      exact ix_allP hL j0 (by omega) fun d hd => done d x y z ok hd
    (try dsimp only [sAsg, sIf, sRet, sRetN, sDrop, sNext, asg, setAll, eT, eOp, eUn, eLst, eTup, eCons, eNil, eVar, eC, eCall, eCB, eNot, eAnd, eOr, eTru, eAndT, eOrT, eNotT, eIf, ePart, eNoPart, eYes, eChain, eChain3, oI, oI0, oLt, oLe, oGt, oGe, oNeg, oSub, oMod, oMul, oDivW, eXp, eXa, eConsX, eCallX, eCallN, eLstX, eCBX, sDropX, sRetX, sAsgX, sRaise, sRaiseF, List.set_cons_zero, List.set_cons_succ, List.getElem?_cons_zero, List.getElem?_cons_succ, truD_bl]); (try simp only [if_true, Bool.false_eq_true, if_false, decide_true, decide_false, Bool.not_true, Bool.not_false, List.length_cons, List.length_nil, sizeLine_eq, Nat.reduceAdd, Nat.reduceLeDiff, true_and, and_true, pw6, pw10, pw11, pw12, pw13, pw30, pw40, pw60]); (try dsimp only [sAsg, sIf, sRet, sRetN, sDrop, sNext, asg, setAll, eT, eOp, eUn, eLst, eTup, eCons, eNil, eVar, eC, eCall, eCB, eNot, eAnd, eOr, eTru, eAndT, eOrT, eNotT, eIf, ePart, eNoPart, eYes, eChain, eChain3, oI, oI0, oLt, oLe, oGt, oGe, oNeg, oSub, oMod, oMul, oDivW, eXp, eXa, eConsX, eCallX, eCallN, eLstX, eCBX, sDropX, sRetX, sAsgX, sRaise, sRaiseF, List.set_cons_zero, List.set_cons_succ, List.getElem?_cons_zero, List.getElem?_cons_succ, truD_bl])
    by_cases c : (p : Int) > 0
    · rw [decide_eq_true c]
      (try dsimp only [sAsg, sIf, sRet, sRetN, sDrop, sNext, asg, setAll, eT, eOp, eUn, eLst, eTup, eCons, eNil, eVar, eC, eCall, eCB, eNot, eAnd, eOr, eTru, eAndT, eOrT, eNotT, eIf, ePart, eNoPart, eYes, eChain, eChain3, oI, oI0, oLt, oLe, oGt, oGe, oNeg, oSub, oMod, oMul, oDivW, eXp, eXa, eConsX, eCallX, eCallN, eLstX, eCBX, sDropX, sRetX, sAsgX, sRaise, sRaiseF, List.set_cons_zero, List.set_cons_succ, List.getElem?_cons_zero, List.getElem?_cons_succ, truD_bl]); (try simp only [if_true, Bool.false_eq_true, if_false, decide_true, decide_false, Bool.not_true, Bool.not_false, List.length_cons, List.length_nil, sizeLine_eq, Nat.reduceAdd, Nat.reduceLeDiff, true_and, and_true, pw6, pw10, pw11, pw12, pw13, pw30, pw40, pw60]); (try dsimp only [sAsg, sIf, sRet, sRetN, sDrop, sNext, asg, setAll, eT, eOp, eUn, eLst, eTup, eCons, eNil, eVar, eC, eCall, eCB, eNot, eAnd, eOr, eTru, eAndT, eOrT, eNotT, eIf, ePart, eNoPart, eYes, eChain, eChain3, oI, oI0, oLt, oLe, oGt, oGe, oNeg, oSub, oMod, oMul, oDivW, eXp, eXa, eConsX, eCallX, eCallN, eLstX, eCBX, sDropX, sRetX, sAsgX, sRaise, sRaiseF, List.set_cons_zero, List.set_cons_succ, List.getElem?_cons_zero, List.getElem?_cons_succ, truD_bl])
      refine seq_gen fun W18 hW18 => ?_
      (try dsimp only [sAsg, sIf, sRet, sRetN, sDrop, sNext, asg, setAll, eT, eOp, eUn, eLst, eTup, eCons, eNil, eVar, eC, eCall, eCB, eNot, eAnd, eOr, eTru, eAndT, eOrT, eNotT, eIf, ePart, eNoPart, eYes, eChain, eChain3, oI, oI0, oLt, oLe, oGt, oGe, oNeg, oSub, oMod, oMul, oDivW, eXp, eXa, eConsX, eCallX, eCallN, eLstX, eCBX, sDropX, sRetX, sAsgX, sRaise, sRaiseF, List.set_cons_zero, List.set_cons_succ, List.getElem?_cons_zero, List.getElem?_cons_succ, truD_bl]); (try simp only [if_true, Bool.false_eq_true, if_false, decide_true, decide_false, Bool.not_true, Bool.not_false, List.length_cons, List.length_nil, sizeLine_eq, Nat.reduceAdd, Nat.reduceLeDiff, true_and, and_true, pw6, pw10, pw11, pw12, pw13, pw30, pw40, pw60]); (try dsimp only [sAsg, sIf, sRet, sRetN, sDrop, sNext, asg, setAll, eT, eOp, eUn, eLst, eTup, eCons, eNil, eVar, eC, eCall, eCB, eNot, eAnd, eOr, eTru, eAndT, eOrT, eNotT, eIf, ePart, eNoPart, eYes, eChain, eChain3, oI, oI0, oLt, oLe, oGt, oGe, oNeg, oSub, oMod, oMul, oDivW, eXp, eXa, eConsX, eCallX, eCallN, eLstX, eCBX, sDropX, sRetX, sAsgX, sRaise, sRaiseF, List.set_cons_zero, List.set_cons_succ, List.getElem?_cons_zero, List.getElem?_cons_succ, truD_bl])
      refine r1 ?_
      refine take_ok hG ok (wd_of (by omega) (by omega)) fun v x y z ok v0 v1 => ?_
      obtain ⟨m, rfl⟩ := Int.eq_ofNat_of_zero_le v0
      have hm : m < rs.length := by omega
      have sm := hr.all _ (st_mem hm)
      have im := bk_at hm
      have mem : (st rs m).name ∈ (rs.take p).map Stretch.name := by
        have e : (rs.take p)[m]? = some (st rs m) := by
          rw [List.getElem?_take_of_lt (by omega)]
          unfold st
          rw [List.getD_eq_getElem?_getD, List.getElem?_eq_getElem hm]; rfl
        exact List.mem_map.mpr ⟨_, List.mem_of_getElem? e, rfl⟩
      generalize st rs m = s2 at sm im mem
      refine ix_at im (ixt_0 (d := .str s2.name) rfl (hW18 _ _ ?_))
      (try dsimp only [sAsg, sIf, sRet, sRetN, sDrop, sNext, asg, setAll, eT, eOp, eUn, eLst, eTup, eCons, eNil, eVar, eC, eCall, eCB, eNot, eAnd, eOr, eTru, eAndT, eOrT, eNotT, eIf, ePart, eNoPart, eYes, eChain, eChain3, oI, oI0, oLt, oLe, oGt, oGe, oNeg, oSub, oMod, oMul, oDivW, eXp, eXa, eConsX, eCallX, eCallN, eLstX, eCBX, sDropX, sRetX, sAsgX, sRaise, sRaiseF, List.set_cons_zero, List.set_cons_succ, List.getElem?_cons_zero, List.getElem?_cons_succ, truD_bl, oRep, lkL_lst]); (try simp only [if_true, Bool.false_eq_true, if_false, decide_true, decide_false, Bool.not_true, Bool.not_false, List.length_cons, List.length_nil, sizeLine_eq, Nat.reduceAdd, Nat.reduceLeDiff, true_and, and_true, pw6, pw10, pw11, pw12, pw13, pw30, pw40, pw60, oRep, lkL_lst]); (try dsimp only [sAsg, sIf, sRet, sRetN, sDrop, sNext, asg, setAll, eT, eOp, eUn, eLst, eTup, eCons, eNil, eVar, eC, eCall, eCB, eNot, eAnd, eOr, eTru, eAndT, eOrT, eNotT, eIf, ePart, eNoPart, eYes, eChain, eChain3, oI, oI0, oLt, oLe, oGt, oGe, oNeg, oSub, oMod, oMul, oDivW, eXp, eXa, eConsX, eCallX, eCallN, eLstX, eCBX, sDropX, sRetX, sAsgX, sRaise, sRaiseF, List.set_cons_zero, List.set_cons_succ, List.getElem?_cons_zero, List.getElem?_cons_succ, truD_bl, oRep, lkL_lst])
      refine ⟨fun ns e => (by cases e), by decide, by decide, by decide, add_ok (by simp [hl]) ?_⟩
      refine last _ _ _ x y z rfl ok (fun d hd => ?_) (by simp [hl]) (by simp [hl])
      rcases List.mem_append.mp hd with q | q
      · exact hL d q
      · have e : d = .tup [.str s2.name, .int s.b, .int s.e, .int s.w] := by
          obtain ⟨l, h1, h2⟩ := List.mem_flatten.mp q
          rw [List.eq_of_mem_replicate h1] at h2
          exact List.mem_singleton.mp h2
        rw [e]
        exact ⟨to_4 (ring_eo sm n2).1 eb ee ew, .inr mem⟩
    · rw [decide_eq_false c]
      (try dsimp only [sAsg, sIf, sRet, sRetN, sDrop, sNext, asg, setAll, eT, eOp, eUn, eLst, eTup, eCons, eNil, eVar, eC, eCall, eCB, eNot, eAnd, eOr, eTru, eAndT, eOrT, eNotT, eIf, ePart, eNoPart, eYes, eChain, eChain3, oI, oI0, oLt, oLe, oGt, oGe, oNeg, oSub, oMod, oMul, oDivW, eXp, eXa, eConsX, eCallX, eCallN, eLstX, eCBX, sDropX, sRetX, sAsgX, sRaise, sRaiseF, List.set_cons_zero, List.set_cons_succ, List.getElem?_cons_zero, List.getElem?_cons_succ, truD_bl]); (try simp only [if_true, Bool.false_eq_true, if_false, decide_true, decide_false, Bool.not_true, Bool.not_false, List.length_cons, List.length_nil, sizeLine_eq, Nat.reduceAdd, Nat.reduceLeDiff, true_and, and_true, pw6, pw10, pw11, pw12, pw13, pw30, pw40, pw60]); (try dsimp only [sAsg, sIf, sRet, sRetN, sDrop, sNext, asg, setAll, eT, eOp, eUn, eLst, eTup, eCons, eNil, eVar, eC, eCall, eCB, eNot, eAnd, eOr, eTru, eAndT, eOrT, eNotT, eIf, ePart, eNoPart, eYes, eChain, eChain3, oI, oI0, oLt, oLe, oGt, oGe, oNeg, oSub, oMod, oMul, oDivW, eXp, eXa, eConsX, eCallX, eCallN, eLstX, eCBX, sDropX, sRetX, sAsgX, sRaise, sRaiseF, List.set_cons_zero, List.set_cons_succ, List.getElem?_cons_zero, List.getElem?_cons_succ, truD_bl])
      exact last _ _ _ x y z (same_put5 hG) ok hL (by omega) (by omega)
  (try dsimp only [sAsg, sIf, sRet, sRetN, sDrop, sNext, asg, setAll, eT, eOp, eUn, eLst, eTup, eCons, eNil, eVar, eC, eCall, eCB, eNot, eAnd, eOr, eTru, eAndT, eOrT, eNotT, eIf, ePart, eNoPart, eYes, eChain, eChain3, oI, oI0, oLt, oLe, oGt, oGe, oNeg, oSub, oMod, oMul, oDivW, eXp, eXa, eConsX, eCallX, eCallN, eLstX, eCBX, sDropX, sRetX, sAsgX, sRaise, sRaiseF, List.set_cons_zero, List.set_cons_succ, List.getElem?_cons_zero, List.getElem?_cons_succ, truD_bl]); (try simp only [if_true, Bool.false_eq_true, if_false, decide_true, decide_false, Bool.not_true, Bool.not_false, List.length_cons, List.length_nil, sizeLine_eq, Nat.reduceAdd, Nat.reduceLeDiff, true_and, and_true, pw6, pw10, pw11, pw12, pw13, pw30, pw40, pw60]); (try dsimp only [sAsg, sIf, sRet, sRetN, sDrop, sNext, asg, setAll, eT, eOp, eUn, eLst, eTup, eCons, eNil, eVar, eC, eCall, eCB, eNot, eAnd, eOr, eTru, eAndT, eOrT, eNotT, eIf, ePart, eNoPart, eYes, eChain, eChain3, oI, oI0, oLt, oLe, oGt, oGe, oNeg, oSub, oMod, oMul, oDivW, eXp, eXa, eConsX, eCallX, eCallN, eLstX, eCBX, sDropX, sRetX, sAsgX, sRaise, sRaiseF, List.set_cons_zero, List.set_cons_succ, List.getElem?_cons_zero, List.getElem?_cons_succ, truD_bl])
  refine add_ok (by simp) ?_
  try simp only [List.cons_append, List.nil_append]
  have nb1 : namB (.str (Str.ofString "")) = false := by decide +kernel
  have nb2 : namB (.str (Str.ofString "Ab")) = false := by decide +kernel
  have nb3 : namB (.str (Str.ofString "abcdefghi")) = false := by decide +kernel
  have nb4 : namB (.str (Str.ofString "a b")) = false := by decide +kernel
  have cst : ∀ z : String, (Str.ofString z).length ≤ 20 → EP5 (.str (Str.ofString z)) := fun z h => eo_s (asc_of z) h
  refine rest_ _ (fun d hd => ?_) rfl
  have no : ∀ {d : D}, TO 3 4000 d → rsB n d = false → TO 3 4000 d ∧ (rsB n d = false ∨ stName d ∈ (rs.take p).map Stretch.name) := fun h1 h2 => ⟨h1, .inl h2⟩
  have an := asc_name so.nm
  have l8 := so.nm.l8
  simp only [List.mem_cons, List.not_mem_nil, or_false] at hd
  rcases hd with rfl | rfl | rfl | rfl | rfl | rfl | rfl | rfl | rfl | rfl | rfl | rfl | rfl | rfl | rfl | rfl | rfl | rfl | rfl | rfl | rfl | rfl | rfl | rfl | rfl | rfl | rfl
  · exact no (to_eo eo_n) rfl
  · exact no (to_lst (all4 en eb ee ew) (by simp)) rfl
  · exact no (to_tup (fun x hx => by
      simp only [List.mem_cons, List.not_mem_nil, or_false] at hx
      rcases hx with rfl | rfl | rfl <;> assumption) (by simp)) rfl
  · exact no (to_tup (fun x hx => by
      simp only [List.mem_cons, List.not_mem_nil, or_false] at hx
      rcases hx with rfl | rfl | rfl | rfl | rfl
      · exact en
      · exact eb
      · exact ee
      · exact ew
      · exact eo_i (by decide) (by decide)) (by simp)) rfl
  · exact no (to_eo en) rfl
  · exact no (to_tup (fun x hx => by cases hx) (by simp)) rfl
  · exact no ⟨rfl, thg_dnil.mono (by decide) (by decide)⟩ rfl
  · exact no (to_4 (cst _ (by decide +kernel)) eb ee ew) (rs_n nb1)
  · exact no (to_4 (cst _ (by decide +kernel)) eb ee ew) (rs_n nb2)
  · exact no (to_4 (cst _ (by decide +kernel)) eb ee ew) (rs_n nb3)
  · exact no (to_4 (eo_i (by decide) (by decide)) eb ee ew) (rs_n rfl)
  · exact no (to_4 eo_n eb ee ew) (rs_n rfl)
  · exact no (to_4 (eo_l1 an (by omega)) eb ee ew) (rs_n rfl)
  · exact no (to_4 en (eo_i (by decide) (by decide)) ee ew) (rs_i (by omega))
  · exact no (to_4 en (eo_i (by omega) (by omega)) ee ew) (rs_i (by omega))
  · exact no (to_4 en (eo_b true) ee ew) (rs_b rfl)
  · exact no (to_4 en (cst _ (by decide +kernel)) ee (eo_i (by decide) (by decide))) (rs_b rfl)
  · exact no (to_4 en eb (eo_i (by decide) (by decide)) ew) (rs_i (by omega))
  · exact no (to_4 en eb (eo_i (by omega) (by omega)) ew) (rs_i (by omega))
  · exact no (to_4 en eb eo_n ew) (rs_e rfl)
  · exact no (to_4 en eb (eo_b true) ew) (rs_e rfl)
  · exact no (to_4 en eb ee (eo_i (by decide) (by decide))) (rs_i (by omega))
  · exact no (to_4 en eb ee (eo_i (by decide) (by decide))) (rs_i (by omega))
  · exact no (to_4 en eb ee (eo_b true)) (rs_w rfl)
  · exact no (to_4 en eb ee (cst _ (by decide +kernel))) (rs_w rfl)
  · exact no (to_4 en eb ee eo_n) (rs_w rfl)
  · exact no (to_4 (cst _ (by decide +kernel)) (eo_i (by decide) (by decide)) (eo_i (by decide) (by decide)) (eo_i (by decide) (by decide))) (rs_n nb4)
theorem badR_at {n : Int} {d : D} {post : List D} : ∀ (pre : List D) (ns : List Str) (k : Nat), (∀ x ∈ pre, rsB n x = true) → (ns ++ pre.map stName).Nodup → k + pre.length ≤ 24 → (k + pre.length = 24 ∨ rsB n d = false ∨ stName d ∈ ns ++ pre.map stName) → badR n ns k (pre ++ d :: post) = some (k + pre.length)
  | [], ns, k, _, _, _, hd => by
    simp only [List.nil_append, List.map_nil, List.append_nil, List.length_nil, Nat.add_zero] at hd ⊢
    unfold badR
    rw [if_pos hd]
  | x :: pre, ns, k, h, nd, hk, hd => by
    have e1 : ns ++ (x :: pre).map stName = (ns ++ [stName x]) ++ pre.map stName := by simp
    have e2 : k + (x :: pre).length = k + 1 + pre.length := by rw [List.length_cons]; omega
    rw [e1] at nd hd
    rw [e2] at hk hd ⊢
    have hx := h x (List.mem_cons_self ..)
    have nx : stName x ∉ ns := fun hm => by
      rw [List.nodup_append] at nd
      have := List.nodup_append.mp nd.1
      exact this.2.2 _ hm _ (List.mem_singleton.mpr rfl) rfl
    rw [List.cons_append]
    unfold badR
    rw [if_neg (by
      rintro (q | q | q)
      · omega
      · rw [hx] at q; cases q
      · exact nx q)]
    exact badR_at pre (ns ++ [stName x]) (k + 1) (fun y hy => h y (List.mem_cons_of_mem _ hy)) nd hk hd
theorem badR_ok {n : Int} : ∀ (pre : List D) (ns : List Str) (k : Nat), (∀ x ∈ pre, rsB n x = true) → (ns ++ pre.map stName).Nodup → k + pre.length ≤ 24 → badR n ns k pre = none
  | [], ns, k, _, _, _ => rfl
  | x :: pre, ns, k, h, nd, hk => by
    have e1 : ns ++ (x :: pre).map stName = (ns ++ [stName x]) ++ pre.map stName := by simp
    rw [e1] at nd
    rw [List.length_cons] at hk
    have hx := h x (List.mem_cons_self ..)
    have nx : stName x ∉ ns := fun hm => by
      rw [List.nodup_append] at nd
      have := List.nodup_append.mp nd.1
      exact this.2.2 _ hm _ (List.mem_singleton.mpr rfl) rfl
    unfold badR
    rw [if_neg (by
      rintro (q | q | q)
      · omega
      · rw [hx] at q; cases q
      · exact nx q)]
    exact badR_ok pre (ns ++ [stName x]) (k + 1) (fun y hy => h y (List.mem_cons_of_mem _ hy)) nd (by omega)
theorem st_names (rs : List Stretch) : (rs.map Stretch.d).map stName = rs.map Stretch.name := by rw [List.map_map]; rfl
/-- a row that is the ring's up to m, and there can't stand -/
theorem bad_ix {n : Int} {rs : List Stretch} {L : List D} {d : D} {m : Nat} (hr : ∀ s ∈ rs, RSOk n s) (nd : (rs.map Stretch.name).Nodup) (h1 : L.take m = (rs.take m).map Stretch.d) (h2 : L[m]? = some d) (hm : m ≤ 24) (ml : m ≤ rs.length)
    (hd : m = 24 ∨ rsB n d = false ∨ stName d ∈ (rs.take m).map Stretch.name) : badR n [] 0 L = some m := by
  have hl := (List.getElem?_eq_some_iff.mp h2).1
  have eL : L = L.take m ++ d :: L.drop (m + 1) := by
    have e := List.drop_eq_getElem_cons hl
    rw [(List.getElem?_eq_some_iff.mp h2).2] at e
    rw [← e, List.take_append_drop]
  have lp : ((rs.take m).map Stretch.d).length = m := by rw [List.length_map, List.length_take]; omega
  have := badR_at (n := n) (d := d) (post := L.drop (m + 1)) ((rs.take m).map Stretch.d) [] 0 (fun x hx => by
    obtain ⟨s, hs, rfl⟩ := List.mem_map.mp hx
    exact rs_ok (hr s (List.mem_of_mem_take hs))) (by
      rw [List.nil_append, st_names, List.map_take]
      exact nd.sublist (List.take_sublist _ _)) (by omega) (by rw [lp, List.nil_append, st_names, Nat.zero_add]; exact hd)
  rw [lp, Nat.zero_add] at this
  rw [eL, h1]
  exact this
theorem look_bad {n : Int} {L : List D} {m : Nat} (n1 : 1 ≤ n) (n2 : n ≤ 40) (h : badR n [] 0 L = some m) : lookR (.tup [.int n, .lst L]) = some (some m) := by
  simp only [lookR, intOf, if_pos (And.intro n1 n2), h]
  rfl
def azL : List Nat := (Str.ofString "abcdefghijklmnopqrstuvwxyz").cps.toList
def rs26 : List Stretch := azL.map fun c => (⟨repS ⟨#[c]⟩ 3, 0, 1, 1⟩ : Stretch)
theorem rs26_nm : ∀ s ∈ rs26, (1 ≤ s.name.length ∧ s.name.length ≤ 8 ∧ ∀ c ∈ s.name.cps.toList, 97 ≤ c ∧ c ≤ 122) ∧ s.b = 0 ∧ s.e = 1 ∧ s.w = 1 := by decide +kernel
theorem rs26_ok {n : Int} (n1 : 1 ≤ n) : ∀ s ∈ rs26, RSOk n s := fun s hs => by
  obtain ⟨⟨h1, h2, h3⟩, h4, h5, h6⟩ := rs26_nm s hs
  exact ⟨⟨h1, h2, h3⟩, by omega, by omega, by omega, by omega, by omega, by omega⟩
theorem rs26_nd : (rs26.map Stretch.name).Nodup := by decide +kernel
theorem rs26_len : rs26.length = 26 := by decide +kernel
theorem ring_to {n : Int} {rs : List Stretch} (hr : ∀ s ∈ rs, RSOk n s) (n2 : n ≤ 40) : ∀ d ∈ rs.map Stretch.d, TO 3 4000 d := fun d hd => by
  obtain ⟨s, hs, rfl⟩ := List.mem_map.mp hd
  obtain ⟨h1, h2, h3, h4⟩ := ring_eo (hr s hs) n2
  exact to_4 h1 h2 h3 h4
theorem row_to {L : List D} (h : ∀ d ∈ L, TO 3 4000 d) (hl : L.length ≤ 26) : TO 4 104054 (.lst L) := ⟨okT_lst.mpr fun d hd => (h d hd).1, (thg_lst (m := 26) (fun d hd => (h d hd).2) hl).mono (by decide) (by decide)⟩
theorem tup_to {L : List D} (h : ∀ d ∈ L, okT d = true ∧ Thg 4 104054 d) (hl : L.length ≤ 3) : TO 9 1000000 (.tup L) := ⟨okT_tup.mpr fun d hd => (h d hd).1, (thg_tup (m := 3) (fun d hd => (h d hd).2) hl).mono (by decide) (by decide)⟩
theorem lst_to {L : List D} (h : ∀ d ∈ L, okT d = true ∧ Thg 4 104054 d) (hl : L.length ≤ 3) : TO 9 1000000 (.lst L) := ⟨okT_lst.mpr fun d hd => (h d hd).1, (thg_lst (m := 3) (fun d hd => (h d hd).2) hl).mono (by decide) (by decide)⟩
theorem eo_to {x : D} (h : EP5 x) : okT x = true ∧ Thg 4 104054 x := ⟨h.1, h.2.mono (by decide) (by decide)⟩
theorem all2 {P : D → Prop} {a b : D} (ha : P a) (hb : P b) : ∀ x ∈ [a, b], P x := fun x hx => by
  simp only [List.mem_cons, List.not_mem_nil, or_false] at hx
  rcases hx with rfl | rfl <;> assumption
theorem all1 {P : D → Prop} {a : D} (ha : P a) : ∀ x ∈ [a], P x := fun x hx => by rw [List.mem_singleton.mp hx]; exact ha
theorem sIf_b {c : ET} {t u : ES} {N : En} {s : Sd} {G : Gp} (b : Bool) (hc : ∀ R : Bool → Gp → Prop, R b G → c s G R) (h : if b = true then t N s G else u N s G) : sIf c t u N s G := hc _ h
theorem eq_rs_nil {n : Int} {rs : List Stretch} {G : Gp} {Q : DK} (h : RgOk n rs) (q : Q (.bl rs.isEmpty) G) : oEq (.lst (rs.map Stretch.d)) (.lst []) G Q := by
  have s1 : Shp 2 (.list (rs.map Stretch.py)) := shp_list fun x hx => by
    obtain ⟨s, hs, rfl⟩ := List.mem_map.mp hx
    have nm := (h.all s hs).nm
    exact shp_tuple fun y hy => by
      simp only [List.mem_cons, List.not_mem_nil, or_false] at hy
      rcases hy with rfl | rfl | rfl | rfl
      · exact shp_name nm
      all_goals exact shp_int _
  have s2 : Shp 1 (.list []) := shp_list fun x hx => by cases hx
  have e1 : toPy G (.lst (rs.map Stretch.d)) = some (.list (rs.map Stretch.py)) := by simp [toPys_book]
  have e2 : toPy G (.lst []) = some (.list []) := by simp
  simp only [oEq, e1, e2, s1.shaped (by decide), s2.shaped (by decide), true_and]
  cases rs with
  | nil => rw [List.map_nil, eqv_self s2]; exact q
  | cons a l => simpa [PyData.eqv, PyData.eqvAll] using q
theorem d__law_odd (ds : List D) (G : Gp) (Q : DK) (h : F__law_odd ds G Q) : r__law_odd (fin G Q) (startD 11 ds) G := by
  obtain ⟨a, x, y, z, n, rs, rfl, hG, ok, hr, k⟩ := h
  have n1 := hr.n1
  have n2 := hr.n2
  have rl := hr.len
  have en : EP5 (.int n) := eo_i (by omega) (by omega)
  have rto := ring_to hr.all n2
  have er : TO 4 104054 (.lst (rs.map Stretch.d)) := row_to rto (by rw [List.length_map]; omega)
  have done : ∀ (d : D) (r : Option Nat) x y z, Ok3 x y z → TO 9 1000000 d → lookR d = some r → (fin G Q).rt (.tup [d, numD r]) (gput G a (stO x y z)) := fun d r x y z ok h1 h2 => fin_stP hG (fun b u e => e) (okT_plain (okT_tup.mpr (all2 h1.1 (by cases r <;> rfl)))) (k d r x y z ok h1 h2)
  have doneP : ∀ (L : List D) (r : Option Nat) (p : Addr) x y z, G p = none → Ok3 x y z → (∀ d ∈ L, TO 3 4000 d) → L.length ≤ 26 → lookR (.tup [.int n, .lst L]) = some r → (fin G Q).rt (.tup [.tup [.int n, .ref p], numD r]) (gput (gput G a (stO x y z)) p (.lst L)) := fun L r p x y z hp ok h1 h2 h3 => by
    have t := row_to h1 h2
    have tt : TO 9 1000000 (.tup [.int n, .lst L]) := tup_to (all2 (eo_to en) t) (by simp)
    have ef : frz p L (.tup [.tup [.int n, .ref p], numD r]) = .tup [.tup [.int n, .lst L], numD r] := by
      cases r <;> simp [frz, frzs, numD]
    refine fin_stF hG hp rfl (by have := okT_plain t.1; simpa [plainD] using this) ?_ ?_
    · rw [ef]
      exact okT_plain (okT_tup.mpr (all2 tt.1 (by cases r <;> rfl)))
    · rw [ef]
      exact k _ r x y z ok tt h3
  refine seq_gen fun W hW => ?_
  (try dsimp only [sAsg, sIf, sRet, sRetN, sDrop, sNext, asg, setAll, eT, eOp, eUn, eLst, eTup, eCons, eNil, eVar, eC, eCall, eCB, eNot, eAnd, eOr, eTru, eAndT, eOrT, eNotT, eIf, ePart, eNoPart, eYes, eChain, eChain3, oI, oI0, oLt, oLe, oGt, oGe, oNeg, oSub, oMod, oMul, oDivW, eXp, eXa, eConsX, eCallX, eCallN, eLstX, eCBX, sDropX, sRetX, sAsgX, sRaise, sRaiseF, List.set_cons_zero, List.set_cons_succ, List.getElem?_cons_zero, List.getElem?_cons_succ, truD_bl, startD, List.map_cons, List.map_nil, List.cons_append, List.nil_append, List.replicate, ringD, lkQ_tup]); (try simp only [if_true, Bool.false_eq_true, if_false, decide_true, decide_false, Bool.not_true, Bool.not_false, List.length_cons, List.length_nil, sizeLine_eq, Nat.reduceAdd, Nat.reduceLeDiff, true_and, and_true, pw6, pw10, pw11, pw12, pw13, pw30, pw40, pw60, startD, List.map_cons, List.map_nil, List.cons_append, List.nil_append, List.replicate, ringD, lkQ_tup]); (try dsimp only [sAsg, sIf, sRet, sRetN, sDrop, sNext, asg, setAll, eT, eOp, eUn, eLst, eTup, eCons, eNil, eVar, eC, eCall, eCB, eNot, eAnd, eOr, eTru, eAndT, eOrT, eNotT, eIf, ePart, eNoPart, eYes, eChain, eChain3, oI, oI0, oLt, oLe, oGt, oGe, oNeg, oSub, oMod, oMul, oDivW, eXp, eXa, eConsX, eCallX, eCallN, eLstX, eCBX, sDropX, sRetX, sAsgX, sRaise, sRaiseF, List.set_cons_zero, List.set_cons_succ, List.getElem?_cons_zero, List.getElem?_cons_succ, truD_bl, startD, List.map_cons, List.map_nil, List.cons_append, List.nil_append, List.replicate, ringD, lkQ_tup])
  refine hW _ _ ?_
  refine seq_gen fun W2 hW2 => ?_
  (try dsimp only [sAsg, sIf, sRet, sRetN, sDrop, sNext, asg, setAll, eT, eOp, eUn, eLst, eTup, eCons, eNil, eVar, eC, eCall, eCB, eNot, eAnd, eOr, eTru, eAndT, eOrT, eNotT, eIf, ePart, eNoPart, eYes, eChain, eChain3, oI, oI0, oLt, oLe, oGt, oGe, oNeg, oSub, oMod, oMul, oDivW, eXp, eXa, eConsX, eCallX, eCallN, eLstX, eCBX, sDropX, sRetX, sAsgX, sRaise, sRaiseF, List.set_cons_zero, List.set_cons_succ, List.getElem?_cons_zero, List.getElem?_cons_succ, truD_bl]); (try simp only [if_true, Bool.false_eq_true, if_false, decide_true, decide_false, Bool.not_true, Bool.not_false, List.length_cons, List.length_nil, sizeLine_eq, Nat.reduceAdd, Nat.reduceLeDiff, true_and, and_true, pw6, pw10, pw11, pw12, pw13, pw30, pw40, pw60]); (try dsimp only [sAsg, sIf, sRet, sRetN, sDrop, sNext, asg, setAll, eT, eOp, eUn, eLst, eTup, eCons, eNil, eVar, eC, eCall, eCB, eNot, eAnd, eOr, eTru, eAndT, eOrT, eNotT, eIf, ePart, eNoPart, eYes, eChain, eChain3, oI, oI0, oLt, oLe, oGt, oGe, oNeg, oSub, oMod, oMul, oDivW, eXp, eXa, eConsX, eCallX, eCallN, eLstX, eCBX, sDropX, sRetX, sAsgX, sRaise, sRaiseF, List.set_cons_zero, List.set_cons_succ, List.getElem?_cons_zero, List.getElem?_cons_succ, truD_bl])
  refine take_ok hG ok (wd_of (by decide) (by decide)) fun way x y z ok w0 w1 => hW2 _ _ ?_
  refine seq_gen fun W3 hW3 => ?_
  (try dsimp only [sAsg, sIf, sRet, sRetN, sDrop, sNext, asg, setAll, eT, eOp, eUn, eLst, eTup, eCons, eNil, eVar, eC, eCall, eCB, eNot, eAnd, eOr, eTru, eAndT, eOrT, eNotT, eIf, ePart, eNoPart, eYes, eChain, eChain3, oI, oI0, oLt, oLe, oGt, oGe, oNeg, oSub, oMod, oMul, oDivW, eXp, eXa, eConsX, eCallX, eCallN, eLstX, eCBX, sDropX, sRetX, sAsgX, sRaise, sRaiseF, List.set_cons_zero, List.set_cons_succ, List.getElem?_cons_zero, List.getElem?_cons_succ, truD_bl]); (try simp only [if_true, Bool.false_eq_true, if_false, decide_true, decide_false, Bool.not_true, Bool.not_false, List.length_cons, List.length_nil, sizeLine_eq, Nat.reduceAdd, Nat.reduceLeDiff, true_and, and_true, pw6, pw10, pw11, pw12, pw13, pw30, pw40, pw60]); (try dsimp only [sAsg, sIf, sRet, sRetN, sDrop, sNext, asg, setAll, eT, eOp, eUn, eLst, eTup, eCons, eNil, eVar, eC, eCall, eCB, eNot, eAnd, eOr, eTru, eAndT, eOrT, eNotT, eIf, ePart, eNoPart, eYes, eChain, eChain3, oI, oI0, oLt, oLe, oGt, oGe, oNeg, oSub, oMod, oMul, oDivW, eXp, eXa, eConsX, eCallX, eCallN, eLstX, eCBX, sDropX, sRetX, sAsgX, sRaise, sRaiseF, List.set_cons_zero, List.set_cons_succ, List.getElem?_cons_zero, List.getElem?_cons_succ, truD_bl])
  refine eq_ii ?_
  by_cases c0 : way = 0
  · rw [decide_eq_true c0]
    (try dsimp only [sAsg, sIf, sRet, sRetN, sDrop, sNext, asg, setAll, eT, eOp, eUn, eLst, eTup, eCons, eNil, eVar, eC, eCall, eCB, eNot, eAnd, eOr, eTru, eAndT, eOrT, eNotT, eIf, ePart, eNoPart, eYes, eChain, eChain3, oI, oI0, oLt, oLe, oGt, oGe, oNeg, oSub, oMod, oMul, oDivW, eXp, eXa, eConsX, eCallX, eCallN, eLstX, eCBX, sDropX, sRetX, sAsgX, sRaise, sRaiseF, List.set_cons_zero, List.set_cons_succ, List.getElem?_cons_zero, List.getElem?_cons_succ, truD_bl]); (try simp only [if_true, Bool.false_eq_true, if_false, decide_true, decide_false, Bool.not_true, Bool.not_false, List.length_cons, List.length_nil, sizeLine_eq, Nat.reduceAdd, Nat.reduceLeDiff, true_and, and_true, pw6, pw10, pw11, pw12, pw13, pw30, pw40, pw60]); (try dsimp only [sAsg, sIf, sRet, sRetN, sDrop, sNext, asg, setAll, eT, eOp, eUn, eLst, eTup, eCons, eNil, eVar, eC, eCall, eCB, eNot, eAnd, eOr, eTru, eAndT, eOrT, eNotT, eIf, ePart, eNoPart, eYes, eChain, eChain3, oI, oI0, oLt, oLe, oGt, oGe, oNeg, oSub, oMod, oMul, oDivW, eXp, eXa, eConsX, eCallX, eCallN, eLstX, eCBX, sDropX, sRetX, sAsgX, sRaise, sRaiseF, List.set_cons_zero, List.set_cons_succ, List.getElem?_cons_zero, List.getElem?_cons_succ, truD_bl])
    refine seq_gen fun W4 hW4 => ?_
    (try dsimp only [sAsg, sIf, sRet, sRetN, sDrop, sNext, asg, setAll, eT, eOp, eUn, eLst, eTup, eCons, eNil, eVar, eC, eCall, eCB, eNot, eAnd, eOr, eTru, eAndT, eOrT, eNotT, eIf, ePart, eNoPart, eYes, eChain, eChain3, oI, oI0, oLt, oLe, oGt, oGe, oNeg, oSub, oMod, oMul, oDivW, eXp, eXa, eConsX, eCallX, eCallN, eLstX, eCBX, sDropX, sRetX, sAsgX, sRaise, sRaiseF, List.set_cons_zero, List.set_cons_succ, List.getElem?_cons_zero, List.getElem?_cons_succ, truD_bl]); (try simp only [if_true, Bool.false_eq_true, if_false, decide_true, decide_false, Bool.not_true, Bool.not_false, List.length_cons, List.length_nil, sizeLine_eq, Nat.reduceAdd, Nat.reduceLeDiff, true_and, and_true, pw6, pw10, pw11, pw12, pw13, pw30, pw40, pw60]); (try dsimp only [sAsg, sIf, sRet, sRetN, sDrop, sNext, asg, setAll, eT, eOp, eUn, eLst, eTup, eCons, eNil, eVar, eC, eCall, eCB, eNot, eAnd, eOr, eTru, eAndT, eOrT, eNotT, eIf, ePart, eNoPart, eYes, eChain, eChain3, oI, oI0, oLt, oLe, oGt, oGe, oNeg, oSub, oMod, oMul, oDivW, eXp, eXa, eConsX, eCallX, eCallN, eLstX, eCBX, sDropX, sRetX, sAsgX, sRaise, sRaiseF, List.set_cons_zero, List.set_cons_succ, List.getElem?_cons_zero, List.getElem?_cons_succ, truD_bl])
    refine hW4 _ _ ?_
    refine seq_gen fun W5 hW5 => ?_
    (try dsimp only [sAsg, sIf, sRet, sRetN, sDrop, sNext, asg, setAll, eT, eOp, eUn, eLst, eTup, eCons, eNil, eVar, eC, eCall, eCB, eNot, eAnd, eOr, eTru, eAndT, eOrT, eNotT, eIf, ePart, eNoPart, eYes, eChain, eChain3, oI, oI0, oLt, oLe, oGt, oGe, oNeg, oSub, oMod, oMul, oDivW, eXp, eXa, eConsX, eCallX, eCallN, eLstX, eCBX, sDropX, sRetX, sAsgX, sRaise, sRaiseF, List.set_cons_zero, List.set_cons_succ, List.getElem?_cons_zero, List.getElem?_cons_succ, truD_bl, eDnew0]); (try simp only [if_true, Bool.false_eq_true, if_false, decide_true, decide_false, Bool.not_true, Bool.not_false, List.length_cons, List.length_nil, sizeLine_eq, Nat.reduceAdd, Nat.reduceLeDiff, true_and, and_true, pw6, pw10, pw11, pw12, pw13, pw30, pw40, pw60, eDnew0]); (try dsimp only [sAsg, sIf, sRet, sRetN, sDrop, sNext, asg, setAll, eT, eOp, eUn, eLst, eTup, eCons, eNil, eVar, eC, eCall, eCB, eNot, eAnd, eOr, eTru, eAndT, eOrT, eNotT, eIf, ePart, eNoPart, eYes, eChain, eChain3, oI, oI0, oLt, oLe, oGt, oGe, oNeg, oSub, oMod, oMul, oDivW, eXp, eXa, eConsX, eCallX, eCallN, eLstX, eCBX, sDropX, sRetX, sAsgX, sRaise, sRaiseF, List.set_cons_zero, List.set_cons_succ, List.getElem?_cons_zero, List.getElem?_cons_succ, truD_bl, eDnew0])
    refine add_ok (by simp) (hW5 _ _ ?_)
    (try dsimp only [sAsg, sIf, sRet, sRetN, sDrop, sNext, asg, setAll, eT, eOp, eUn, eLst, eTup, eCons, eNil, eVar, eC, eCall, eCB, eNot, eAnd, eOr, eTru, eAndT, eOrT, eNotT, eIf, ePart, eNoPart, eYes, eChain, eChain3, oI, oI0, oLt, oLe, oGt, oGe, oNeg, oSub, oMod, oMul, oDivW, eXp, eXa, eConsX, eCallX, eCallN, eLstX, eCBX, sDropX, sRetX, sAsgX, sRaise, sRaiseF, List.set_cons_zero, List.set_cons_succ, List.getElem?_cons_zero, List.getElem?_cons_succ, truD_bl]); (try simp only [if_true, Bool.false_eq_true, if_false, decide_true, decide_false, Bool.not_true, Bool.not_false, List.length_cons, List.length_nil, sizeLine_eq, Nat.reduceAdd, Nat.reduceLeDiff, true_and, and_true, pw6, pw10, pw11, pw12, pw13, pw30, pw40, pw60]); (try dsimp only [sAsg, sIf, sRet, sRetN, sDrop, sNext, asg, setAll, eT, eOp, eUn, eLst, eTup, eCons, eNil, eVar, eC, eCall, eCB, eNot, eAnd, eOr, eTru, eAndT, eOrT, eNotT, eIf, ePart, eNoPart, eYes, eChain, eChain3, oI, oI0, oLt, oLe, oGt, oGe, oNeg, oSub, oMod, oMul, oDivW, eXp, eXa, eConsX, eCallX, eCallN, eLstX, eCBX, sDropX, sRetX, sAsgX, sRaise, sRaiseF, List.set_cons_zero, List.set_cons_succ, List.getElem?_cons_zero, List.getElem?_cons_succ, truD_bl])
    refine add_ok (by simp) ?_
    refine take_ok gput_same ok (wd_of (by decide) (by decide)) fun j x y z ok j0 j1 => ?_
    rw [gput_gput]
    try simp only [List.cons_append, List.nil_append]
    refine ix_allP (P := fun d => TO 9 1000000 d ∧ lookR d = some none) (fun d hd => ?_) j0 (by simpa using j1) fun d hd => done d none x y z ok hd.1 hd.2
    simp only [List.mem_cons, List.not_mem_nil, or_false] at hd
    have w : ∀ {d : D}, okT d = true ∧ Thg 4 104054 d → TO 9 1000000 d := fun h => ⟨h.1, h.2.mono (by decide) (by decide)⟩
    rcases hd with rfl | rfl | rfl | rfl | rfl | rfl | rfl | rfl | rfl | rfl
    · exact ⟨w (eo_to eo_n), rfl⟩
    · exact ⟨lst_to (all2 (eo_to en) er) (by simp), rfl⟩
    · exact ⟨tup_to (all1 (eo_to en)) (by simp), rfl⟩
    · refine ⟨tup_to (fun x hx => ?_) (by simp), rfl⟩
      simp only [List.mem_cons, List.not_mem_nil, or_false] at hx
      rcases hx with rfl | rfl | rfl
      · exact eo_to en
      · exact er
      · exact eo_to (eo_i (by decide) (by decide))
    · exact ⟨w (eo_to en), rfl⟩
    · exact ⟨w er, rfl⟩
    · exact ⟨tup_to (fun x hx => by cases hx) (by simp), rfl⟩
    · exact ⟨⟨rfl, thg_dnil.mono (by decide) (by decide)⟩, rfl⟩
    · exact ⟨w (eo_to (eo_s (asc_of "ring") (by decide +kernel))), rfl⟩
    · exact ⟨tup_to (all2 er (eo_to en)) (by simp), rfl⟩
  rw [decide_eq_false c0]
  (try dsimp only [sAsg, sIf, sRet, sRetN, sDrop, sNext, asg, setAll, eT, eOp, eUn, eLst, eTup, eCons, eNil, eVar, eC, eCall, eCB, eNot, eAnd, eOr, eTru, eAndT, eOrT, eNotT, eIf, ePart, eNoPart, eYes, eChain, eChain3, oI, oI0, oLt, oLe, oGt, oGe, oNeg, oSub, oMod, oMul, oDivW, eXp, eXa, eConsX, eCallX, eCallN, eLstX, eCBX, sDropX, sRetX, sAsgX, sRaise, sRaiseF, List.set_cons_zero, List.set_cons_succ, List.getElem?_cons_zero, List.getElem?_cons_succ, truD_bl]); (try simp only [if_true, Bool.false_eq_true, if_false, decide_true, decide_false, Bool.not_true, Bool.not_false, List.length_cons, List.length_nil, sizeLine_eq, Nat.reduceAdd, Nat.reduceLeDiff, true_and, and_true, pw6, pw10, pw11, pw12, pw13, pw30, pw40, pw60]); (try dsimp only [sAsg, sIf, sRet, sRetN, sDrop, sNext, asg, setAll, eT, eOp, eUn, eLst, eTup, eCons, eNil, eVar, eC, eCall, eCB, eNot, eAnd, eOr, eTru, eAndT, eOrT, eNotT, eIf, ePart, eNoPart, eYes, eChain, eChain3, oI, oI0, oLt, oLe, oGt, oGe, oNeg, oSub, oMod, oMul, oDivW, eXp, eXa, eConsX, eCallX, eCallN, eLstX, eCBX, sDropX, sRetX, sAsgX, sRaise, sRaiseF, List.set_cons_zero, List.set_cons_succ, List.getElem?_cons_zero, List.getElem?_cons_succ, truD_bl])
  refine hW3 _ _ ?_
  refine seq_gen fun W4 hW4 => ?_
  (try dsimp only [sAsg, sIf, sRet, sRetN, sDrop, sNext, asg, setAll, eT, eOp, eUn, eLst, eTup, eCons, eNil, eVar, eC, eCall, eCB, eNot, eAnd, eOr, eTru, eAndT, eOrT, eNotT, eIf, ePart, eNoPart, eYes, eChain, eChain3, oI, oI0, oLt, oLe, oGt, oGe, oNeg, oSub, oMod, oMul, oDivW, eXp, eXa, eConsX, eCallX, eCallN, eLstX, eCBX, sDropX, sRetX, sAsgX, sRaise, sRaiseF, List.set_cons_zero, List.set_cons_succ, List.getElem?_cons_zero, List.getElem?_cons_succ, truD_bl]); (try simp only [if_true, Bool.false_eq_true, if_false, decide_true, decide_false, Bool.not_true, Bool.not_false, List.length_cons, List.length_nil, sizeLine_eq, Nat.reduceAdd, Nat.reduceLeDiff, true_and, and_true, pw6, pw10, pw11, pw12, pw13, pw30, pw40, pw60]); (try dsimp only [sAsg, sIf, sRet, sRetN, sDrop, sNext, asg, setAll, eT, eOp, eUn, eLst, eTup, eCons, eNil, eVar, eC, eCall, eCB, eNot, eAnd, eOr, eTru, eAndT, eOrT, eNotT, eIf, ePart, eNoPart, eYes, eChain, eChain3, oI, oI0, oLt, oLe, oGt, oGe, oNeg, oSub, oMod, oMul, oDivW, eXp, eXa, eConsX, eCallX, eCallN, eLstX, eCBX, sDropX, sRetX, sAsgX, sRaise, sRaiseF, List.set_cons_zero, List.set_cons_succ, List.getElem?_cons_zero, List.getElem?_cons_succ, truD_bl])
  refine eq_ii ?_
  by_cases c1 : way = 1
  · rw [decide_eq_true c1]
    (try dsimp only [sAsg, sIf, sRet, sRetN, sDrop, sNext, asg, setAll, eT, eOp, eUn, eLst, eTup, eCons, eNil, eVar, eC, eCall, eCB, eNot, eAnd, eOr, eTru, eAndT, eOrT, eNotT, eIf, ePart, eNoPart, eYes, eChain, eChain3, oI, oI0, oLt, oLe, oGt, oGe, oNeg, oSub, oMod, oMul, oDivW, eXp, eXa, eConsX, eCallX, eCallN, eLstX, eCBX, sDropX, sRetX, sAsgX, sRaise, sRaiseF, List.set_cons_zero, List.set_cons_succ, List.getElem?_cons_zero, List.getElem?_cons_succ, truD_bl]); (try simp only [if_true, Bool.false_eq_true, if_false, decide_true, decide_false, Bool.not_true, Bool.not_false, List.length_cons, List.length_nil, sizeLine_eq, Nat.reduceAdd, Nat.reduceLeDiff, true_and, and_true, pw6, pw10, pw11, pw12, pw13, pw30, pw40, pw60]); (try dsimp only [sAsg, sIf, sRet, sRetN, sDrop, sNext, asg, setAll, eT, eOp, eUn, eLst, eTup, eCons, eNil, eVar, eC, eCall, eCB, eNot, eAnd, eOr, eTru, eAndT, eOrT, eNotT, eIf, ePart, eNoPart, eYes, eChain, eChain3, oI, oI0, oLt, oLe, oGt, oGe, oNeg, oSub, oMod, oMul, oDivW, eXp, eXa, eConsX, eCallX, eCallN, eLstX, eCBX, sDropX, sRetX, sAsgX, sRaise, sRaiseF, List.set_cons_zero, List.set_cons_succ, List.getElem?_cons_zero, List.getElem?_cons_succ, truD_bl])
    refine seq_gen fun W5 hW5 => ?_
    (try dsimp only [sAsg, sIf, sRet, sRetN, sDrop, sNext, asg, setAll, eT, eOp, eUn, eLst, eTup, eCons, eNil, eVar, eC, eCall, eCB, eNot, eAnd, eOr, eTru, eAndT, eOrT, eNotT, eIf, ePart, eNoPart, eYes, eChain, eChain3, oI, oI0, oLt, oLe, oGt, oGe, oNeg, oSub, oMod, oMul, oDivW, eXp, eXa, eConsX, eCallX, eCallN, eLstX, eCBX, sDropX, sRetX, sAsgX, sRaise, sRaiseF, List.set_cons_zero, List.set_cons_succ, List.getElem?_cons_zero, List.getElem?_cons_succ, truD_bl]); (try simp only [if_true, Bool.false_eq_true, if_false, decide_true, decide_false, Bool.not_true, Bool.not_false, List.length_cons, List.length_nil, sizeLine_eq, Nat.reduceAdd, Nat.reduceLeDiff, true_and, and_true, pw6, pw10, pw11, pw12, pw13, pw30, pw40, pw60]); (try dsimp only [sAsg, sIf, sRet, sRetN, sDrop, sNext, asg, setAll, eT, eOp, eUn, eLst, eTup, eCons, eNil, eVar, eC, eCall, eCB, eNot, eAnd, eOr, eTru, eAndT, eOrT, eNotT, eIf, ePart, eNoPart, eYes, eChain, eChain3, oI, oI0, oLt, oLe, oGt, oGe, oNeg, oSub, oMod, oMul, oDivW, eXp, eXa, eConsX, eCallX, eCallN, eLstX, eCBX, sDropX, sRetX, sAsgX, sRaise, sRaiseF, List.set_cons_zero, List.set_cons_succ, List.getElem?_cons_zero, List.getElem?_cons_succ, truD_bl])
    refine hW5 _ _ ?_
    (try dsimp only [sAsg, sIf, sRet, sRetN, sDrop, sNext, asg, setAll, eT, eOp, eUn, eLst, eTup, eCons, eNil, eVar, eC, eCall, eCB, eNot, eAnd, eOr, eTru, eAndT, eOrT, eNotT, eIf, ePart, eNoPart, eYes, eChain, eChain3, oI, oI0, oLt, oLe, oGt, oGe, oNeg, oSub, oMod, oMul, oDivW, eXp, eXa, eConsX, eCallX, eCallN, eLstX, eCBX, sDropX, sRetX, sAsgX, sRaise, sRaiseF, List.set_cons_zero, List.set_cons_succ, List.getElem?_cons_zero, List.getElem?_cons_succ, truD_bl]); (try simp only [if_true, Bool.false_eq_true, if_false, decide_true, decide_false, Bool.not_true, Bool.not_false, List.length_cons, List.length_nil, sizeLine_eq, Nat.reduceAdd, Nat.reduceLeDiff, true_and, and_true, pw6, pw10, pw11, pw12, pw13, pw30, pw40, pw60]); (try dsimp only [sAsg, sIf, sRet, sRetN, sDrop, sNext, asg, setAll, eT, eOp, eUn, eLst, eTup, eCons, eNil, eVar, eC, eCall, eCB, eNot, eAnd, eOr, eTru, eAndT, eOrT, eNotT, eIf, ePart, eNoPart, eYes, eChain, eChain3, oI, oI0, oLt, oLe, oGt, oGe, oNeg, oSub, oMod, oMul, oDivW, eXp, eXa, eConsX, eCallX, eCallN, eLstX, eCBX, sDropX, sRetX, sAsgX, sRaise, sRaiseF, List.set_cons_zero, List.set_cons_succ, List.getElem?_cons_zero, List.getElem?_cons_succ, truD_bl])
    refine take_ok gput_same ok (wd_of (by decide) (by decide)) fun j x y z ok j0 j1 => ?_
    rw [gput_gput]
    refine ix_allP (P := fun d => EP5 d ∧ lookR (.tup [d, .lst (rs.map Stretch.d)]) = some none) (fun d hd => ?_) j0 (by simpa using j1) fun d hd => done _ none x y z ok (tup_to (all2 (eo_to hd.1) er) (by simp)) hd.2
    simp only [List.mem_cons, List.not_mem_nil, or_false] at hd
    rcases hd with rfl | rfl | rfl | rfl | rfl | rfl | rfl | rfl | rfl | rfl
    · exact ⟨eo_i (by decide) (by decide), rfl⟩
    · exact ⟨eo_i (by decide) (by decide), rfl⟩
    · exact ⟨eo_i (by decide) (by decide), rfl⟩
    · exact ⟨eo_b true, rfl⟩
    · exact ⟨eo_n, rfl⟩
    · exact ⟨eo_s (asc_of "3") (by decide +kernel), rfl⟩
    · exact ⟨⟨rfl, (thg_lst (k := 0) (n := 61) (m := 1) (all1 (thg_i (by omega) (by omega))) (by simp)).mono (by decide) (by decide)⟩, rfl⟩
    · exact ⟨⟨rfl, (thg_tup (k := 0) (n := 61) (m := 1) (all1 (thg_i (by omega) (by omega))) (by simp)).mono (by decide) (by decide)⟩, rfl⟩
    · exact ⟨eo_i (by decide) (by decide), rfl⟩
    · exact ⟨eo_b false, rfl⟩
  rw [decide_eq_false c1]
  (try dsimp only [sAsg, sIf, sRet, sRetN, sDrop, sNext, asg, setAll, eT, eOp, eUn, eLst, eTup, eCons, eNil, eVar, eC, eCall, eCB, eNot, eAnd, eOr, eTru, eAndT, eOrT, eNotT, eIf, ePart, eNoPart, eYes, eChain, eChain3, oI, oI0, oLt, oLe, oGt, oGe, oNeg, oSub, oMod, oMul, oDivW, eXp, eXa, eConsX, eCallX, eCallN, eLstX, eCBX, sDropX, sRetX, sAsgX, sRaise, sRaiseF, List.set_cons_zero, List.set_cons_succ, List.getElem?_cons_zero, List.getElem?_cons_succ, truD_bl]); (try simp only [if_true, Bool.false_eq_true, if_false, decide_true, decide_false, Bool.not_true, Bool.not_false, List.length_cons, List.length_nil, sizeLine_eq, Nat.reduceAdd, Nat.reduceLeDiff, true_and, and_true, pw6, pw10, pw11, pw12, pw13, pw30, pw40, pw60]); (try dsimp only [sAsg, sIf, sRet, sRetN, sDrop, sNext, asg, setAll, eT, eOp, eUn, eLst, eTup, eCons, eNil, eVar, eC, eCall, eCB, eNot, eAnd, eOr, eTru, eAndT, eOrT, eNotT, eIf, ePart, eNoPart, eYes, eChain, eChain3, oI, oI0, oLt, oLe, oGt, oGe, oNeg, oSub, oMod, oMul, oDivW, eXp, eXa, eConsX, eCallX, eCallN, eLstX, eCBX, sDropX, sRetX, sAsgX, sRaise, sRaiseF, List.set_cons_zero, List.set_cons_succ, List.getElem?_cons_zero, List.getElem?_cons_succ, truD_bl])
  refine hW4 _ _ ?_
  refine seq_gen fun W5 hW5 => ?_
  (try dsimp only [sAsg, sIf, sRet, sRetN, sDrop, sNext, asg, setAll, eT, eOp, eUn, eLst, eTup, eCons, eNil, eVar, eC, eCall, eCB, eNot, eAnd, eOr, eTru, eAndT, eOrT, eNotT, eIf, ePart, eNoPart, eYes, eChain, eChain3, oI, oI0, oLt, oLe, oGt, oGe, oNeg, oSub, oMod, oMul, oDivW, eXp, eXa, eConsX, eCallX, eCallN, eLstX, eCBX, sDropX, sRetX, sAsgX, sRaise, sRaiseF, List.set_cons_zero, List.set_cons_succ, List.getElem?_cons_zero, List.getElem?_cons_succ, truD_bl]); (try simp only [if_true, Bool.false_eq_true, if_false, decide_true, decide_false, Bool.not_true, Bool.not_false, List.length_cons, List.length_nil, sizeLine_eq, Nat.reduceAdd, Nat.reduceLeDiff, true_and, and_true, pw6, pw10, pw11, pw12, pw13, pw30, pw40, pw60]); (try dsimp only [sAsg, sIf, sRet, sRetN, sDrop, sNext, asg, setAll, eT, eOp, eUn, eLst, eTup, eCons, eNil, eVar, eC, eCall, eCB, eNot, eAnd, eOr, eTru, eAndT, eOrT, eNotT, eIf, ePart, eNoPart, eYes, eChain, eChain3, oI, oI0, oLt, oLe, oGt, oGe, oNeg, oSub, oMod, oMul, oDivW, eXp, eXa, eConsX, eCallX, eCallN, eLstX, eCBX, sDropX, sRetX, sAsgX, sRaise, sRaiseF, List.set_cons_zero, List.set_cons_succ, List.getElem?_cons_zero, List.getElem?_cons_succ, truD_bl])
  refine eq_ii ?_
  by_cases c2 : way = 2
  · rw [decide_eq_true c2]
    (try dsimp only [sAsg, sIf, sRet, sRetN, sDrop, sNext, asg, setAll, eT, eOp, eUn, eLst, eTup, eCons, eNil, eVar, eC, eCall, eCB, eNot, eAnd, eOr, eTru, eAndT, eOrT, eNotT, eIf, ePart, eNoPart, eYes, eChain, eChain3, oI, oI0, oLt, oLe, oGt, oGe, oNeg, oSub, oMod, oMul, oDivW, eXp, eXa, eConsX, eCallX, eCallN, eLstX, eCBX, sDropX, sRetX, sAsgX, sRaise, sRaiseF, List.set_cons_zero, List.set_cons_succ, List.getElem?_cons_zero, List.getElem?_cons_succ, truD_bl, cTuple, lkL_lst, eDnew0]); (try simp only [if_true, Bool.false_eq_true, if_false, decide_true, decide_false, Bool.not_true, Bool.not_false, List.length_cons, List.length_nil, sizeLine_eq, Nat.reduceAdd, Nat.reduceLeDiff, true_and, and_true, pw6, pw10, pw11, pw12, pw13, pw30, pw40, pw60, cTuple, lkL_lst, eDnew0]); (try dsimp only [sAsg, sIf, sRet, sRetN, sDrop, sNext, asg, setAll, eT, eOp, eUn, eLst, eTup, eCons, eNil, eVar, eC, eCall, eCB, eNot, eAnd, eOr, eTru, eAndT, eOrT, eNotT, eIf, ePart, eNoPart, eYes, eChain, eChain3, oI, oI0, oLt, oLe, oGt, oGe, oNeg, oSub, oMod, oMul, oDivW, eXp, eXa, eConsX, eCallX, eCallN, eLstX, eCBX, sDropX, sRetX, sAsgX, sRaise, sRaiseF, List.set_cons_zero, List.set_cons_succ, List.getElem?_cons_zero, List.getElem?_cons_succ, truD_bl, cTuple, lkL_lst, eDnew0])
    refine take_ok gput_same ok (wd_of (by decide) (by decide)) fun j x y z ok j0 j1 => ?_
    rw [gput_gput]
    refine ix_allP (P := fun d => (okT d = true ∧ Thg 4 104054 d) ∧ lookR (.tup [.int n, d]) = some none) (fun d hd => ?_) j0 (by simpa using j1) fun d hd => done _ none x y z ok (tup_to (all2 (eo_to en) hd.1) (by simp)) hd.2
    simp only [List.mem_cons, List.not_mem_nil, or_false] at hd
    rcases hd with rfl | rfl | rfl | rfl | rfl | rfl
    · exact ⟨eo_to eo_n, rfl⟩
    · exact ⟨⟨okT_tup.mpr fun d hd => (rto d hd).1, (thg_tup (m := 24) (fun d hd => (rto d hd).2) (by rw [List.length_map]; omega)).mono (by decide) (by decide)⟩, rfl⟩
    · exact ⟨⟨rfl, thg_dnil.mono (by decide) (by decide)⟩, rfl⟩
    · exact ⟨eo_to (eo_i (by decide) (by decide)), rfl⟩
    · exact ⟨eo_to (eo_s (asc_of "") (by decide +kernel)), rfl⟩
    · exact ⟨eo_to (eo_s (asc_of "abc") (by decide +kernel)), rfl⟩
  rw [decide_eq_false c2]
  (try dsimp only [sAsg, sIf, sRet, sRetN, sDrop, sNext, asg, setAll, eT, eOp, eUn, eLst, eTup, eCons, eNil, eVar, eC, eCall, eCB, eNot, eAnd, eOr, eTru, eAndT, eOrT, eNotT, eIf, ePart, eNoPart, eYes, eChain, eChain3, oI, oI0, oLt, oLe, oGt, oGe, oNeg, oSub, oMod, oMul, oDivW, eXp, eXa, eConsX, eCallX, eCallN, eLstX, eCBX, sDropX, sRetX, sAsgX, sRaise, sRaiseF, List.set_cons_zero, List.set_cons_succ, List.getElem?_cons_zero, List.getElem?_cons_succ, truD_bl]); (try simp only [if_true, Bool.false_eq_true, if_false, decide_true, decide_false, Bool.not_true, Bool.not_false, List.length_cons, List.length_nil, sizeLine_eq, Nat.reduceAdd, Nat.reduceLeDiff, true_and, and_true, pw6, pw10, pw11, pw12, pw13, pw30, pw40, pw60]); (try dsimp only [sAsg, sIf, sRet, sRetN, sDrop, sNext, asg, setAll, eT, eOp, eUn, eLst, eTup, eCons, eNil, eVar, eC, eCall, eCB, eNot, eAnd, eOr, eTru, eAndT, eOrT, eNotT, eIf, ePart, eNoPart, eYes, eChain, eChain3, oI, oI0, oLt, oLe, oGt, oGe, oNeg, oSub, oMod, oMul, oDivW, eXp, eXa, eConsX, eCallX, eCallN, eLstX, eCBX, sDropX, sRetX, sAsgX, sRaise, sRaiseF, List.set_cons_zero, List.set_cons_succ, List.getElem?_cons_zero, List.getElem?_cons_succ, truD_bl])
  refine hW5 _ _ ?_
  refine seq_gen fun W6 hW6 => ?_
  obtain ⟨H, hH⟩ : ∃ H : Addr → Int → Int → Int → List D → Gp, ∀ p x y z L, H p x y z L = gput (gput G a (stO x y z)) p (.lst L) := ⟨_, fun _ _ _ _ _ => rfl⟩
  have pa_ : ∀ {p : Addr} {x y z : Int}, gput G a (stO x y z) p = none → p ≠ a ∧ G p = none := fun {p x y z} h => by
    have ne : p ≠ a := fun e => by rw [e, gput_same] at h; cases h
    exact ⟨ne, by rw [gput_ne ne] at h; exact h⟩
  have Ha : ∀ {p x y z L}, p ≠ a → H p x y z L a = some (stO x y z) := fun {p x y z L} h => by rw [hH, gput_ne h.symm, gput_same]
  have Hp : ∀ {p x y z L}, H p x y z L p = some (.lst L) := fun {p x y z L} => by rw [hH, gput_same]
  have Hs : ∀ {p x y z x' y' z' L}, p ≠ a → gput (H p x y z L) a (stO x' y' z') = H p x' y' z' L := fun {p x y z x' y' z' L} h => by
    rw [hH, hH]
    funext b
    by_cases h1 : b = a
    · rw [h1, gput_same, gput_ne h.symm, gput_same]
    · rw [gput_ne h1]
      by_cases h2 : b = p
      · rw [h2, gput_same, gput_same]
      · rw [gput_ne h2, gput_ne h2, gput_ne h1, gput_ne h1]
  have Hl : ∀ {p x y z L L'}, gput (H p x y z L) p (.lst L') = H p x y z L' := fun {p x y z L L'} => by rw [hH, hH, gput_gput]
  have doneH : ∀ (L : List D) (r : Option Nat) (p : Addr) x y z, G p = none → Ok3 x y z → (∀ d ∈ L, TO 3 4000 d) → L.length ≤ 26 → lookR (.tup [.int n, .lst L]) = some r → (fin G Q).rt (.tup [.tup [.int n, .ref p], numD r]) (H p x y z L) := fun L r p x y z hp ok h1 h2 h3 => by
    rw [hH]
    exact doneP L r p x y z hp ok h1 h2 h3
  refine sIf_b (decide (way = 3) || rs.isEmpty) (fun R r => ?_) ?_
  · (try dsimp only [sAsg, sIf, sRet, sRetN, sDrop, sNext, asg, setAll, eT, eOp, eUn, eLst, eTup, eCons, eNil, eVar, eC, eCall, eCB, eNot, eAnd, eOr, eTru, eAndT, eOrT, eNotT, eIf, ePart, eNoPart, eYes, eChain, eChain3, oI, oI0, oLt, oLe, oGt, oGe, oNeg, oSub, oMod, oMul, oDivW, eXp, eXa, eConsX, eCallX, eCallN, eLstX, eCBX, sDropX, sRetX, sAsgX, sRaise, sRaiseF, List.set_cons_zero, List.set_cons_succ, List.getElem?_cons_zero, List.getElem?_cons_succ, truD_bl]); (try simp only [if_true, Bool.false_eq_true, if_false, decide_true, decide_false, Bool.not_true, Bool.not_false, List.length_cons, List.length_nil, sizeLine_eq, Nat.reduceAdd, Nat.reduceLeDiff, true_and, and_true, pw6, pw10, pw11, pw12, pw13, pw30, pw40, pw60]); (try dsimp only [sAsg, sIf, sRet, sRetN, sDrop, sNext, asg, setAll, eT, eOp, eUn, eLst, eTup, eCons, eNil, eVar, eC, eCall, eCB, eNot, eAnd, eOr, eTru, eAndT, eOrT, eNotT, eIf, ePart, eNoPart, eYes, eChain, eChain3, oI, oI0, oLt, oLe, oGt, oGe, oNeg, oSub, oMod, oMul, oDivW, eXp, eXa, eConsX, eCallX, eCallN, eLstX, eCBX, sDropX, sRetX, sAsgX, sRaise, sRaiseF, List.set_cons_zero, List.set_cons_succ, List.getElem?_cons_zero, List.getElem?_cons_succ, truD_bl])
    refine eq_ii ?_
    cases c3 : decide (way = 3) with
    | true =>
      rw [c3] at r
      (try dsimp only [sAsg, sIf, sRet, sRetN, sDrop, sNext, asg, setAll, eT, eOp, eUn, eLst, eTup, eCons, eNil, eVar, eC, eCall, eCB, eNot, eAnd, eOr, eTru, eAndT, eOrT, eNotT, eIf, ePart, eNoPart, eYes, eChain, eChain3, oI, oI0, oLt, oLe, oGt, oGe, oNeg, oSub, oMod, oMul, oDivW, eXp, eXa, eConsX, eCallX, eCallN, eLstX, eCBX, sDropX, sRetX, sAsgX, sRaise, sRaiseF, List.set_cons_zero, List.set_cons_succ, List.getElem?_cons_zero, List.getElem?_cons_succ, truD_bl]); (try simp only [if_true, Bool.false_eq_true, if_false, decide_true, decide_false, Bool.not_true, Bool.not_false, List.length_cons, List.length_nil, sizeLine_eq, Nat.reduceAdd, Nat.reduceLeDiff, true_and, and_true, pw6, pw10, pw11, pw12, pw13, pw30, pw40, pw60]); (try dsimp only [sAsg, sIf, sRet, sRetN, sDrop, sNext, asg, setAll, eT, eOp, eUn, eLst, eTup, eCons, eNil, eVar, eC, eCall, eCB, eNot, eAnd, eOr, eTru, eAndT, eOrT, eNotT, eIf, ePart, eNoPart, eYes, eChain, eChain3, oI, oI0, oLt, oLe, oGt, oGe, oNeg, oSub, oMod, oMul, oDivW, eXp, eXa, eConsX, eCallX, eCallN, eLstX, eCBX, sDropX, sRetX, sAsgX, sRaise, sRaiseF, List.set_cons_zero, List.set_cons_succ, List.getElem?_cons_zero, List.getElem?_cons_succ, truD_bl])
      exact r
    | false =>
      rw [c3] at r
      (try dsimp only [sAsg, sIf, sRet, sRetN, sDrop, sNext, asg, setAll, eT, eOp, eUn, eLst, eTup, eCons, eNil, eVar, eC, eCall, eCB, eNot, eAnd, eOr, eTru, eAndT, eOrT, eNotT, eIf, ePart, eNoPart, eYes, eChain, eChain3, oI, oI0, oLt, oLe, oGt, oGe, oNeg, oSub, oMod, oMul, oDivW, eXp, eXa, eConsX, eCallX, eCallN, eLstX, eCBX, sDropX, sRetX, sAsgX, sRaise, sRaiseF, List.set_cons_zero, List.set_cons_succ, List.getElem?_cons_zero, List.getElem?_cons_succ, truD_bl]); (try simp only [if_true, Bool.false_eq_true, if_false, decide_true, decide_false, Bool.not_true, Bool.not_false, List.length_cons, List.length_nil, sizeLine_eq, Nat.reduceAdd, Nat.reduceLeDiff, true_and, and_true, pw6, pw10, pw11, pw12, pw13, pw30, pw40, pw60]); (try dsimp only [sAsg, sIf, sRet, sRetN, sDrop, sNext, asg, setAll, eT, eOp, eUn, eLst, eTup, eCons, eNil, eVar, eC, eCall, eCB, eNot, eAnd, eOr, eTru, eAndT, eOrT, eNotT, eIf, ePart, eNoPart, eYes, eChain, eChain3, oI, oI0, oLt, oLe, oGt, oGe, oNeg, oSub, oMod, oMul, oDivW, eXp, eXa, eConsX, eCallX, eCallN, eLstX, eCBX, sDropX, sRetX, sAsgX, sRaise, sRaiseF, List.set_cons_zero, List.set_cons_succ, List.getElem?_cons_zero, List.getElem?_cons_succ, truD_bl])
      refine eq_rs_nil hr ?_
      (try dsimp only [sAsg, sIf, sRet, sRetN, sDrop, sNext, asg, setAll, eT, eOp, eUn, eLst, eTup, eCons, eNil, eVar, eC, eCall, eCB, eNot, eAnd, eOr, eTru, eAndT, eOrT, eNotT, eIf, ePart, eNoPart, eYes, eChain, eChain3, oI, oI0, oLt, oLe, oGt, oGe, oNeg, oSub, oMod, oMul, oDivW, eXp, eXa, eConsX, eCallX, eCallN, eLstX, eCBX, sDropX, sRetX, sAsgX, sRaise, sRaiseF, List.set_cons_zero, List.set_cons_succ, List.getElem?_cons_zero, List.getElem?_cons_succ, truD_bl]); (try simp only [if_true, Bool.false_eq_true, if_false, decide_true, decide_false, Bool.not_true, Bool.not_false, List.length_cons, List.length_nil, sizeLine_eq, Nat.reduceAdd, Nat.reduceLeDiff, true_and, and_true, pw6, pw10, pw11, pw12, pw13, pw30, pw40, pw60]); (try dsimp only [sAsg, sIf, sRet, sRetN, sDrop, sNext, asg, setAll, eT, eOp, eUn, eLst, eTup, eCons, eNil, eVar, eC, eCall, eCB, eNot, eAnd, eOr, eTru, eAndT, eOrT, eNotT, eIf, ePart, eNoPart, eYes, eChain, eChain3, oI, oI0, oLt, oLe, oGt, oGe, oNeg, oSub, oMod, oMul, oDivW, eXp, eXa, eConsX, eCallX, eCallN, eLstX, eCBX, sDropX, sRetX, sAsgX, sRaise, sRaiseF, List.set_cons_zero, List.set_cons_succ, List.getElem?_cons_zero, List.getElem?_cons_succ, truD_bl])
      exact r
  by_cases cb : (decide (way = 3) || rs.isEmpty) = true
  · rw [if_pos cb]
    refine seq_gen fun W7 hW7 => ?_
    (try dsimp only [sAsg, sIf, sRet, sRetN, sDrop, sNext, asg, setAll, eT, eOp, eUn, eLst, eTup, eCons, eNil, eVar, eC, eCall, eCB, eNot, eAnd, eOr, eTru, eAndT, eOrT, eNotT, eIf, ePart, eNoPart, eYes, eChain, eChain3, oI, oI0, oLt, oLe, oGt, oGe, oNeg, oSub, oMod, oMul, oDivW, eXp, eXa, eConsX, eCallX, eCallN, eLstX, eCBX, sDropX, sRetX, sAsgX, sRaise, sRaiseF, List.set_cons_zero, List.set_cons_succ, List.getElem?_cons_zero, List.getElem?_cons_succ, truD_bl]); (try simp only [if_true, Bool.false_eq_true, if_false, decide_true, decide_false, Bool.not_true, Bool.not_false, List.length_cons, List.length_nil, sizeLine_eq, Nat.reduceAdd, Nat.reduceLeDiff, true_and, and_true, pw6, pw10, pw11, pw12, pw13, pw30, pw40, pw60]); (try dsimp only [sAsg, sIf, sRet, sRetN, sDrop, sNext, asg, setAll, eT, eOp, eUn, eLst, eTup, eCons, eNil, eVar, eC, eCall, eCB, eNot, eAnd, eOr, eTru, eAndT, eOrT, eNotT, eIf, ePart, eNoPart, eYes, eChain, eChain3, oI, oI0, oLt, oLe, oGt, oGe, oNeg, oSub, oMod, oMul, oDivW, eXp, eXa, eConsX, eCallX, eCallN, eLstX, eCBX, sDropX, sRetX, sAsgX, sRaise, sRaiseF, List.set_cons_zero, List.set_cons_succ, List.getElem?_cons_zero, List.getElem?_cons_succ, truD_bl])
    refine hW7 _ _ ?_
    refine seq_gen fun W8 hW8 => ?_
    (try dsimp only [sAsg, sIf, sRet, sRetN, sDrop, sNext, asg, setAll, eT, eOp, eUn, eLst, eTup, eCons, eNil, eVar, eC, eCall, eCB, eNot, eAnd, eOr, eTru, eAndT, eOrT, eNotT, eIf, ePart, eNoPart, eYes, eChain, eChain3, oI, oI0, oLt, oLe, oGt, oGe, oNeg, oSub, oMod, oMul, oDivW, eXp, eXa, eConsX, eCallX, eCallN, eLstX, eCBX, sDropX, sRetX, sAsgX, sRaise, sRaiseF, List.set_cons_zero, List.set_cons_succ, List.getElem?_cons_zero, List.getElem?_cons_succ, truD_bl, eLcO, iS]); (try simp only [if_true, Bool.false_eq_true, if_false, decide_true, decide_false, Bool.not_true, Bool.not_false, List.length_cons, List.length_nil, sizeLine_eq, Nat.reduceAdd, Nat.reduceLeDiff, true_and, and_true, pw6, pw10, pw11, pw12, pw13, pw30, pw40, pw60, eLcO, iS]); (try dsimp only [sAsg, sIf, sRet, sRetN, sDrop, sNext, asg, setAll, eT, eOp, eUn, eLst, eTup, eCons, eNil, eVar, eC, eCall, eCB, eNot, eAnd, eOr, eTru, eAndT, eOrT, eNotT, eIf, ePart, eNoPart, eYes, eChain, eChain3, oI, oI0, oLt, oLe, oGt, oGe, oNeg, oSub, oMod, oMul, oDivW, eXp, eXa, eConsX, eCallX, eCallN, eLstX, eCBX, sDropX, sRetX, sAsgX, sRaise, sRaiseF, List.set_cons_zero, List.set_cons_succ, List.getElem?_cons_zero, List.getElem?_cons_succ, truD_bl, eLcO, iS])
    refine ⟨by decide +kernel, ?_⟩
    unfold sgnD
    refine compW_all (g := fun c : Nat => D.str ⟨#[c]⟩) (f := fun c : Nat => (⟨repS ⟨#[c]⟩ 3, 0, 1, 1⟩ : Stretch).d) trivial azL [] (fun c hc => ⟨_, rfl, fun R r => ?_⟩) ?_
    · (try dsimp only [sAsg, sIf, sRet, sRetN, sDrop, sNext, asg, setAll, eT, eOp, eUn, eLst, eTup, eCons, eNil, eVar, eC, eCall, eCB, eNot, eAnd, eOr, eTru, eAndT, eOrT, eNotT, eIf, ePart, eNoPart, eYes, eChain, eChain3, oI, oI0, oLt, oLe, oGt, oGe, oNeg, oSub, oMod, oMul, oDivW, eXp, eXa, eConsX, eCallX, eCallN, eLstX, eCBX, sDropX, sRetX, sAsgX, sRaise, sRaiseF, List.set_cons_zero, List.set_cons_succ, List.getElem?_cons_zero, List.getElem?_cons_succ, truD_bl, wipeD, List.foldl_cons, List.foldl_nil, oRepS]); (try simp only [if_true, Bool.false_eq_true, if_false, decide_true, decide_false, Bool.not_true, Bool.not_false, List.length_cons, List.length_nil, sizeLine_eq, Nat.reduceAdd, Nat.reduceLeDiff, true_and, and_true, pw6, pw10, pw11, pw12, pw13, pw30, pw40, pw60, wipeD, List.foldl_cons, List.foldl_nil, oRepS]); (try dsimp only [sAsg, sIf, sRet, sRetN, sDrop, sNext, asg, setAll, eT, eOp, eUn, eLst, eTup, eCons, eNil, eVar, eC, eCall, eCB, eNot, eAnd, eOr, eTru, eAndT, eOrT, eNotT, eIf, ePart, eNoPart, eYes, eChain, eChain3, oI, oI0, oLt, oLe, oGt, oGe, oNeg, oSub, oMod, oMul, oDivW, eXp, eXa, eConsX, eCallX, eCallN, eLstX, eCBX, sDropX, sRetX, sAsgX, sRaise, sRaiseF, List.set_cons_zero, List.set_cons_succ, List.getElem?_cons_zero, List.getElem?_cons_succ, truD_bl, wipeD, List.foldl_cons, List.foldl_nil, oRepS])
      exact ⟨by decide, by decide, by show 0 < 1; decide, by show 1 ≤ 1000; decide, r⟩
    rw [List.nil_append]
    have e26 : azL.map (fun c : Nat => (⟨repS ⟨#[c]⟩ 3, 0, 1, 1⟩ : Stretch).d) = rs26.map Stretch.d := by unfold rs26; rw [List.map_map]; rfl
    rw [e26]
    intro p hp
    obtain ⟨pa, hpG⟩ := pa_ hp
    rw [← hH]
    refine hW8 _ _ ?_
    refine seq_gen fun W9 hW9 => ?_
    (try dsimp only [sAsg, sIf, sRet, sRetN, sDrop, sNext, asg, setAll, eT, eOp, eUn, eLst, eTup, eCons, eNil, eVar, eC, eCall, eCB, eNot, eAnd, eOr, eTru, eAndT, eOrT, eNotT, eIf, ePart, eNoPart, eYes, eChain, eChain3, oI, oI0, oLt, oLe, oGt, oGe, oNeg, oSub, oMod, oMul, oDivW, eXp, eXa, eConsX, eCallX, eCallN, eLstX, eCBX, sDropX, sRetX, sAsgX, sRaise, sRaiseF, List.set_cons_zero, List.set_cons_succ, List.getElem?_cons_zero, List.getElem?_cons_succ, truD_bl]); (try simp only [if_true, Bool.false_eq_true, if_false, decide_true, decide_false, Bool.not_true, Bool.not_false, List.length_cons, List.length_nil, sizeLine_eq, Nat.reduceAdd, Nat.reduceLeDiff, true_and, and_true, pw6, pw10, pw11, pw12, pw13, pw30, pw40, pw60]); (try dsimp only [sAsg, sIf, sRet, sRetN, sDrop, sNext, asg, setAll, eT, eOp, eUn, eLst, eTup, eCons, eNil, eVar, eC, eCall, eCB, eNot, eAnd, eOr, eTru, eAndT, eOrT, eNotT, eIf, ePart, eNoPart, eYes, eChain, eChain3, oI, oI0, oLt, oLe, oGt, oGe, oNeg, oSub, oMod, oMul, oDivW, eXp, eXa, eConsX, eCallX, eCallN, eLstX, eCBX, sDropX, sRetX, sAsgX, sRaise, sRaiseF, List.set_cons_zero, List.set_cons_succ, List.getElem?_cons_zero, List.getElem?_cons_succ, truD_bl])
    refine take_ok (Ha pa) ok (wd_of (by decide) (by decide)) fun at_ x y z ok a0 a1 => hW9 _ _ ?_
    rw [Hs pa]
    obtain ⟨m, rfl⟩ := Int.eq_ofNat_of_zero_le a0
    have r26 := ring_to (rs26_ok n1) n2
    have l26 : (rs26.map Stretch.d).length = 26 := by rw [List.length_map, rs26_len]
    refine seq_gen fun W10 hW10 => ?_
    have nat24 : ((min m 24 : Nat) : Int) = (if (24 : Int) < (m : Int) then (24 : Int) else (m : Int)) := by split <;> omega
    have last : ∀ (L : List D) (d : D) (o5 : Option D) x y z, Ok3 x y z → (∀ d ∈ L, TO 3 4000 d) → L.length = 26 → L.take (min m 24) = (rs26.take (min m 24)).map Stretch.d → L[min m 24]? = some d → (min m 24 = 24 ∨ rsB n d = false) → W10 [some (.ref a), some (.tup [.int n, .lst (rs.map Stretch.d)]), some (.int n), some (.lst (rs.map Stretch.d)), some (.int way), o5, some (.str (Str.ofString "abcdefghijklmnopqrstuvwxyz")), some (.ref p), some (.int (m : Int)), none, none] (H p x y z L) := by
      intro L d o5 x y z ok h1 h2 h3 h4 h5
      refine hW10 _ _ ?_
      (try dsimp only [sAsg, sIf, sRet, sRetN, sDrop, sNext, asg, setAll, eT, eOp, eUn, eLst, eTup, eCons, eNil, eVar, eC, eCall, eCB, eNot, eAnd, eOr, eTru, eAndT, eOrT, eNotT, eIf, ePart, eNoPart, eYes, eChain, eChain3, oI, oI0, oLt, oLe, oGt, oGe, oNeg, oSub, oMod, oMul, oDivW, eXp, eXa, eConsX, eCallX, eCallN, eLstX, eCBX, sDropX, sRetX, sAsgX, sRaise, sRaiseF, List.set_cons_zero, List.set_cons_succ, List.getElem?_cons_zero, List.getElem?_cons_succ, truD_bl, cMin2]); (try simp only [if_true, Bool.false_eq_true, if_false, decide_true, decide_false, Bool.not_true, Bool.not_false, List.length_cons, List.length_nil, sizeLine_eq, Nat.reduceAdd, Nat.reduceLeDiff, true_and, and_true, pw6, pw10, pw11, pw12, pw13, pw30, pw40, pw60, cMin2]); (try dsimp only [sAsg, sIf, sRet, sRetN, sDrop, sNext, asg, setAll, eT, eOp, eUn, eLst, eTup, eCons, eNil, eVar, eC, eCall, eCB, eNot, eAnd, eOr, eTru, eAndT, eOrT, eNotT, eIf, ePart, eNoPart, eYes, eChain, eChain3, oI, oI0, oLt, oLe, oGt, oGe, oNeg, oSub, oMod, oMul, oDivW, eXp, eXa, eConsX, eCallX, eCallN, eLstX, eCBX, sDropX, sRetX, sAsgX, sRaise, sRaiseF, List.set_cons_zero, List.set_cons_succ, List.getElem?_cons_zero, List.getElem?_cons_succ, truD_bl, cMin2])
      have hb := bad_ix (n := n) (rs26_ok n1) rs26_nd h3 h4 (by omega) (by rw [rs26_len]; omega) (h5.imp id Or.inl)
      have := doneH L (some (min m 24)) p x y z hpG ok h1 (by omega) (look_bad n1 n2 hb)
      simp only [numD] at this
      rw [nat24] at this
      exact this
    (try dsimp only [sAsg, sIf, sRet, sRetN, sDrop, sNext, asg, setAll, eT, eOp, eUn, eLst, eTup, eCons, eNil, eVar, eC, eCall, eCB, eNot, eAnd, eOr, eTru, eAndT, eOrT, eNotT, eIf, ePart, eNoPart, eYes, eChain, eChain3, oI, oI0, oLt, oLe, oGt, oGe, oNeg, oSub, oMod, oMul, oDivW, eXp, eXa, eConsX, eCallX, eCallN, eLstX, eCBX, sDropX, sRetX, sAsgX, sRaise, sRaiseF, List.set_cons_zero, List.set_cons_succ, List.getElem?_cons_zero, List.getElem?_cons_succ, truD_bl]); (try simp only [if_true, Bool.false_eq_true, if_false, decide_true, decide_false, Bool.not_true, Bool.not_false, List.length_cons, List.length_nil, sizeLine_eq, Nat.reduceAdd, Nat.reduceLeDiff, true_and, and_true, pw6, pw10, pw11, pw12, pw13, pw30, pw40, pw60]); (try dsimp only [sAsg, sIf, sRet, sRetN, sDrop, sNext, asg, setAll, eT, eOp, eUn, eLst, eTup, eCons, eNil, eVar, eC, eCall, eCB, eNot, eAnd, eOr, eTru, eAndT, eOrT, eNotT, eIf, ePart, eNoPart, eYes, eChain, eChain3, oI, oI0, oLt, oLe, oGt, oGe, oNeg, oSub, oMod, oMul, oDivW, eXp, eXa, eConsX, eCallX, eCallN, eLstX, eCBX, sDropX, sRetX, sAsgX, sRaise, sRaiseF, List.set_cons_zero, List.set_cons_succ, List.getElem?_cons_zero, List.getElem?_cons_succ, truD_bl])
    by_cases c26 : (m : Int) < 26
    · rw [decide_eq_true c26]
      (try dsimp only [sAsg, sIf, sRet, sRetN, sDrop, sNext, asg, setAll, eT, eOp, eUn, eLst, eTup, eCons, eNil, eVar, eC, eCall, eCB, eNot, eAnd, eOr, eTru, eAndT, eOrT, eNotT, eIf, ePart, eNoPart, eYes, eChain, eChain3, oI, oI0, oLt, oLe, oGt, oGe, oNeg, oSub, oMod, oMul, oDivW, eXp, eXa, eConsX, eCallX, eCallN, eLstX, eCBX, sDropX, sRetX, sAsgX, sRaise, sRaiseF, List.set_cons_zero, List.set_cons_succ, List.getElem?_cons_zero, List.getElem?_cons_succ, truD_bl]); (try simp only [if_true, Bool.false_eq_true, if_false, decide_true, decide_false, Bool.not_true, Bool.not_false, List.length_cons, List.length_nil, sizeLine_eq, Nat.reduceAdd, Nat.reduceLeDiff, true_and, and_true, pw6, pw10, pw11, pw12, pw13, pw30, pw40, pw60]); (try dsimp only [sAsg, sIf, sRet, sRetN, sDrop, sNext, asg, setAll, eT, eOp, eUn, eLst, eTup, eCons, eNil, eVar, eC, eCall, eCB, eNot, eAnd, eOr, eTru, eAndT, eOrT, eNotT, eIf, ePart, eNoPart, eYes, eChain, eChain3, oI, oI0, oLt, oLe, oGt, oGe, oNeg, oSub, oMod, oMul, oDivW, eXp, eXa, eConsX, eCallX, eCallN, eLstX, eCBX, sDropX, sRetX, sAsgX, sRaise, sRaiseF, List.set_cons_zero, List.set_cons_succ, List.getElem?_cons_zero, List.getElem?_cons_succ, truD_bl])
      refine seq_gen fun W11 hW11 => ?_
      (try dsimp only [sAsg, sIf, sRet, sRetN, sDrop, sNext, asg, setAll, eT, eOp, eUn, eLst, eTup, eCons, eNil, eVar, eC, eCall, eCB, eNot, eAnd, eOr, eTru, eAndT, eOrT, eNotT, eIf, ePart, eNoPart, eYes, eChain, eChain3, oI, oI0, oLt, oLe, oGt, oGe, oNeg, oSub, oMod, oMul, oDivW, eXp, eXa, eConsX, eCallX, eCallN, eLstX, eCBX, sDropX, sRetX, sAsgX, sRaise, sRaiseF, List.set_cons_zero, List.set_cons_succ, List.getElem?_cons_zero, List.getElem?_cons_succ, truD_bl]); (try simp only [if_true, Bool.false_eq_true, if_false, decide_true, decide_false, Bool.not_true, Bool.not_false, List.length_cons, List.length_nil, sizeLine_eq, Nat.reduceAdd, Nat.reduceLeDiff, true_and, and_true, pw6, pw10, pw11, pw12, pw13, pw30, pw40, pw60]); (try dsimp only [sAsg, sIf, sRet, sRetN, sDrop, sNext, asg, setAll, eT, eOp, eUn, eLst, eTup, eCons, eNil, eVar, eC, eCall, eCB, eNot, eAnd, eOr, eTru, eAndT, eOrT, eNotT, eIf, ePart, eNoPart, eYes, eChain, eChain3, oI, oI0, oLt, oLe, oGt, oGe, oNeg, oSub, oMod, oMul, oDivW, eXp, eXa, eConsX, eCallX, eCallN, eLstX, eCBX, sDropX, sRetX, sAsgX, sRaise, sRaiseF, List.set_cons_zero, List.set_cons_succ, List.getElem?_cons_zero, List.getElem?_cons_succ, truD_bl])
      obtain ⟨c, ec, hc⟩ := at_memG (xs := (Str.ofString "abcdefghijklmnopqrstuvwxyz").cps.toList) (i := (m : Int)) (by omega) (by rw [show (Str.ofString "abcdefghijklmnopqrstuvwxyz").cps.toList.length = 26 from by decide +kernel]; omega)
      have hc2 : c < 128 := (show ∀ c ∈ (Str.ofString "abcdefghijklmnopqrstuvwxyz").cps.toList, c < 128 by decide +kernel) c hc
      refine ixs_at (by decide +kernel) ec ?_
      (try dsimp only [sAsg, sIf, sRet, sRetN, sDrop, sNext, asg, setAll, eT, eOp, eUn, eLst, eTup, eCons, eNil, eVar, eC, eCall, eCB, eNot, eAnd, eOr, eTru, eAndT, eOrT, eNotT, eIf, ePart, eNoPart, eYes, eChain, eChain3, oI, oI0, oLt, oLe, oGt, oGe, oNeg, oSub, oMod, oMul, oDivW, eXp, eXa, eConsX, eCallX, eCallN, eLstX, eCBX, sDropX, sRetX, sAsgX, sRaise, sRaiseF, List.set_cons_zero, List.set_cons_succ, List.getElem?_cons_zero, List.getElem?_cons_succ, truD_bl, oRepS]); (try simp only [if_true, Bool.false_eq_true, if_false, decide_true, decide_false, Bool.not_true, Bool.not_false, List.length_cons, List.length_nil, sizeLine_eq, Nat.reduceAdd, Nat.reduceLeDiff, true_and, and_true, pw6, pw10, pw11, pw12, pw13, pw30, pw40, pw60, oRepS]); (try dsimp only [sAsg, sIf, sRet, sRetN, sDrop, sNext, asg, setAll, eT, eOp, eUn, eLst, eTup, eCons, eNil, eVar, eC, eCall, eCB, eNot, eAnd, eOr, eTru, eAndT, eOrT, eNotT, eIf, ePart, eNoPart, eYes, eChain, eChain3, oI, oI0, oLt, oLe, oGt, oGe, oNeg, oSub, oMod, oMul, oDivW, eXp, eXa, eConsX, eCallX, eCallN, eLstX, eCBX, sDropX, sRetX, sAsgX, sRaise, sRaiseF, List.set_cons_zero, List.set_cons_succ, List.getElem?_cons_zero, List.getElem?_cons_succ, truD_bl, oRepS])
      refine ⟨by decide, by decide, by show 0 < 1; decide, by show 1 ≤ 1000; decide, hW11 _ _ ?_⟩
      (try dsimp only [sAsg, sIf, sRet, sRetN, sDrop, sNext, asg, setAll, eT, eOp, eUn, eLst, eTup, eCons, eNil, eVar, eC, eCall, eCB, eNot, eAnd, eOr, eTru, eAndT, eOrT, eNotT, eIf, ePart, eNoPart, eYes, eChain, eChain3, oI, oI0, oLt, oLe, oGt, oGe, oNeg, oSub, oMod, oMul, oDivW, eXp, eXa, eConsX, eCallX, eCallN, eLstX, eCBX, sDropX, sRetX, sAsgX, sRaise, sRaiseF, List.set_cons_zero, List.set_cons_succ, List.getElem?_cons_zero, List.getElem?_cons_succ, truD_bl, sSetIx]); (try simp only [if_true, Bool.false_eq_true, if_false, decide_true, decide_false, Bool.not_true, Bool.not_false, List.length_cons, List.length_nil, sizeLine_eq, Nat.reduceAdd, Nat.reduceLeDiff, true_and, and_true, pw6, pw10, pw11, pw12, pw13, pw30, pw40, pw60, sSetIx]); (try dsimp only [sAsg, sIf, sRet, sRetN, sDrop, sNext, asg, setAll, eT, eOp, eUn, eLst, eTup, eCons, eNil, eVar, eC, eCall, eCB, eNot, eAnd, eOr, eTru, eAndT, eOrT, eNotT, eIf, ePart, eNoPart, eYes, eChain, eChain3, oI, oI0, oLt, oLe, oGt, oGe, oNeg, oSub, oMod, oMul, oDivW, eXp, eXa, eConsX, eCallX, eCallN, eLstX, eCBX, sDropX, sRetX, sAsgX, sRaise, sRaiseF, List.set_cons_zero, List.set_cons_succ, List.getElem?_cons_zero, List.getElem?_cons_succ, truD_bl, sSetIx])
      refine take_ok (Ha pa) ok (wd_of (by decide) (by decide)) fun j x y z ok j0 j1 => ?_
      rw [Hs pa]
      have n3 : EP5 (.str (repS ⟨#[c]⟩ (3 : Int).toNat)) := by
        have e : (repS ⟨#[c]⟩ (3 : Int).toNat).cps.toList = [c, c, c] := by rfl
        refine eo_s (fun d hd => ?_) (by show 3 ≤ 20; decide)
        rw [e] at hd
        simp only [List.mem_cons, List.not_mem_nil, or_false] at hd
        rcases hd with rfl | rfl | rfl <;> omega
      refine ix_allP (P := fun d => TO 3 4000 d ∧ rsB n d = false) (fun d hd => ?_) j0 (by simpa using j1) fun d hd => ?_
      · simp only [List.mem_cons, List.not_mem_nil, or_false] at hd
        rcases hd with rfl | rfl | rfl | rfl
        · exact ⟨to_eo eo_n, rfl⟩
        · exact ⟨to_4 (eo_s (asc_of "a") (by decide +kernel)) (eo_i (by decide) (by decide)) (eo_i (by decide) (by decide)) (eo_i (by decide) (by decide)), rs_i (by omega)⟩
        · exact ⟨to_4 n3 (eo_i (by decide) (by decide)) (eo_i (by decide) (by decide)) (eo_i (by decide) (by decide)), rs_i (by omega)⟩
        · exact ⟨to_eo (eo_s (asc_of "aaa") (by decide +kernel)), rfl⟩
      · refine set_ref (M := { fin G Q with nx := W10 }) Hp (by omega) ?_
        rw [Hl]
        have hm : ∀ e ∈ (rs26.map Stretch.d).set m d, TO 3 4000 e := fun e he => by
          rcases List.mem_or_eq_of_mem_set he with q | q
          · exact r26 e q
          · rw [q]; exact hd.1
        have ht : ((rs26.map Stretch.d).set m d).take (min m 24) = (rs26.take (min m 24)).map Stretch.d := by
          rw [List.take_set_of_le (by omega), List.map_take]
        by_cases c24 : m < 24
        · exact last _ d _ x y z ok hm (by rw [List.length_set, l26]) ht (by rw [show min m 24 = m by omega, List.getElem?_set_self (by omega)]) (.inr hd.2)
        · have h24 : min m 24 = 24 := by omega
          refine last _ (((rs26.map Stretch.d).set m d)[24]'(by rw [List.length_set, l26]; decide)) _ x y z ok hm (by rw [List.length_set, l26]) ht ?_ (.inl h24)
          rw [h24, List.getElem?_eq_getElem]
    · rw [decide_eq_false c26]
      (try dsimp only [sAsg, sIf, sRet, sRetN, sDrop, sNext, asg, setAll, eT, eOp, eUn, eLst, eTup, eCons, eNil, eVar, eC, eCall, eCB, eNot, eAnd, eOr, eTru, eAndT, eOrT, eNotT, eIf, ePart, eNoPart, eYes, eChain, eChain3, oI, oI0, oLt, oLe, oGt, oGe, oNeg, oSub, oMod, oMul, oDivW, eXp, eXa, eConsX, eCallX, eCallN, eLstX, eCBX, sDropX, sRetX, sAsgX, sRaise, sRaiseF, List.set_cons_zero, List.set_cons_succ, List.getElem?_cons_zero, List.getElem?_cons_succ, truD_bl]); (try simp only [if_true, Bool.false_eq_true, if_false, decide_true, decide_false, Bool.not_true, Bool.not_false, List.length_cons, List.length_nil, sizeLine_eq, Nat.reduceAdd, Nat.reduceLeDiff, true_and, and_true, pw6, pw10, pw11, pw12, pw13, pw30, pw40, pw60]); (try dsimp only [sAsg, sIf, sRet, sRetN, sDrop, sNext, asg, setAll, eT, eOp, eUn, eLst, eTup, eCons, eNil, eVar, eC, eCall, eCB, eNot, eAnd, eOr, eTru, eAndT, eOrT, eNotT, eIf, ePart, eNoPart, eYes, eChain, eChain3, oI, oI0, oLt, oLe, oGt, oGe, oNeg, oSub, oMod, oMul, oDivW, eXp, eXa, eConsX, eCallX, eCallN, eLstX, eCBX, sDropX, sRetX, sAsgX, sRaise, sRaiseF, List.set_cons_zero, List.set_cons_succ, List.getElem?_cons_zero, List.getElem?_cons_succ, truD_bl])
      have h24 : min m 24 = 24 := by omega
      refine last _ ((rs26.map Stretch.d)[24]'(by omega)) _ x y z ok r26 l26 (by rw [List.map_take]) ?_ (.inl h24)
      rw [h24, List.getElem?_eq_getElem]
  · rw [if_neg cb]
    refine hW6 _ _ ?_
    have rpos : 0 < rs.length := by
      cases rs with
      | nil => simp at cb
      | cons s r => simp
    refine seq_gen fun W7 hW7 => ?_
    (try dsimp only [sAsg, sIf, sRet, sRetN, sDrop, sNext, asg, setAll, eT, eOp, eUn, eLst, eTup, eCons, eNil, eVar, eC, eCall, eCB, eNot, eAnd, eOr, eTru, eAndT, eOrT, eNotT, eIf, ePart, eNoPart, eYes, eChain, eChain3, oI, oI0, oLt, oLe, oGt, oGe, oNeg, oSub, oMod, oMul, oDivW, eXp, eXa, eConsX, eCallX, eCallN, eLstX, eCBX, sDropX, sRetX, sAsgX, sRaise, sRaiseF, List.set_cons_zero, List.set_cons_succ, List.getElem?_cons_zero, List.getElem?_cons_succ, truD_bl]); (try simp only [if_true, Bool.false_eq_true, if_false, decide_true, decide_false, Bool.not_true, Bool.not_false, List.length_cons, List.length_nil, sizeLine_eq, Nat.reduceAdd, Nat.reduceLeDiff, true_and, and_true, pw6, pw10, pw11, pw12, pw13, pw30, pw40, pw60]); (try dsimp only [sAsg, sIf, sRet, sRetN, sDrop, sNext, asg, setAll, eT, eOp, eUn, eLst, eTup, eCons, eNil, eVar, eC, eCall, eCB, eNot, eAnd, eOr, eTru, eAndT, eOrT, eNotT, eIf, ePart, eNoPart, eYes, eChain, eChain3, oI, oI0, oLt, oLe, oGt, oGe, oNeg, oSub, oMod, oMul, oDivW, eXp, eXa, eConsX, eCallX, eCallN, eLstX, eCBX, sDropX, sRetX, sAsgX, sRaise, sRaiseF, List.set_cons_zero, List.set_cons_succ, List.getElem?_cons_zero, List.getElem?_cons_succ, truD_bl])
    refine len_lst ?_
    rw [List.length_map]
    refine take_ok gput_same ok (wd_of (by omega) (by omega)) fun at_ x y z ok a0 a1 => hW7 _ _ ?_
    rw [gput_gput]
    obtain ⟨u, rfl⟩ := Int.eq_ofNat_of_zero_le a0
    have hu : u < rs.length := by omega
    refine seq_gen fun W8 hW8 => ?_
    (try dsimp only [sAsg, sIf, sRet, sRetN, sDrop, sNext, asg, setAll, eT, eOp, eUn, eLst, eTup, eCons, eNil, eVar, eC, eCall, eCB, eNot, eAnd, eOr, eTru, eAndT, eOrT, eNotT, eIf, ePart, eNoPart, eYes, eChain, eChain3, oI, oI0, oLt, oLe, oGt, oGe, oNeg, oSub, oMod, oMul, oDivW, eXp, eXa, eConsX, eCallX, eCallN, eLstX, eCBX, sDropX, sRetX, sAsgX, sRaise, sRaiseF, List.set_cons_zero, List.set_cons_succ, List.getElem?_cons_zero, List.getElem?_cons_succ, truD_bl, cListO, lkQ_lst]); (try simp only [if_true, Bool.false_eq_true, if_false, decide_true, decide_false, Bool.not_true, Bool.not_false, List.length_cons, List.length_nil, sizeLine_eq, Nat.reduceAdd, Nat.reduceLeDiff, true_and, and_true, pw6, pw10, pw11, pw12, pw13, pw30, pw40, pw60, cListO, lkQ_lst]); (try dsimp only [sAsg, sIf, sRet, sRetN, sDrop, sNext, asg, setAll, eT, eOp, eUn, eLst, eTup, eCons, eNil, eVar, eC, eCall, eCB, eNot, eAnd, eOr, eTru, eAndT, eOrT, eNotT, eIf, ePart, eNoPart, eYes, eChain, eChain3, oI, oI0, oLt, oLe, oGt, oGe, oNeg, oSub, oMod, oMul, oDivW, eXp, eXa, eConsX, eCallX, eCallN, eLstX, eCBX, sDropX, sRetX, sAsgX, sRaise, sRaiseF, List.set_cons_zero, List.set_cons_succ, List.getElem?_cons_zero, List.getElem?_cons_succ, truD_bl, cListO, lkQ_lst])
    intro p hp
    obtain ⟨pa, hpG⟩ := pa_ hp
    rw [← hH]
    refine hW8 _ _ ?_
    refine seq_gen fun W9 hW9 => ?_
    (try dsimp only [sAsg, sIf, sRet, sRetN, sDrop, sNext, asg, setAll, eT, eOp, eUn, eLst, eTup, eCons, eNil, eVar, eC, eCall, eCB, eNot, eAnd, eOr, eTru, eAndT, eOrT, eNotT, eIf, ePart, eNoPart, eYes, eChain, eChain3, oI, oI0, oLt, oLe, oGt, oGe, oNeg, oSub, oMod, oMul, oDivW, eXp, eXa, eConsX, eCallX, eCallN, eLstX, eCBX, sDropX, sRetX, sAsgX, sRaise, sRaiseF, List.set_cons_zero, List.set_cons_succ, List.getElem?_cons_zero, List.getElem?_cons_succ, truD_bl, sSetIx]); (try simp only [if_true, Bool.false_eq_true, if_false, decide_true, decide_false, Bool.not_true, Bool.not_false, List.length_cons, List.length_nil, sizeLine_eq, Nat.reduceAdd, Nat.reduceLeDiff, true_and, and_true, pw6, pw10, pw11, pw12, pw13, pw30, pw40, pw60, sSetIx]); (try dsimp only [sAsg, sIf, sRet, sRetN, sDrop, sNext, asg, setAll, eT, eOp, eUn, eLst, eTup, eCons, eNil, eVar, eC, eCall, eCB, eNot, eAnd, eOr, eTru, eAndT, eOrT, eNotT, eIf, ePart, eNoPart, eYes, eChain, eChain3, oI, oI0, oLt, oLe, oGt, oGe, oNeg, oSub, oMod, oMul, oDivW, eXp, eXa, eConsX, eCallX, eCallN, eLstX, eCBX, sDropX, sRetX, sAsgX, sRaise, sRaiseF, List.set_cons_zero, List.set_cons_succ, List.getElem?_cons_zero, List.getElem?_cons_succ, truD_bl, sSetIx])
    refine ⟨a, x, y, z, n, rs, u, rfl, Ha pa, ok, hr, hu, fun d1 x y z ok t1 b1 => ?_⟩
    rw [Hs pa]
    refine set_ref (M := { fin G Q with nx := W9 }) Hp (by rw [List.length_map]; omega) (hW9 _ _ ?_)
    rw [Hl]
    have m1 : ∀ e ∈ (rs.map Stretch.d).set u d1, TO 3 4000 e := fun e he => by
      rcases List.mem_or_eq_of_mem_set he with q | q
      · exact rto e q
      · rw [q]; exact t1
    refine seq_gen fun W10 hW10 => ?_
    (try dsimp only [sAsg, sIf, sRet, sRetN, sDrop, sNext, asg, setAll, eT, eOp, eUn, eLst, eTup, eCons, eNil, eVar, eC, eCall, eCB, eNot, eAnd, eOr, eTru, eAndT, eOrT, eNotT, eIf, ePart, eNoPart, eYes, eChain, eChain3, oI, oI0, oLt, oLe, oGt, oGe, oNeg, oSub, oMod, oMul, oDivW, eXp, eXa, eConsX, eCallX, eCallN, eLstX, eCBX, sDropX, sRetX, sAsgX, sRaise, sRaiseF, List.set_cons_zero, List.set_cons_succ, List.getElem?_cons_zero, List.getElem?_cons_succ, truD_bl]); (try simp only [if_true, Bool.false_eq_true, if_false, decide_true, decide_false, Bool.not_true, Bool.not_false, List.length_cons, List.length_nil, sizeLine_eq, Nat.reduceAdd, Nat.reduceLeDiff, true_and, and_true, pw6, pw10, pw11, pw12, pw13, pw30, pw40, pw60]); (try dsimp only [sAsg, sIf, sRet, sRetN, sDrop, sNext, asg, setAll, eT, eOp, eUn, eLst, eTup, eCons, eNil, eVar, eC, eCall, eCB, eNot, eAnd, eOr, eTru, eAndT, eOrT, eNotT, eIf, ePart, eNoPart, eYes, eChain, eChain3, oI, oI0, oLt, oLe, oGt, oGe, oNeg, oSub, oMod, oMul, oDivW, eXp, eXa, eConsX, eCallX, eCallN, eLstX, eCBX, sDropX, sRetX, sAsgX, sRaise, sRaiseF, List.set_cons_zero, List.set_cons_succ, List.getElem?_cons_zero, List.getElem?_cons_succ, truD_bl])
    refine take_ok (Ha pa) ok (wd_of (by decide) (by decide)) fun w x y z ok w0 w1 => ?_
    rw [Hs pa]
    refine eq_ii ?_
    by_cases cw : w = 0
    · rw [decide_eq_true cw]
      (try dsimp only [sAsg, sIf, sRet, sRetN, sDrop, sNext, asg, setAll, eT, eOp, eUn, eLst, eTup, eCons, eNil, eVar, eC, eCall, eCB, eNot, eAnd, eOr, eTru, eAndT, eOrT, eNotT, eIf, ePart, eNoPart, eYes, eChain, eChain3, oI, oI0, oLt, oLe, oGt, oGe, oNeg, oSub, oMod, oMul, oDivW, eXp, eXa, eConsX, eCallX, eCallN, eLstX, eCBX, sDropX, sRetX, sAsgX, sRaise, sRaiseF, List.set_cons_zero, List.set_cons_succ, List.getElem?_cons_zero, List.getElem?_cons_succ, truD_bl]); (try simp only [if_true, Bool.false_eq_true, if_false, decide_true, decide_false, Bool.not_true, Bool.not_false, List.length_cons, List.length_nil, sizeLine_eq, Nat.reduceAdd, Nat.reduceLeDiff, true_and, and_true, pw6, pw10, pw11, pw12, pw13, pw30, pw40, pw60]); (try dsimp only [sAsg, sIf, sRet, sRetN, sDrop, sNext, asg, setAll, eT, eOp, eUn, eLst, eTup, eCons, eNil, eVar, eC, eCall, eCB, eNot, eAnd, eOr, eTru, eAndT, eOrT, eNotT, eIf, ePart, eNoPart, eYes, eChain, eChain3, oI, oI0, oLt, oLe, oGt, oGe, oNeg, oSub, oMod, oMul, oDivW, eXp, eXa, eConsX, eCallX, eCallN, eLstX, eCBX, sDropX, sRetX, sAsgX, sRaise, sRaiseF, List.set_cons_zero, List.set_cons_succ, List.getElem?_cons_zero, List.getElem?_cons_succ, truD_bl])
      have hb := bad_ix (n := n) (L := (rs.map Stretch.d).set u d1) (m := u) hr.all hr.nd (by rw [List.take_set_of_le (Nat.le_refl _), List.map_take]) (List.getElem?_set_self (by rw [List.length_map]; omega)) (by omega) (by omega) (.inr b1)
      exact doneH _ (some u) p x y z hpG ok m1 (by rw [List.length_set, List.length_map]; omega) (look_bad n1 n2 hb)
    rw [decide_eq_false cw]
    (try dsimp only [sAsg, sIf, sRet, sRetN, sDrop, sNext, asg, setAll, eT, eOp, eUn, eLst, eTup, eCons, eNil, eVar, eC, eCall, eCB, eNot, eAnd, eOr, eTru, eAndT, eOrT, eNotT, eIf, ePart, eNoPart, eYes, eChain, eChain3, oI, oI0, oLt, oLe, oGt, oGe, oNeg, oSub, oMod, oMul, oDivW, eXp, eXa, eConsX, eCallX, eCallN, eLstX, eCBX, sDropX, sRetX, sAsgX, sRaise, sRaiseF, List.set_cons_zero, List.set_cons_succ, List.getElem?_cons_zero, List.getElem?_cons_succ, truD_bl]); (try simp only [if_true, Bool.false_eq_true, if_false, decide_true, decide_false, Bool.not_true, Bool.not_false, List.length_cons, List.length_nil, sizeLine_eq, Nat.reduceAdd, Nat.reduceLeDiff, true_and, and_true, pw6, pw10, pw11, pw12, pw13, pw30, pw40, pw60]); (try dsimp only [sAsg, sIf, sRet, sRetN, sDrop, sNext, asg, setAll, eT, eOp, eUn, eLst, eTup, eCons, eNil, eVar, eC, eCall, eCB, eNot, eAnd, eOr, eTru, eAndT, eOrT, eNotT, eIf, ePart, eNoPart, eYes, eChain, eChain3, oI, oI0, oLt, oLe, oGt, oGe, oNeg, oSub, oMod, oMul, oDivW, eXp, eXa, eConsX, eCallX, eCallN, eLstX, eCBX, sDropX, sRetX, sAsgX, sRaise, sRaiseF, List.set_cons_zero, List.set_cons_succ, List.getElem?_cons_zero, List.getElem?_cons_succ, truD_bl])
    refine hW10 _ _ ?_
    refine seq_gen fun W11 hW11 => ?_
    (try dsimp only [sAsg, sIf, sRet, sRetN, sDrop, sNext, asg, setAll, eT, eOp, eUn, eLst, eTup, eCons, eNil, eVar, eC, eCall, eCB, eNot, eAnd, eOr, eTru, eAndT, eOrT, eNotT, eIf, ePart, eNoPart, eYes, eChain, eChain3, oI, oI0, oLt, oLe, oGt, oGe, oNeg, oSub, oMod, oMul, oDivW, eXp, eXa, eConsX, eCallX, eCallN, eLstX, eCBX, sDropX, sRetX, sAsgX, sRaise, sRaiseF, List.set_cons_zero, List.set_cons_succ, List.getElem?_cons_zero, List.getElem?_cons_succ, truD_bl]); (try simp only [if_true, Bool.false_eq_true, if_false, decide_true, decide_false, Bool.not_true, Bool.not_false, List.length_cons, List.length_nil, sizeLine_eq, Nat.reduceAdd, Nat.reduceLeDiff, true_and, and_true, pw6, pw10, pw11, pw12, pw13, pw30, pw40, pw60]); (try dsimp only [sAsg, sIf, sRet, sRetN, sDrop, sNext, asg, setAll, eT, eOp, eUn, eLst, eTup, eCons, eNil, eVar, eC, eCall, eCB, eNot, eAnd, eOr, eTru, eAndT, eOrT, eNotT, eIf, ePart, eNoPart, eYes, eChain, eChain3, oI, oI0, oLt, oLe, oGt, oGe, oNeg, oSub, oMod, oMul, oDivW, eXp, eXa, eConsX, eCallX, eCallN, eLstX, eCBX, sDropX, sRetX, sAsgX, sRaise, sRaiseF, List.set_cons_zero, List.set_cons_succ, List.getElem?_cons_zero, List.getElem?_cons_succ, truD_bl])
    refine len_lst ?_
    rw [List.length_map]
    refine take_ok (Ha pa) ok (wd_of (by omega) (by omega)) fun v x y z ok v0 v1 => hW11 _ _ ?_
    rw [Hs pa]
    obtain ⟨v, rfl⟩ := Int.eq_ofNat_of_zero_le v0
    have hv : v < rs.length := by omega
    refine seq_gen fun W12 hW12 => ?_
    (try dsimp only [sAsg, sIf, sRet, sRetN, sDrop, sNext, asg, setAll, eT, eOp, eUn, eLst, eTup, eCons, eNil, eVar, eC, eCall, eCB, eNot, eAnd, eOr, eTru, eAndT, eOrT, eNotT, eIf, ePart, eNoPart, eYes, eChain, eChain3, oI, oI0, oLt, oLe, oGt, oGe, oNeg, oSub, oMod, oMul, oDivW, eXp, eXa, eConsX, eCallX, eCallN, eLstX, eCBX, sDropX, sRetX, sAsgX, sRaise, sRaiseF, List.set_cons_zero, List.set_cons_succ, List.getElem?_cons_zero, List.getElem?_cons_succ, truD_bl, sSetIx]); (try simp only [if_true, Bool.false_eq_true, if_false, decide_true, decide_false, Bool.not_true, Bool.not_false, List.length_cons, List.length_nil, sizeLine_eq, Nat.reduceAdd, Nat.reduceLeDiff, true_and, and_true, pw6, pw10, pw11, pw12, pw13, pw30, pw40, pw60, sSetIx]); (try dsimp only [sAsg, sIf, sRet, sRetN, sDrop, sNext, asg, setAll, eT, eOp, eUn, eLst, eTup, eCons, eNil, eVar, eC, eCall, eCB, eNot, eAnd, eOr, eTru, eAndT, eOrT, eNotT, eIf, ePart, eNoPart, eYes, eChain, eChain3, oI, oI0, oLt, oLe, oGt, oGe, oNeg, oSub, oMod, oMul, oDivW, eXp, eXa, eConsX, eCallX, eCallN, eLstX, eCBX, sDropX, sRetX, sAsgX, sRaise, sRaiseF, List.set_cons_zero, List.set_cons_succ, List.getElem?_cons_zero, List.getElem?_cons_succ, truD_bl, sSetIx])
    refine ⟨a, x, y, z, n, rs, v, rfl, Ha pa, ok, hr, hv, fun d2 x y z ok t2 b2 => ?_⟩
    rw [Hs pa]
    refine set_ref (M := { fin G Q with nx := W12 }) Hp (by rw [List.length_set, List.length_map]; omega) (hW12 _ _ ?_)
    rw [Hl]
    have m2 : ∀ e ∈ ((rs.map Stretch.d).set u d1).set v d2, TO 3 4000 e := fun e he => by
      rcases List.mem_or_eq_of_mem_set he with q | q
      · exact m1 e q
      · rw [q]; exact t2
    (try dsimp only [sAsg, sIf, sRet, sRetN, sDrop, sNext, asg, setAll, eT, eOp, eUn, eLst, eTup, eCons, eNil, eVar, eC, eCall, eCB, eNot, eAnd, eOr, eTru, eAndT, eOrT, eNotT, eIf, ePart, eNoPart, eYes, eChain, eChain3, oI, oI0, oLt, oLe, oGt, oGe, oNeg, oSub, oMod, oMul, oDivW, eXp, eXa, eConsX, eCallX, eCallN, eLstX, eCBX, sDropX, sRetX, sAsgX, sRaise, sRaiseF, List.set_cons_zero, List.set_cons_succ, List.getElem?_cons_zero, List.getElem?_cons_succ, truD_bl, cMin2]); (try simp only [if_true, Bool.false_eq_true, if_false, decide_true, decide_false, Bool.not_true, Bool.not_false, List.length_cons, List.length_nil, sizeLine_eq, Nat.reduceAdd, Nat.reduceLeDiff, true_and, and_true, pw6, pw10, pw11, pw12, pw13, pw30, pw40, pw60, cMin2]); (try dsimp only [sAsg, sIf, sRet, sRetN, sDrop, sNext, asg, setAll, eT, eOp, eUn, eLst, eTup, eCons, eNil, eVar, eC, eCall, eCB, eNot, eAnd, eOr, eTru, eAndT, eOrT, eNotT, eIf, ePart, eNoPart, eYes, eChain, eChain3, oI, oI0, oLt, oLe, oGt, oGe, oNeg, oSub, oMod, oMul, oDivW, eXp, eXa, eConsX, eCallX, eCallN, eLstX, eCBX, sDropX, sRetX, sAsgX, sRaise, sRaiseF, List.set_cons_zero, List.set_cons_succ, List.getElem?_cons_zero, List.getElem?_cons_succ, truD_bl, cMin2])
    have nat2 : ((min u v : Nat) : Int) = (if (v : Int) < (u : Int) then (v : Int) else (u : Int)) := by split <;> omega
    have ht : (((rs.map Stretch.d).set u d1).set v d2).take (min u v) = (rs.take (min u v)).map Stretch.d := by
      rw [List.take_set_of_le (by omega), List.take_set_of_le (by omega), List.map_take]
    have hb : badR n [] 0 (((rs.map Stretch.d).set u d1).set v d2) = some (min u v) := by
      by_cases c : v ≤ u
      · exact bad_ix (d := d2) hr.all hr.nd ht (by rw [show min u v = v by omega, List.getElem?_set_self (by rw [List.length_set, List.length_map]; omega)]) (by omega) (by omega) (.inr (by rw [show min u v = v by omega]; exact b2))
      · exact bad_ix (d := d1) hr.all hr.nd ht (by rw [show min u v = u by omega, List.getElem?_set_ne (by omega), List.getElem?_set_self (by rw [List.length_map]; omega)]) (by omega) (by omega) (.inr (by rw [show min u v = u by omega]; exact b1))
    have := doneH _ (some (min u v)) p x y z hpG ok m2 (by rw [List.length_set, List.length_set, List.length_map]; omega) (look_bad n1 n2 hb)
    simp only [numD] at this
    rw [nat2] at this
    exact this
theorem str_to {d : D} {k n : Nat} (h : TO k n d) (hk : k ≤ 40) (hn : n ≤ 16000000) : ∃ z : Str, Asc z ∧ ∀ (G : Gp) (Q : DK), Q (.str z) G → cStrX [d] G Q := by
  obtain ⟨ha, _, p, e, h3, h4, h5, h6⟩ := h
  have big : ∀ {G : Gp} {Q : DK}, Q (.str p.shown) G → p.showable = true ∧ p.depth ≤ 40 ∧ p.shown.length ≤ sizeLine ∧ Q (.str p.shown) G := fun q => ⟨h3, by omega, Nat.le_trans h6 (Nat.le_trans hn line_ge), q⟩
  cases d with
  | int i =>
    have := e (fun _ => none)
    simp at this
    subst this
    exact ⟨_, asc_of (toString i), fun G Q q => ⟨by simpa [PyData.showable] using h3, q⟩⟩
  | str z => exact ⟨z, (okT_str ha).2, fun G Q q => q⟩
  | bl b => exact ⟨_, by cases b; exact asc_of "False"; exact asc_of "True", fun G Q q => q⟩
  | non => exact ⟨_, asc_of "None", fun G Q q => q⟩
  | lst ds => exact ⟨p.shown, h5, fun G Q q => by unfold cStrX; simp only [e]; exact ⟨rfl, big q⟩⟩
  | tup ds => exact ⟨p.shown, h5, fun G Q q => by unfold cStrX; simp only [e]; exact ⟨rfl, big q⟩⟩
  | dct ks ds => exact ⟨p.shown, h5, fun G Q q => by unfold cStrX; simp only [e]; exact ⟨rfl, big q⟩⟩
  | _ => simp [okT] at ha
theorem look_ring {n : Int} {rs : List Stretch} (hr : RgOk n rs) : lookR (ringD n rs) = none := by
  have hb := badR_ok (n := n) (rs.map Stretch.d) [] 0 (fun x hx => by
    obtain ⟨s, hs, rfl⟩ := List.mem_map.mp hx
    exact rs_ok (hr.all s hs)) (by rw [List.nil_append, st_names]; exact hr.nd) (by rw [List.length_map]; have := hr.len; omega)
  unfold ringD
  simp only [lookR, intOf, if_pos (And.intro hr.n1 hr.n2), hb]
  rfl
theorem ne_same53 {z : Str} {G : Gp} {Q : DK} (h : Asc z) (q : Q (.bl false) G) : oNe (.str z) (.str z) G Q := ne_ss h h (by rw [decide_eq_true rfl]; exact q)
theorem ne_ring {n : Int} {rs : List Stretch} {G : Gp} {Q : DK} (hr : RgOk n rs) (q : Q (.bl false) G) : oNe (ringD n rs) (ringD n rs) G Q := by
  have s1 : Shp 2 (.list (rs.map Stretch.py)) := shp_list fun x hx => by
    obtain ⟨s, hs, rfl⟩ := List.mem_map.mp hx
    have nm := (hr.all s hs).nm
    exact shp_tuple fun y hy => by
      simp only [List.mem_cons, List.not_mem_nil, or_false] at hy
      rcases hy with rfl | rfl | rfl | rfl
      · exact shp_name nm
      all_goals exact shp_int _
  exact ne_self (u := .tuple [.int n, .list (rs.map Stretch.py)]) (n := 3) (shp_tuple fun x hx => by
    simp only [List.mem_cons, List.not_mem_nil, or_false] at hx
    rcases hx with rfl | rfl
    · exact shp_int _
    · exact s1) (by simp [ringD, toPys_book]) (by simp [ringD, toPys_book]) q
theorem d_law (ds : List D) (G : Gp) (Q : DK) (h : lawF 63 ds G Q) : r_law (fin G Q) (startD 8 ds) G := by
  obtain ⟨ns, rfl, hl, rfl, k⟩ := h
  refine seq_gen fun W hW => ?_
  (try dsimp only [sAsg, sIf, sRet, sRetN, sDrop, sNext, asg, setAll, eT, eOp, eUn, eLst, eTup, eCons, eNil, eVar, eC, eCall, eCB, eNot, eAnd, eOr, eTru, eAndT, eOrT, eNotT, eIf, ePart, eNoPart, eYes, eChain, eChain3, oI, oI0, oLt, oLe, oGt, oGe, oNeg, oSub, oMod, oMul, oDivW, eXp, eXa, eConsX, eCallX, eCallN, eLstX, eCBX, sDropX, sRetX, sAsgX, sRaise, sRaiseF, List.set_cons_zero, List.set_cons_succ, List.getElem?_cons_zero, List.getElem?_cons_succ, truD_bl, startD, List.map_cons, List.map_nil, List.cons_append, List.nil_append, List.replicate, sFor, iR1, cLen, cMin2, cMax2]); (try simp only [if_true, Bool.false_eq_true, if_false, decide_true, decide_false, Bool.not_true, Bool.not_false, List.length_cons, List.length_nil, sizeLine_eq, Nat.reduceAdd, Nat.reduceLeDiff, true_and, and_true, pw6, pw10, pw11, pw12, pw13, pw30, pw40, pw60, startD, List.map_cons, List.map_nil, List.cons_append, List.nil_append, List.replicate, sFor, iR1, cLen, cMin2, cMax2]); (try dsimp only [sAsg, sIf, sRet, sRetN, sDrop, sNext, asg, setAll, eT, eOp, eUn, eLst, eTup, eCons, eNil, eVar, eC, eCall, eCB, eNot, eAnd, eOr, eTru, eAndT, eOrT, eNotT, eIf, ePart, eNoPart, eYes, eChain, eChain3, oI, oI0, oLt, oLe, oGt, oGe, oNeg, oSub, oMod, oMul, oDivW, eXp, eXa, eConsX, eCallX, eCallN, eLstX, eCBX, sDropX, sRetX, sAsgX, sRaise, sRaiseF, List.set_cons_zero, List.set_cons_succ, List.getElem?_cons_zero, List.getElem?_cons_succ, truD_bl, startD, List.map_cons, List.map_nil, List.cons_append, List.nil_append, List.replicate, sFor, iR1, cLen, cMin2, cMax2])
  have el : lkQ (fun _ => none) (.scr ns) = some (ns.map D.int) := by simp
  simp only [el, List.length_map]
  refine ⟨by split <;> split <;> omega, by split <;> split <;> omega, ?_⟩
  refine law_loop (m := 0) (fun s G => ∃ o1 o2 o3 o4 o5 o6 o7, s = [some (.scr ns), o1, o2, o3, o4, o5, o6, o7]) ?_ (by split <;> split <;> omega) ⟨_, _, _, _, _, _, _, rfl⟩ ?_
  · intro i h0 h1 s G W2 hI hW2
    obtain ⟨o1, o2, o3, o4, o5, o6, o7, rfl⟩ := hI
    (try dsimp only [sAsg, sIf, sRet, sRetN, sDrop, sNext, asg, setAll, eT, eOp, eUn, eLst, eTup, eCons, eNil, eVar, eC, eCall, eCB, eNot, eAnd, eOr, eTru, eAndT, eOrT, eNotT, eIf, ePart, eNoPart, eYes, eChain, eChain3, oI, oI0, oLt, oLe, oGt, oGe, oNeg, oSub, oMod, oMul, oDivW, eXp, eXa, eConsX, eCallX, eCallN, eLstX, eCBX, sDropX, sRetX, sAsgX, sRaise, sRaiseF, List.set_cons_zero, List.set_cons_succ, List.getElem?_cons_zero, List.getElem?_cons_succ, truD_bl]); (try simp only [if_true, Bool.false_eq_true, if_false, decide_true, decide_false, Bool.not_true, Bool.not_false, List.length_cons, List.length_nil, sizeLine_eq, Nat.reduceAdd, Nat.reduceLeDiff, true_and, and_true, pw6, pw10, pw11, pw12, pw13, pw30, pw40, pw60]); (try dsimp only [sAsg, sIf, sRet, sRetN, sDrop, sNext, asg, setAll, eT, eOp, eUn, eLst, eTup, eCons, eNil, eVar, eC, eCall, eCB, eNot, eAnd, eOr, eTru, eAndT, eOrT, eNotT, eIf, ePart, eNoPart, eYes, eChain, eChain3, oI, oI0, oLt, oLe, oGt, oGe, oNeg, oSub, oMod, oMul, oDivW, eXp, eXa, eConsX, eCallX, eCallN, eLstX, eCBX, sDropX, sRetX, sAsgX, sRaise, sRaiseF, List.set_cons_zero, List.set_cons_succ, List.getElem?_cons_zero, List.getElem?_cons_succ, truD_bl])
    unfold r_law_L1
    refine seq_gen fun W3 hW3 => ?_
    (try dsimp only [sAsg, sIf, sRet, sRetN, sDrop, sNext, asg, setAll, eT, eOp, eUn, eLst, eTup, eCons, eNil, eVar, eC, eCall, eCB, eNot, eAnd, eOr, eTru, eAndT, eOrT, eNotT, eIf, ePart, eNoPart, eYes, eChain, eChain3, oI, oI0, oLt, oLe, oGt, oGe, oNeg, oSub, oMod, oMul, oDivW, eXp, eXa, eConsX, eCallX, eCallN, eLstX, eCBX, sDropX, sRetX, sAsgX, sRaise, sRaiseF, List.set_cons_zero, List.set_cons_succ, List.getElem?_cons_zero, List.getElem?_cons_succ, truD_bl]); (try simp only [if_true, Bool.false_eq_true, if_false, decide_true, decide_false, Bool.not_true, Bool.not_false, List.length_cons, List.length_nil, sizeLine_eq, Nat.reduceAdd, Nat.reduceLeDiff, true_and, and_true, pw6, pw10, pw11, pw12, pw13, pw30, pw40, pw60]); (try dsimp only [sAsg, sIf, sRet, sRetN, sDrop, sNext, asg, setAll, eT, eOp, eUn, eLst, eTup, eCons, eNil, eVar, eC, eCall, eCB, eNot, eAnd, eOr, eTru, eAndT, eOrT, eNotT, eIf, ePart, eNoPart, eYes, eChain, eChain3, oI, oI0, oLt, oLe, oGt, oGe, oNeg, oSub, oMod, oMul, oDivW, eXp, eXa, eConsX, eCallX, eCallN, eLstX, eCBX, sDropX, sRetX, sAsgX, sRaise, sRaiseF, List.set_cons_zero, List.set_cons_succ, List.getElem?_cons_zero, List.getElem?_cons_succ, truD_bl])
    refine ⟨ns, i, rfl, h0, by omega, fun p x y z hp ok => hW3 _ _ ?_⟩
    refine seq_gen fun W4 hW4 => ?_
    (try dsimp only [sAsg, sIf, sRet, sRetN, sDrop, sNext, asg, setAll, eT, eOp, eUn, eLst, eTup, eCons, eNil, eVar, eC, eCall, eCB, eNot, eAnd, eOr, eTru, eAndT, eOrT, eNotT, eIf, ePart, eNoPart, eYes, eChain, eChain3, oI, oI0, oLt, oLe, oGt, oGe, oNeg, oSub, oMod, oMul, oDivW, eXp, eXa, eConsX, eCallX, eCallN, eLstX, eCBX, sDropX, sRetX, sAsgX, sRaise, sRaiseF, List.set_cons_zero, List.set_cons_succ, List.getElem?_cons_zero, List.getElem?_cons_succ, truD_bl]); (try simp only [if_true, Bool.false_eq_true, if_false, decide_true, decide_false, Bool.not_true, Bool.not_false, List.length_cons, List.length_nil, sizeLine_eq, Nat.reduceAdd, Nat.reduceLeDiff, true_and, and_true, pw6, pw10, pw11, pw12, pw13, pw30, pw40, pw60]); (try dsimp only [sAsg, sIf, sRet, sRetN, sDrop, sNext, asg, setAll, eT, eOp, eUn, eLst, eTup, eCons, eNil, eVar, eC, eCall, eCB, eNot, eAnd, eOr, eTru, eAndT, eOrT, eNotT, eIf, ePart, eNoPart, eYes, eChain, eChain3, oI, oI0, oLt, oLe, oGt, oGe, oNeg, oSub, oMod, oMul, oDivW, eXp, eXa, eConsX, eCallX, eCallN, eLstX, eCBX, sDropX, sRetX, sAsgX, sRaise, sRaiseF, List.set_cons_zero, List.set_cons_succ, List.getElem?_cons_zero, List.getElem?_cons_succ, truD_bl])
    refine ⟨p, 24, x, y, z, rfl, gput_same, ok, by decide, by decide, fun n rs x y z ok hr _ => hW4 _ _ ?_⟩
    rw [gput_gput]
    have n1 := hr.n1
    have n2 := hr.n2
    have rl := hr.len
    have r0 : ∀ {G : Gp} {Q : DK}, Q (.int n) G → oIx (ringD n rs) (.int 0) G Q := fun q => ixt_0 rfl q
    have r1 : ∀ {G : Gp} {Q : DK}, Q (.lst (rs.map Stretch.d)) G → oIx (ringD n rs) (.int 1) G Q := fun q => ixt_0 rfl q
    have okr : okT (ringD n rs) = true := okT_tup.mpr (all2 rfl (row_to (ring_to hr.all n2) (by rw [List.length_map]; omega)).1)
    have look : ∀ {G : Gp} {Q : DK}, Q .non G → nev F_look_at_ring [ringD n rs] G Q := fun {G Q} q => ⟨_, rfl, okr, fun _ => q, fun r e => by rw [look_ring hr] at e; cases e⟩
    refine seq_gen fun W5 hW5 => ?_
    (try dsimp only [sAsg, sIf, sRet, sRetN, sDrop, sNext, asg, setAll, eT, eOp, eUn, eLst, eTup, eCons, eNil, eVar, eC, eCall, eCB, eNot, eAnd, eOr, eTru, eAndT, eOrT, eNotT, eIf, ePart, eNoPart, eYes, eChain, eChain3, oI, oI0, oLt, oLe, oGt, oGe, oNeg, oSub, oMod, oMul, oDivW, eXp, eXa, eConsX, eCallX, eCallN, eLstX, eCBX, sDropX, sRetX, sAsgX, sRaise, sRaiseF, List.set_cons_zero, List.set_cons_succ, List.getElem?_cons_zero, List.getElem?_cons_succ, truD_bl]); (try simp only [if_true, Bool.false_eq_true, if_false, decide_true, decide_false, Bool.not_true, Bool.not_false, List.length_cons, List.length_nil, sizeLine_eq, Nat.reduceAdd, Nat.reduceLeDiff, true_and, and_true, pw6, pw10, pw11, pw12, pw13, pw30, pw40, pw60]); (try dsimp only [sAsg, sIf, sRet, sRetN, sDrop, sNext, asg, setAll, eT, eOp, eUn, eLst, eTup, eCons, eNil, eVar, eC, eCall, eCB, eNot, eAnd, eOr, eTru, eAndT, eOrT, eNotT, eIf, ePart, eNoPart, eYes, eChain, eChain3, oI, oI0, oLt, oLe, oGt, oGe, oNeg, oSub, oMod, oMul, oDivW, eXp, eXa, eConsX, eCallX, eCallN, eLstX, eCBX, sDropX, sRetX, sAsgX, sRaise, sRaiseF, List.set_cons_zero, List.set_cons_succ, List.getElem?_cons_zero, List.getElem?_cons_succ, truD_bl])
    refine r0 (r1 ?_)
    (try dsimp only [sAsg, sIf, sRet, sRetN, sDrop, sNext, asg, setAll, eT, eOp, eUn, eLst, eTup, eCons, eNil, eVar, eC, eCall, eCB, eNot, eAnd, eOr, eTru, eAndT, eOrT, eNotT, eIf, ePart, eNoPart, eYes, eChain, eChain3, oI, oI0, oLt, oLe, oGt, oGe, oNeg, oSub, oMod, oMul, oDivW, eXp, eXa, eConsX, eCallX, eCallN, eLstX, eCBX, sDropX, sRetX, sAsgX, sRaise, sRaiseF, List.set_cons_zero, List.set_cons_succ, List.getElem?_cons_zero, List.getElem?_cons_succ, truD_bl, cList, lkQ_lst]); (try simp only [if_true, Bool.false_eq_true, if_false, decide_true, decide_false, Bool.not_true, Bool.not_false, List.length_cons, List.length_nil, sizeLine_eq, Nat.reduceAdd, Nat.reduceLeDiff, true_and, and_true, pw6, pw10, pw11, pw12, pw13, pw30, pw40, pw60, cList, lkQ_lst]); (try dsimp only [sAsg, sIf, sRet, sRetN, sDrop, sNext, asg, setAll, eT, eOp, eUn, eLst, eTup, eCons, eNil, eVar, eC, eCall, eCB, eNot, eAnd, eOr, eTru, eAndT, eOrT, eNotT, eIf, ePart, eNoPart, eYes, eChain, eChain3, oI, oI0, oLt, oLe, oGt, oGe, oNeg, oSub, oMod, oMul, oDivW, eXp, eXa, eConsX, eCallX, eCallN, eLstX, eCBX, sDropX, sRetX, sAsgX, sRaise, sRaiseF, List.set_cons_zero, List.set_cons_succ, List.getElem?_cons_zero, List.getElem?_cons_succ, truD_bl, cList, lkQ_lst])
    have er : (D.tup [.int n, .lst (rs.map Stretch.d)]) = ringD n rs := rfl
    rw [er]
    refine hW5 _ _ ?_
    refine seq_gen fun W6 hW6 => ?_
    (try dsimp only [sAsg, sIf, sRet, sRetN, sDrop, sNext, asg, setAll, eT, eOp, eUn, eLst, eTup, eCons, eNil, eVar, eC, eCall, eCB, eNot, eAnd, eOr, eTru, eAndT, eOrT, eNotT, eIf, ePart, eNoPart, eYes, eChain, eChain3, oI, oI0, oLt, oLe, oGt, oGe, oNeg, oSub, oMod, oMul, oDivW, eXp, eXa, eConsX, eCallX, eCallN, eLstX, eCBX, sDropX, sRetX, sAsgX, sRaise, sRaiseF, List.set_cons_zero, List.set_cons_succ, List.getElem?_cons_zero, List.getElem?_cons_succ, truD_bl]); (try simp only [if_true, Bool.false_eq_true, if_false, decide_true, decide_false, Bool.not_true, Bool.not_false, List.length_cons, List.length_nil, sizeLine_eq, Nat.reduceAdd, Nat.reduceLeDiff, true_and, and_true, pw6, pw10, pw11, pw12, pw13, pw30, pw40, pw60]); (try dsimp only [sAsg, sIf, sRet, sRetN, sDrop, sNext, asg, setAll, eT, eOp, eUn, eLst, eTup, eCons, eNil, eVar, eC, eCall, eCB, eNot, eAnd, eOr, eTru, eAndT, eOrT, eNotT, eIf, ePart, eNoPart, eYes, eChain, eChain3, oI, oI0, oLt, oLe, oGt, oGe, oNeg, oSub, oMod, oMul, oDivW, eXp, eXa, eConsX, eCallX, eCallN, eLstX, eCBX, sDropX, sRetX, sAsgX, sRaise, sRaiseF, List.set_cons_zero, List.set_cons_succ, List.getElem?_cons_zero, List.getElem?_cons_succ, truD_bl])
    refine ⟨p, x, y, z, n, rs, rfl, gput_same, ok, hr, fun d r x y z ok t hr2 => ?_⟩
    rw [gput_gput]
    obtain ⟨zz, az, hz⟩ := str_to t (by decide) (by decide)
    (try dsimp only [sAsg, sIf, sRet, sRetN, sDrop, sNext, asg, setAll, eT, eOp, eUn, eLst, eTup, eCons, eNil, eVar, eC, eCall, eCB, eNot, eAnd, eOr, eTru, eAndT, eOrT, eNotT, eIf, ePart, eNoPart, eYes, eChain, eChain3, oI, oI0, oLt, oLe, oGt, oGe, oNeg, oSub, oMod, oMul, oDivW, eXp, eXa, eConsX, eCallX, eCallN, eLstX, eCBX, sDropX, sRetX, sAsgX, sRaise, sRaiseF, List.set_cons_zero, List.set_cons_succ, List.getElem?_cons_zero, List.getElem?_cons_succ, truD_bl, lkQ_tup]); (try simp only [if_true, Bool.false_eq_true, if_false, decide_true, decide_false, Bool.not_true, Bool.not_false, List.length_cons, List.length_nil, sizeLine_eq, Nat.reduceAdd, Nat.reduceLeDiff, true_and, and_true, pw6, pw10, pw11, pw12, pw13, pw30, pw40, pw60, lkQ_tup]); (try dsimp only [sAsg, sIf, sRet, sRetN, sDrop, sNext, asg, setAll, eT, eOp, eUn, eLst, eTup, eCons, eNil, eVar, eC, eCall, eCB, eNot, eAnd, eOr, eTru, eAndT, eOrT, eNotT, eIf, ePart, eNoPart, eYes, eChain, eChain3, oI, oI0, oLt, oLe, oGt, oGe, oNeg, oSub, oMod, oMul, oDivW, eXp, eXa, eConsX, eCallX, eCallN, eLstX, eCBX, sDropX, sRetX, sAsgX, sRaise, sRaiseF, List.set_cons_zero, List.set_cons_succ, List.getElem?_cons_zero, List.getElem?_cons_succ, truD_bl, lkQ_tup])
    refine hW6 _ _ ?_
    refine seq_gen fun W7 hW7 => ?_
    (try dsimp only [sAsg, sIf, sRet, sRetN, sDrop, sNext, asg, setAll, eT, eOp, eUn, eLst, eTup, eCons, eNil, eVar, eC, eCall, eCB, eNot, eAnd, eOr, eTru, eAndT, eOrT, eNotT, eIf, ePart, eNoPart, eYes, eChain, eChain3, oI, oI0, oLt, oLe, oGt, oGe, oNeg, oSub, oMod, oMul, oDivW, eXp, eXa, eConsX, eCallX, eCallN, eLstX, eCBX, sDropX, sRetX, sAsgX, sRaise, sRaiseF, List.set_cons_zero, List.set_cons_succ, List.getElem?_cons_zero, List.getElem?_cons_succ, truD_bl]); (try simp only [if_true, Bool.false_eq_true, if_false, decide_true, decide_false, Bool.not_true, Bool.not_false, List.length_cons, List.length_nil, sizeLine_eq, Nat.reduceAdd, Nat.reduceLeDiff, true_and, and_true, pw6, pw10, pw11, pw12, pw13, pw30, pw40, pw60]); (try dsimp only [sAsg, sIf, sRet, sRetN, sDrop, sNext, asg, setAll, eT, eOp, eUn, eLst, eTup, eCons, eNil, eVar, eC, eCall, eCB, eNot, eAnd, eOr, eTru, eAndT, eOrT, eNotT, eIf, ePart, eNoPart, eYes, eChain, eChain3, oI, oI0, oLt, oLe, oGt, oGe, oNeg, oSub, oMod, oMul, oDivW, eXp, eXa, eConsX, eCallX, eCallN, eLstX, eCBX, sDropX, sRetX, sAsgX, sRaise, sRaiseF, List.set_cons_zero, List.set_cons_succ, List.getElem?_cons_zero, List.getElem?_cons_succ, truD_bl])
    refine hz _ _ (hW7 _ _ ?_)
    refine seq_gen fun W8 hW8 => ?_
    (try dsimp only [sAsg, sIf, sRet, sRetN, sDrop, sNext, asg, setAll, eT, eOp, eUn, eLst, eTup, eCons, eNil, eVar, eC, eCall, eCB, eNot, eAnd, eOr, eTru, eAndT, eOrT, eNotT, eIf, ePart, eNoPart, eYes, eChain, eChain3, oI, oI0, oLt, oLe, oGt, oGe, oNeg, oSub, oMod, oMul, oDivW, eXp, eXa, eConsX, eCallX, eCallN, eLstX, eCBX, sDropX, sRetX, sAsgX, sRaise, sRaiseF, List.set_cons_zero, List.set_cons_succ, List.getElem?_cons_zero, List.getElem?_cons_succ, truD_bl]); (try simp only [if_true, Bool.false_eq_true, if_false, decide_true, decide_false, Bool.not_true, Bool.not_false, List.length_cons, List.length_nil, sizeLine_eq, Nat.reduceAdd, Nat.reduceLeDiff, true_and, and_true, pw6, pw10, pw11, pw12, pw13, pw30, pw40, pw60]); (try dsimp only [sAsg, sIf, sRet, sRetN, sDrop, sNext, asg, setAll, eT, eOp, eUn, eLst, eTup, eCons, eNil, eVar, eC, eCall, eCB, eNot, eAnd, eOr, eTru, eAndT, eOrT, eNotT, eIf, ePart, eNoPart, eYes, eChain, eChain3, oI, oI0, oLt, oLe, oGt, oGe, oNeg, oSub, oMod, oMul, oDivW, eXp, eXa, eConsX, eCallX, eCallN, eLstX, eCBX, sDropX, sRetX, sAsgX, sRaise, sRaiseF, List.set_cons_zero, List.set_cons_succ, List.getElem?_cons_zero, List.getElem?_cons_succ, truD_bl])
    refine look ?_
    (try dsimp only [sAsg, sIf, sRet, sRetN, sDrop, sNext, asg, setAll, eT, eOp, eUn, eLst, eTup, eCons, eNil, eVar, eC, eCall, eCB, eNot, eAnd, eOr, eTru, eAndT, eOrT, eNotT, eIf, ePart, eNoPart, eYes, eChain, eChain3, oI, oI0, oLt, oLe, oGt, oGe, oNeg, oSub, oMod, oMul, oDivW, eXp, eXa, eConsX, eCallX, eCallN, eLstX, eCBX, sDropX, sRetX, sAsgX, sRaise, sRaiseF, List.set_cons_zero, List.set_cons_succ, List.getElem?_cons_zero, List.getElem?_cons_succ, truD_bl, oNotN]); (try simp only [if_true, Bool.false_eq_true, if_false, decide_true, decide_false, Bool.not_true, Bool.not_false, List.length_cons, List.length_nil, sizeLine_eq, Nat.reduceAdd, Nat.reduceLeDiff, true_and, and_true, pw6, pw10, pw11, pw12, pw13, pw30, pw40, pw60, oNotN]); (try dsimp only [sAsg, sIf, sRet, sRetN, sDrop, sNext, asg, setAll, eT, eOp, eUn, eLst, eTup, eCons, eNil, eVar, eC, eCall, eCB, eNot, eAnd, eOr, eTru, eAndT, eOrT, eNotT, eIf, ePart, eNoPart, eYes, eChain, eChain3, oI, oI0, oLt, oLe, oGt, oGe, oNeg, oSub, oMod, oMul, oDivW, eXp, eXa, eConsX, eCallX, eCallN, eLstX, eCBX, sDropX, sRetX, sAsgX, sRaise, sRaiseF, List.set_cons_zero, List.set_cons_succ, List.getElem?_cons_zero, List.getElem?_cons_succ, truD_bl, oNotN])
    refine ne_ring hr ?_
    (try dsimp only [sAsg, sIf, sRet, sRetN, sDrop, sNext, asg, setAll, eT, eOp, eUn, eLst, eTup, eCons, eNil, eVar, eC, eCall, eCB, eNot, eAnd, eOr, eTru, eAndT, eOrT, eNotT, eIf, ePart, eNoPart, eYes, eChain, eChain3, oI, oI0, oLt, oLe, oGt, oGe, oNeg, oSub, oMod, oMul, oDivW, eXp, eXa, eConsX, eCallX, eCallN, eLstX, eCBX, sDropX, sRetX, sAsgX, sRaise, sRaiseF, List.set_cons_zero, List.set_cons_succ, List.getElem?_cons_zero, List.getElem?_cons_succ, truD_bl]); (try simp only [if_true, Bool.false_eq_true, if_false, decide_true, decide_false, Bool.not_true, Bool.not_false, List.length_cons, List.length_nil, sizeLine_eq, Nat.reduceAdd, Nat.reduceLeDiff, true_and, and_true, pw6, pw10, pw11, pw12, pw13, pw30, pw40, pw60]); (try dsimp only [sAsg, sIf, sRet, sRetN, sDrop, sNext, asg, setAll, eT, eOp, eUn, eLst, eTup, eCons, eNil, eVar, eC, eCall, eCB, eNot, eAnd, eOr, eTru, eAndT, eOrT, eNotT, eIf, ePart, eNoPart, eYes, eChain, eChain3, oI, oI0, oLt, oLe, oGt, oGe, oNeg, oSub, oMod, oMul, oDivW, eXp, eXa, eConsX, eCallX, eCallN, eLstX, eCBX, sDropX, sRetX, sAsgX, sRaise, sRaiseF, List.set_cons_zero, List.set_cons_succ, List.getElem?_cons_zero, List.getElem?_cons_succ, truD_bl])
    refine hW8 _ _ ?_
    refine seq_gen fun W9 hW9 => ?_
    (try dsimp only [sAsg, sIf, sRet, sRetN, sDrop, sNext, asg, setAll, eT, eOp, eUn, eLst, eTup, eCons, eNil, eVar, eC, eCall, eCB, eNot, eAnd, eOr, eTru, eAndT, eOrT, eNotT, eIf, ePart, eNoPart, eYes, eChain, eChain3, oI, oI0, oLt, oLe, oGt, oGe, oNeg, oSub, oMod, oMul, oDivW, eXp, eXa, eConsX, eCallX, eCallN, eLstX, eCBX, sDropX, sRetX, sAsgX, sRaise, sRaiseF, List.set_cons_zero, List.set_cons_succ, List.getElem?_cons_zero, List.getElem?_cons_succ, truD_bl]); (try simp only [if_true, Bool.false_eq_true, if_false, decide_true, decide_false, Bool.not_true, Bool.not_false, List.length_cons, List.length_nil, sizeLine_eq, Nat.reduceAdd, Nat.reduceLeDiff, true_and, and_true, pw6, pw10, pw11, pw12, pw13, pw30, pw40, pw60]); (try dsimp only [sAsg, sIf, sRet, sRetN, sDrop, sNext, asg, setAll, eT, eOp, eUn, eLst, eTup, eCons, eNil, eVar, eC, eCall, eCB, eNot, eAnd, eOr, eTru, eAndT, eOrT, eNotT, eIf, ePart, eNoPart, eYes, eChain, eChain3, oI, oI0, oLt, oLe, oGt, oGe, oNeg, oSub, oMod, oMul, oDivW, eXp, eXa, eConsX, eCallX, eCallN, eLstX, eCBX, sDropX, sRetX, sAsgX, sRaise, sRaiseF, List.set_cons_zero, List.set_cons_succ, List.getElem?_cons_zero, List.getElem?_cons_succ, truD_bl])
    refine ⟨d, r, rfl, t.1, hr2, ?_⟩
    (try dsimp only [sAsg, sIf, sRet, sRetN, sDrop, sNext, asg, setAll, eT, eOp, eUn, eLst, eTup, eCons, eNil, eVar, eC, eCall, eCB, eNot, eAnd, eOr, eTru, eAndT, eOrT, eNotT, eIf, ePart, eNoPart, eYes, eChain, eChain3, oI, oI0, oLt, oLe, oGt, oGe, oNeg, oSub, oMod, oMul, oDivW, eXp, eXa, eConsX, eCallX, eCallN, eLstX, eCBX, sDropX, sRetX, sAsgX, sRaise, sRaiseF, List.set_cons_zero, List.set_cons_succ, List.getElem?_cons_zero, List.getElem?_cons_succ, truD_bl]); (try simp only [if_true, Bool.false_eq_true, if_false, decide_true, decide_false, Bool.not_true, Bool.not_false, List.length_cons, List.length_nil, sizeLine_eq, Nat.reduceAdd, Nat.reduceLeDiff, true_and, and_true, pw6, pw10, pw11, pw12, pw13, pw30, pw40, pw60]); (try dsimp only [sAsg, sIf, sRet, sRetN, sDrop, sNext, asg, setAll, eT, eOp, eUn, eLst, eTup, eCons, eNil, eVar, eC, eCall, eCB, eNot, eAnd, eOr, eTru, eAndT, eOrT, eNotT, eIf, ePart, eNoPart, eYes, eChain, eChain3, oI, oI0, oLt, oLe, oGt, oGe, oNeg, oSub, oMod, oMul, oDivW, eXp, eXa, eConsX, eCallX, eCallN, eLstX, eCBX, sDropX, sRetX, sAsgX, sRaise, sRaiseF, List.set_cons_zero, List.set_cons_succ, List.getElem?_cons_zero, List.getElem?_cons_succ, truD_bl])
    refine hz _ _ (ne_same53 az ?_)
    (try dsimp only [sAsg, sIf, sRet, sRetN, sDrop, sNext, asg, setAll, eT, eOp, eUn, eLst, eTup, eCons, eNil, eVar, eC, eCall, eCB, eNot, eAnd, eOr, eTru, eAndT, eOrT, eNotT, eIf, ePart, eNoPart, eYes, eChain, eChain3, oI, oI0, oLt, oLe, oGt, oGe, oNeg, oSub, oMod, oMul, oDivW, eXp, eXa, eConsX, eCallX, eCallN, eLstX, eCBX, sDropX, sRetX, sAsgX, sRaise, sRaiseF, List.set_cons_zero, List.set_cons_succ, List.getElem?_cons_zero, List.getElem?_cons_succ, truD_bl]); (try simp only [if_true, Bool.false_eq_true, if_false, decide_true, decide_false, Bool.not_true, Bool.not_false, List.length_cons, List.length_nil, sizeLine_eq, Nat.reduceAdd, Nat.reduceLeDiff, true_and, and_true, pw6, pw10, pw11, pw12, pw13, pw30, pw40, pw60]); (try dsimp only [sAsg, sIf, sRet, sRetN, sDrop, sNext, asg, setAll, eT, eOp, eUn, eLst, eTup, eCons, eNil, eVar, eC, eCall, eCB, eNot, eAnd, eOr, eTru, eAndT, eOrT, eNotT, eIf, ePart, eNoPart, eYes, eChain, eChain3, oI, oI0, oLt, oLe, oGt, oGe, oNeg, oSub, oMod, oMul, oDivW, eXp, eXa, eConsX, eCallX, eCallN, eLstX, eCBX, sDropX, sRetX, sAsgX, sRaise, sRaiseF, List.set_cons_zero, List.set_cons_succ, List.getElem?_cons_zero, List.getElem?_cons_succ, truD_bl])
    refine hW9 _ _ ?_
    (try dsimp only [sAsg, sIf, sRet, sRetN, sDrop, sNext, asg, setAll, eT, eOp, eUn, eLst, eTup, eCons, eNil, eVar, eC, eCall, eCB, eNot, eAnd, eOr, eTru, eAndT, eOrT, eNotT, eIf, ePart, eNoPart, eYes, eChain, eChain3, oI, oI0, oLt, oLe, oGt, oGe, oNeg, oSub, oMod, oMul, oDivW, eXp, eXa, eConsX, eCallX, eCallN, eLstX, eCBX, sDropX, sRetX, sAsgX, sRaise, sRaiseF, List.set_cons_zero, List.set_cons_succ, List.getElem?_cons_zero, List.getElem?_cons_succ, truD_bl]); (try simp only [if_true, Bool.false_eq_true, if_false, decide_true, decide_false, Bool.not_true, Bool.not_false, List.length_cons, List.length_nil, sizeLine_eq, Nat.reduceAdd, Nat.reduceLeDiff, true_and, and_true, pw6, pw10, pw11, pw12, pw13, pw30, pw40, pw60]); (try dsimp only [sAsg, sIf, sRet, sRetN, sDrop, sNext, asg, setAll, eT, eOp, eUn, eLst, eTup, eCons, eNil, eVar, eC, eCall, eCB, eNot, eAnd, eOr, eTru, eAndT, eOrT, eNotT, eIf, ePart, eNoPart, eYes, eChain, eChain3, oI, oI0, oLt, oLe, oGt, oGe, oNeg, oSub, oMod, oMul, oDivW, eXp, eXa, eConsX, eCallX, eCallN, eLstX, eCBX, sDropX, sRetX, sAsgX, sRaise, sRaiseF, List.set_cons_zero, List.set_cons_succ, List.getElem?_cons_zero, List.getElem?_cons_succ, truD_bl])
    refine look ?_
    (try dsimp only [sAsg, sIf, sRet, sRetN, sDrop, sNext, asg, setAll, eT, eOp, eUn, eLst, eTup, eCons, eNil, eVar, eC, eCall, eCB, eNot, eAnd, eOr, eTru, eAndT, eOrT, eNotT, eIf, ePart, eNoPart, eYes, eChain, eChain3, oI, oI0, oLt, oLe, oGt, oGe, oNeg, oSub, oMod, oMul, oDivW, eXp, eXa, eConsX, eCallX, eCallN, eLstX, eCBX, sDropX, sRetX, sAsgX, sRaise, sRaiseF, List.set_cons_zero, List.set_cons_succ, List.getElem?_cons_zero, List.getElem?_cons_succ, truD_bl, oNotN]); (try simp only [if_true, Bool.false_eq_true, if_false, decide_true, decide_false, Bool.not_true, Bool.not_false, List.length_cons, List.length_nil, sizeLine_eq, Nat.reduceAdd, Nat.reduceLeDiff, true_and, and_true, pw6, pw10, pw11, pw12, pw13, pw30, pw40, pw60, oNotN]); (try dsimp only [sAsg, sIf, sRet, sRetN, sDrop, sNext, asg, setAll, eT, eOp, eUn, eLst, eTup, eCons, eNil, eVar, eC, eCall, eCB, eNot, eAnd, eOr, eTru, eAndT, eOrT, eNotT, eIf, ePart, eNoPart, eYes, eChain, eChain3, oI, oI0, oLt, oLe, oGt, oGe, oNeg, oSub, oMod, oMul, oDivW, eXp, eXa, eConsX, eCallX, eCallN, eLstX, eCBX, sDropX, sRetX, sAsgX, sRaise, sRaiseF, List.set_cons_zero, List.set_cons_succ, List.getElem?_cons_zero, List.getElem?_cons_succ, truD_bl, oNotN])
    exact hW2 _ _ ⟨_, _, _, _, _, _, _, rfl⟩
  · rintro s G ⟨o1, o2, o3, o4, o5, o6, o7, rfl⟩
    refine hW _ _ ?_
    (try dsimp only [sAsg, sIf, sRet, sRetN, sDrop, sNext, asg, setAll, eT, eOp, eUn, eLst, eTup, eCons, eNil, eVar, eC, eCall, eCB, eNot, eAnd, eOr, eTru, eAndT, eOrT, eNotT, eIf, ePart, eNoPart, eYes, eChain, eChain3, oI, oI0, oLt, oLe, oGt, oGe, oNeg, oSub, oMod, oMul, oDivW, eXp, eXa, eConsX, eCallX, eCallN, eLstX, eCBX, sDropX, sRetX, sAsgX, sRaise, sRaiseF, List.set_cons_zero, List.set_cons_succ, List.getElem?_cons_zero, List.getElem?_cons_succ, truD_bl]); (try simp only [if_true, Bool.false_eq_true, if_false, decide_true, decide_false, Bool.not_true, Bool.not_false, List.length_cons, List.length_nil, sizeLine_eq, Nat.reduceAdd, Nat.reduceLeDiff, true_and, and_true, pw6, pw10, pw11, pw12, pw13, pw30, pw40, pw60]); (try dsimp only [sAsg, sIf, sRet, sRetN, sDrop, sNext, asg, setAll, eT, eOp, eUn, eLst, eTup, eCons, eNil, eVar, eC, eCall, eCB, eNot, eAnd, eOr, eTru, eAndT, eOrT, eNotT, eIf, ePart, eNoPart, eYes, eChain, eChain3, oI, oI0, oLt, oLe, oGt, oGe, oNeg, oSub, oMod, oMul, oDivW, eXp, eXa, eConsX, eCallX, eCallN, eLstX, eCBX, sDropX, sRetX, sAsgX, sRaise, sRaiseF, List.set_cons_zero, List.set_cons_succ, List.getElem?_cons_zero, List.getElem?_cons_succ, truD_bl])
    exact ⟨rfl, fin_id (k _)⟩
end DL
set_option Elab.async false
set_option linter.all false
set_option maxRecDepth 100000
set_option maxHeartbeats 0
namespace Row
open PySem PySem.Spec PyProof.Rows L2 DL
def top (i : Nat) : Stmt := PySem.Challenge.pw_benchworth_k53_what_is_a_ring.main.body.getD i (.Pass ⟨0, 0, 0, 0⟩)
def inC (st : Stmt) (j : Nat) : Stmt := match st with
  | .ClassDef _ _ _ body _ _ _ _ _ _ _ => body.getD j (.Pass ⟨0, 0, 0, 0⟩)
  | _ => .Pass ⟨0, 0, 0, 0⟩
abbrev s__law_begun : Stmt := top 26
theorem sc__law_begun : FnScope ["_law_script", "_law_k", "_law_cell", "_law_number", "_law_seed"] ["_law_script", "_law_k"] (defScope s__law_begun) := ⟨rfl, rfl, rfl, by decide +kernel, rfl, by decide +kernel, by decide +kernel⟩
abbrev s__law_take : Stmt := top 27
theorem sc__law_take : FnScope ["_law_state", "_law_many", "_law_found", "_law_made", "_law_turn"] ["_law_state", "_law_many"] (defScope s__law_take) := ⟨rfl, rfl, rfl, by decide +kernel, rfl, by decide +kernel, by decide +kernel⟩
abbrev s__law_name : Stmt := top 28
theorem sc__law_name : FnScope ["_law_state", "_law_k", "_law_letters", "_law_spelt", "_law_j"] ["_law_state", "_law_k"] (defScope s__law_name) := ⟨rfl, rfl, rfl, by decide +kernel, rfl, by decide +kernel, by decide +kernel⟩
abbrev s__law_ring : Stmt := top 29
theorem sc__law_ring : FnScope ["_law_state", "_law_most", "_law_size", "_law_stretches", "_law_k", "_law_begin", "_law_span", "_law_worth"] ["_law_state", "_law_most"] (defScope s__law_ring) := ⟨rfl, rfl, rfl, by decide +kernel, rfl, by decide +kernel, by decide +kernel⟩
abbrev s__law_odd_stretch : Stmt := top 30
theorem sc__law_odd_stretch : FnScope ["_law_state", "_law_ring_here", "_law_at", "_law_name_here", "_law_begin", "_law_span", "_law_worth", "_law_size", "_law_some", "_law_ahead"] ["_law_state", "_law_ring_here", "_law_at"] (defScope s__law_odd_stretch) := ⟨rfl, rfl, rfl, by decide +kernel, rfl, by decide +kernel, by decide +kernel⟩
abbrev s__law_odd : Stmt := top 31
theorem sc__law_odd : FnScope ["_law_state", "_law_ring_here", "_law_size", "_law_stretches", "_law_way", "_law_some", "_law_letters", "_law_row", "_law_at", "_law_other", "_law_letter"] ["_law_state", "_law_ring_here"] (defScope s__law_odd) := ⟨rfl, rfl, rfl, by decide +kernel, rfl, by decide +kernel, by decide +kernel⟩
abbrev s_is_whole : Stmt := top 17
theorem sc_is_whole : FnScope ["thing"] ["thing"] (defScope s_is_whole) := ⟨rfl, rfl, rfl, by decide +kernel, rfl, by decide +kernel, by decide +kernel⟩
abbrev s_is_name : Stmt := top 18
theorem sc_is_name : FnScope ["thing", "sign"] ["thing"] (defScope s_is_name) := ⟨rfl, rfl, rfl, by decide +kernel, rfl, by decide +kernel, by decide +kernel⟩
abbrev s_is_ring_stretch : Stmt := top 23
theorem sc_is_ring_stretch : FnScope ["size", "thing", "number"] ["size", "thing"] (defScope s_is_ring_stretch) := ⟨rfl, rfl, rfl, by decide +kernel, rfl, by decide +kernel, by decide +kernel⟩
abbrev s_look_at_ring : Stmt := top 24
theorem sc_look_at_ring : FnScope ["thing", "size", "stretches", "names", "number", "one"] ["thing"] (defScope s_look_at_ring) := ⟨rfl, rfl, rfl, by decide +kernel, rfl, by decide +kernel, by decide +kernel⟩
abbrev s__law_refused : Stmt := top 32
theorem sc__law_refused : FnScope ["_law_thing", "_law_number", "e"] ["_law_thing", "_law_number"] (defScope s__law_refused) := ⟨rfl, rfl, rfl, by decide +kernel, rfl, by decide +kernel, by decide +kernel⟩
abbrev s__law_made_by_hand : Stmt := top 33
theorem sc__law_made_by_hand : FnScope ["_law_made", "_law_one"] [] (defScope s__law_made_by_hand) := ⟨rfl, rfl, rfl, by decide +kernel, rfl, by decide +kernel, by decide +kernel⟩
abbrev s_law : Stmt := top 34
theorem sc_law : FnScope ["_law_script", "_law_k", "_law_state", "_law_ring_here", "_law_handed", "_law_odd_here", "_law_number", "_law_kept"] ["_law_script"] (defScope s_law) := ⟨rfl, rfl, rfl, by decide +kernel, rfl, by decide +kernel, by decide +kernel⟩
abbrev s_NoRing___init__ : Stmt := inC (top 4) 0
theorem sc_NoRing___init__ : FnScope ["self", "number"] ["self", "number"] (defScope s_NoRing___init__) := ⟨rfl, rfl, rfl, by decide +kernel, rfl, by decide +kernel, by decide +kernel⟩
abbrev s_NoBook___init__ : Stmt := inC (top 3) 0
theorem sc_NoBook___init__ : FnScope ["self", "number"] ["self", "number"] (defScope s_NoBook___init__) := ⟨rfl, rfl, rfl, by decide +kernel, rfl, by decide +kernel, by decide +kernel⟩
abbrev s_Crowded___init__ : Stmt := inC (top 2) 0
theorem sc_Crowded___init__ : FnScope ["self", "moment"] ["self", "moment"] (defScope s_Crowded___init__) := ⟨rfl, rfl, rfl, by decide +kernel, rfl, by decide +kernel, by decide +kernel⟩
abbrev s_NoText___init__ : Stmt := inC (top 6) 0
theorem sc_NoText___init__ : FnScope ["self", "row"] ["self", "row"] (defScope s_NoText___init__) := ⟨rfl, rfl, rfl, by decide +kernel, rfl, by decide +kernel, by decide +kernel⟩
abbrev s_NoTree___init__ : Stmt := inC (top 5) 0
theorem sc_NoTree___init__ : FnScope ["self", "way"] ["self", "way"] (defScope s_NoTree___init__) := ⟨rfl, rfl, rfl, by decide +kernel, rfl, by decide +kernel, by decide +kernel⟩
section
variable {P : Program} {w : World} {K : PySem.W.Frag} {mg : Str → Option Value} {base : Heap}
theorem ok__law_begun (Df_ : Df K mg "_law_begun" s__law_begun) (b_len : mg "len" = none) (b_max : mg "max" = none) : Cal P w K mg base 1 "_law_begun" ["_law_script", "_law_k"] (F__law_begun) := by
  refine cal_ok (N := ["_law_script", "_law_k", "_law_cell", "_law_number", "_law_seed"]) (es := r__law_begun) Df_ sc__law_begun (fun _ _ _ _ _ _ us hl => match us, hl with | [_, _], _ => rfl) (fun f cdv A outer s H E hr => ?_) d__law_begun
  exact (jss_cons (js_set (i := 2) sc__law_begun.nd rfl (by first | exact Or.inl rfl | exact Or.inr rfl) j_int)
      (jss_cons (js_if (jt_cmp op_lt lo_lt (jv 1) (j_cb call_len lc_len rfl b_len PySem.boot_len (ja_cons (jv 0) ja_nil)) (nomark _)) (jss_one (js_set (i := 2) sc__law_begun.nd rfl (by first | exact Or.inl rfl | exact Or.inr rfl) (j_ix (jv 0) (jv 1)))) jss_nil)
      (jss_cons (js_set (i := 3) sc__law_begun.nd rfl (by first | exact Or.inl rfl | exact Or.inr rfl) (j_cb (call_max2 rfl) lc_max2 rfl b_max (by decide +kernel) (ja_cons (jv 2) (ja_cons (j_sub (j_neg j_int) (jv 2)) ja_nil))))
      (jss_cons (js_set (i := 4) sc__law_begun.nd rfl (by first | exact Or.inl rfl | exact Or.inr rfl) (j_mod (j_add (j_add (jv 3) (j_mul (j_mul j_int (jv 1)) (jv 1))) j_int) j_int))
      (jss_cons (js_if (jt_cmp op_lt lo_lt (jv 3) (j_pow j_int j_int) (nomark _)) (jss_one (js_set (i := 3) sc__law_begun.nd rfl (by first | exact Or.inl rfl | exact Or.inr rfl) j_int)) jss_nil)
      (jss_one (js_ret (j_lstO (ja_cons (jv 3) (ja_cons (jv 4) (ja_cons j_int ja_nil)))))))))))
theorem ok__law_take (Df_ : Df K mg "_law_take" s__law_take) (b_range : mg "range" = none) (b_int : mg "int" = none) : Cal P w K mg base 1 "_law_take" ["_law_state", "_law_many"] (F__law_take) := by
  refine cal_ok (N := ["_law_state", "_law_many", "_law_found", "_law_made", "_law_turn"]) (es := r__law_take) Df_ sc__law_take (fun _ _ _ _ _ _ us hl => match us, hl with | [_, _], _ => rfl) (fun f cdv A outer s H E hr => ?_) d__law_take
  exact (jss_cons (js_if (jt_cmp op_gt lo_gt (j_ix (jv 0) j_int) j_int (nomark _)) (jss_cons (js_set (i := 2) sc__law_take.nd rfl (by first | exact Or.inl rfl | exact Or.inr rfl) (j_mod (j_ix (jv 0) j_int) (jv 1)))
      (jss_cons (js_setI (j_div (j_ix (jv 0) j_int) (jv 1)) (jv 0) j_int)
      (jss_one (js_ret (jv 2))))) jss_nil)
      (jss_cons (js_set (i := 3) sc__law_take.nd rfl (by first | exact Or.inl rfl | exact Or.inr rfl) j_int)
      (jss_cons (js_for PassesOwn.never rfl (ji_range1 rfl b_range (ja_cons (j_add j_int (j_ct call_int1 lc_int1 rfl b_int (by decide +kernel) (ja_cons (j_cmp op_gt lo_gt (jv 1) (j_pow j_int j_int) (nomark _)) ja_nil))) ja_nil)) (jg_name (i := 4) sc__law_take.nd rfl (by first | exact Or.inl rfl | exact Or.inr rfl))
      (jss_cons (js_setI (j_add (j_ix (jv 0) j_int) j_int) (jv 0) j_int)
      (jss_cons (js_setI (j_mod (j_add (j_mul (j_ix (jv 0) j_int) j_int) (j_mul j_int (j_ix (jv 0) j_int))) j_int) (jv 0) j_int)
      (jss_one (js_set (i := 3) sc__law_take.nd rfl (by first | exact Or.inl rfl | exact Or.inr rfl) (j_add (j_mul (jv 3) j_int) (j_mod (j_mul (j_ix (jv 0) j_int) (j_ix (jv 0) j_int)) j_int)))))))
      (jss_one (js_ret (j_mod (j_div (jv 3) j_int) (jv 1)))))))
theorem ok__law_name (Df_ : Df K mg "_law_name" s__law_name) (b_range : mg "range" = none) (c__law_take : Cal P w K mg base 1 "_law_take" ["_law_state", "_law_many"] F__law_take) : Cal P w K mg base 2 "_law_name" ["_law_state", "_law_k"] (F__law_name) := by
  refine cal_ok (N := ["_law_state", "_law_k", "_law_letters", "_law_spelt", "_law_j"]) (es := r__law_name) Df_ sc__law_name (fun _ _ _ _ _ _ us hl => match us, hl with | [_, _], _ => rfl) (fun f cdv A outer s H E hr => ?_) d__law_name
  exact (jss_cons (js_set (i := 2) sc__law_name.nd rfl (by first | exact Or.inl rfl | exact Or.inr rfl) j_str)
      (jss_cons (js_set (i := 3) sc__law_name.nd rfl (by first | exact Or.inl rfl | exact Or.inr rfl) j_str)
      (jss_cons (js_for PassesOwn.never rfl (ji_range1 rfl b_range (ja_cons (j_cal c__law_take (hr.mono (by decide)) rfl (ja_cons (jv 0) (ja_cons j_int ja_nil))) ja_nil)) (jg_name (i := 4) sc__law_name.nd rfl (by first | exact Or.inl rfl | exact Or.inr rfl))
      (jss_one (js_set (i := 3) sc__law_name.nd rfl (by first | exact Or.inl rfl | exact Or.inr rfl) (j_add (jv 3) (j_ix (jv 2) (j_cal c__law_take (hr.mono (by decide)) rfl (ja_cons (jv 0) (ja_cons j_int ja_nil))))))))
      (jss_one (js_ret (j_add (jv 3) (j_ix (jv 2) (jv 1))))))))
theorem ok__law_ring (Df_ : Df K mg "_law_ring" s__law_ring) (b_range : mg "range" = none) (b_min : mg "min" = none) (c__law_take : Cal P w K mg base 1 "_law_take" ["_law_state", "_law_many"] F__law_take) (c__law_name : Cal P w K mg base 2 "_law_name" ["_law_state", "_law_k"] F__law_name) : Cal P w K mg base 3 "_law_ring" ["_law_state", "_law_most"] (F__law_ring) := by
  refine cal_ok (N := ["_law_state", "_law_most", "_law_size", "_law_stretches", "_law_k", "_law_begin", "_law_span", "_law_worth"]) (es := r__law_ring) Df_ sc__law_ring (fun _ _ _ _ _ _ us hl => match us, hl with | [_, _], _ => rfl) (fun f cdv A outer s H E hr => ?_) d__law_ring
  have hu := hr.units
  exact (jss_cons (js_set (i := 2) sc__law_ring.nd rfl (by first | exact Or.inl rfl | exact Or.inr rfl) (j_add j_int (j_cal c__law_take (hr.mono (by decide)) rfl (ja_cons (jv 0) (ja_cons (j_ix (j_lst (ja_cons j_int (ja_cons j_int (ja_cons j_int (ja_cons j_int ja_nil))))) (j_cal c__law_take (hr.mono (by decide)) rfl (ja_cons (jv 0) (ja_cons j_int ja_nil)))) ja_nil)))))
      (jss_cons (js_set (i := 3) sc__law_ring.nd rfl (by first | exact Or.inl rfl | exact Or.inr rfl) (j_lstO ja_nil))
      (jss_cons (js_for PassesOwn.never rfl (ji_range1 rfl b_range (ja_cons (j_cal c__law_take (hr.mono (by decide)) rfl (ja_cons (jv 0) (ja_cons (j_add (jv 1) j_int) ja_nil))) ja_nil)) (jg_name (i := 4) sc__law_ring.nd rfl (by first | exact Or.inl rfl | exact Or.inr rfl))
      (jss_cons (js_set (i := 5) sc__law_ring.nd rfl (by first | exact Or.inl rfl | exact Or.inr rfl) (j_cal c__law_take (hr.mono (by decide)) rfl (ja_cons (jv 0) (ja_cons (jv 2) ja_nil))))
      (jss_cons (js_set (i := 6) sc__law_ring.nd rfl (by first | exact Or.inl rfl | exact Or.inr rfl) (j_add j_int (j_cal c__law_take (hr.mono (by decide)) rfl (ja_cons (jv 0) (ja_cons (j_ix (j_lst (ja_cons (jv 2) (ja_cons (j_add j_int (j_div (jv 2) j_int)) ja_nil))) (j_cal c__law_take (hr.mono (by decide)) rfl (ja_cons (jv 0) (ja_cons j_int ja_nil)))) ja_nil)))))
      (jss_cons (js_if (JW.jt (jw_and (jt_cmp op_gt lo_gt (jv 4) j_int (nomark _)) (jw_and1 (jt_cmp (op_eqD hu) lo_eq (j_cal c__law_take (hr.mono (by decide)) rfl (ja_cons (jv 0) (ja_cons j_int ja_nil))) j_int (nomark _))))) (jss_one (js_asgTup (j_slT (j_ix (jv 3) (j_neg j_int)) (jo_some j_int) (jo_some j_int)) (jg_tup rfl (jgs_cons (jg_name (i := 5) sc__law_ring.nd rfl (by first | exact Or.inl rfl | exact Or.inr rfl)) (jgs_cons (jg_name (i := 6) sc__law_ring.nd rfl (by first | exact Or.inl rfl | exact Or.inr rfl)) jgs_nil))))) jss_nil)
      (jss_cons (js_set (i := 7) sc__law_ring.nd rfl (by first | exact Or.inl rfl | exact Or.inr rfl) (j_cal c__law_take (hr.mono (by decide)) rfl (ja_cons (jv 0) (ja_cons (j_ix (j_lst (ja_cons j_int (ja_cons j_int (ja_cons j_int (ja_cons (j_add (j_pow j_int j_int) j_int) ja_nil))))) (j_cal c__law_take (hr.mono (by decide)) rfl (ja_cons (jv 0) (ja_cons j_int ja_nil)))) ja_nil))))
      (jss_one (js_expr (j_bm PySem.F.plainAttrs_list PySem.F.slot_list_append PySem.F.type_list_append mt_append lm_app (jv 3) (ja_cons (j_tup (ja_cons (j_cal c__law_name (hr.mono (by decide)) rfl (ja_cons (jv 0) (ja_cons (jv 4) ja_nil))) (ja_cons (jv 5) (ja_cons (j_cb (call_min2 rfl) lc_min2 rfl b_min (by decide +kernel) (ja_cons (jv 2) (ja_cons (jv 6) ja_nil))) (ja_cons (jv 7) ja_nil))))) ja_nil)))))))))
      (jss_one (js_ret (j_tup (ja_cons (jv 2) (ja_cons (jv 3) ja_nil))))))))
theorem ok__law_odd_stretch (Df_ : Df K mg "_law_odd_stretch" s__law_odd_stretch) (b_len : mg "len" = none) (c__law_take : Cal P w K mg base 1 "_law_take" ["_law_state", "_law_many"] F__law_take) : Cal P w K mg base 2 "_law_odd_stretch" ["_law_state", "_law_ring_here", "_law_at"] (F__law_odd_stretch) := by
  refine cal_ok (N := ["_law_state", "_law_ring_here", "_law_at", "_law_name_here", "_law_begin", "_law_span", "_law_worth", "_law_size", "_law_some", "_law_ahead"]) (es := r__law_odd_stretch) Df_ sc__law_odd_stretch (fun _ _ _ _ _ _ us hl => match us, hl with | [_, _, _], _ => rfl) (fun f cdv A outer s H E hr => ?_) d__law_odd_stretch
  exact (jss_cons (js_asgTup (j_ix (j_ix (jv 1) j_int) (jv 2)) (jg_tup rfl (jgs_cons (jg_name (i := 3) sc__law_odd_stretch.nd rfl (by first | exact Or.inl rfl | exact Or.inr rfl)) (jgs_cons (jg_name (i := 4) sc__law_odd_stretch.nd rfl (by first | exact Or.inl rfl | exact Or.inr rfl)) (jgs_cons (jg_name (i := 5) sc__law_odd_stretch.nd rfl (by first | exact Or.inl rfl | exact Or.inr rfl)) (jgs_cons (jg_name (i := 6) sc__law_odd_stretch.nd rfl (by first | exact Or.inl rfl | exact Or.inr rfl)) jgs_nil))))))
      (jss_cons (js_set (i := 7) sc__law_odd_stretch.nd rfl (by first | exact Or.inl rfl | exact Or.inr rfl) (j_ix (jv 1) j_int))
      (jss_cons (js_set (i := 8) sc__law_odd_stretch.nd rfl (by first | exact Or.inl rfl | exact Or.inr rfl) (j_lst (ja_cons j_non (ja_cons (j_lst (ja_cons (jv 3) (ja_cons (jv 4) (ja_cons (jv 5) (ja_cons (jv 6) ja_nil))))) (ja_cons (j_tup (ja_cons (jv 3) (ja_cons (jv 4) (ja_cons (jv 5) ja_nil)))) (ja_cons (j_tup (ja_cons (jv 3) (ja_cons (jv 4) (ja_cons (jv 5) (ja_cons (jv 6) (ja_cons j_int ja_nil)))))) ja_nil))))))
      (jss_cons (js_set (i := 8) sc__law_odd_stretch.nd rfl (by first | exact Or.inl rfl | exact Or.inr rfl) (j_add (jv 8) (j_lst (ja_cons (jv 3) (ja_cons (j_tup ja_nil) (ja_cons j_dnew0 ja_nil))))))
      (jss_cons (js_set (i := 8) sc__law_odd_stretch.nd rfl (by first | exact Or.inl rfl | exact Or.inr rfl) (j_add (jv 8) (j_lst (ja_cons (j_tup (ja_cons j_str (ja_cons (jv 4) (ja_cons (jv 5) (ja_cons (jv 6) ja_nil))))) (ja_cons (j_tup (ja_cons j_str (ja_cons (jv 4) (ja_cons (jv 5) (ja_cons (jv 6) ja_nil))))) ja_nil)))))
      (jss_cons (js_set (i := 8) sc__law_odd_stretch.nd rfl (by first | exact Or.inl rfl | exact Or.inr rfl) (j_add (jv 8) (j_lst (ja_cons (j_tup (ja_cons j_str (ja_cons (jv 4) (ja_cons (jv 5) (ja_cons (jv 6) ja_nil))))) ja_nil))))
      (jss_cons (js_set (i := 8) sc__law_odd_stretch.nd rfl (by first | exact Or.inl rfl | exact Or.inr rfl) (j_add (jv 8) (j_lst (ja_cons (j_tup (ja_cons j_int (ja_cons (jv 4) (ja_cons (jv 5) (ja_cons (jv 6) ja_nil))))) (ja_cons (j_tup (ja_cons j_non (ja_cons (jv 4) (ja_cons (jv 5) (ja_cons (jv 6) ja_nil))))) ja_nil)))))
      (jss_cons (js_set (i := 8) sc__law_odd_stretch.nd rfl (by first | exact Or.inl rfl | exact Or.inr rfl) (j_add (jv 8) (j_lst (ja_cons (j_tup (ja_cons (j_lst (ja_cons (jv 3) ja_nil)) (ja_cons (jv 4) (ja_cons (jv 5) (ja_cons (jv 6) ja_nil))))) ja_nil))))
      (jss_cons (js_set (i := 8) sc__law_odd_stretch.nd rfl (by first | exact Or.inl rfl | exact Or.inr rfl) (j_add (jv 8) (j_lst (ja_cons (j_tup (ja_cons (jv 3) (ja_cons (j_neg j_int) (ja_cons (jv 5) (ja_cons (jv 6) ja_nil))))) (ja_cons (j_tup (ja_cons (jv 3) (ja_cons (jv 7) (ja_cons (jv 5) (ja_cons (jv 6) ja_nil))))) ja_nil)))))
      (jss_cons (js_set (i := 8) sc__law_odd_stretch.nd rfl (by first | exact Or.inl rfl | exact Or.inr rfl) (j_add (jv 8) (j_lst (ja_cons (j_tup (ja_cons (jv 3) (ja_cons j_bl (ja_cons (jv 5) (ja_cons (jv 6) ja_nil))))) (ja_cons (j_tup (ja_cons (jv 3) (ja_cons j_str (ja_cons (jv 5) (ja_cons j_int ja_nil))))) ja_nil)))))
      (jss_cons (js_set (i := 8) sc__law_odd_stretch.nd rfl (by first | exact Or.inl rfl | exact Or.inr rfl) (j_add (jv 8) (j_lst (ja_cons (j_tup (ja_cons (jv 3) (ja_cons (jv 4) (ja_cons j_int (ja_cons (jv 6) ja_nil))))) (ja_cons (j_tup (ja_cons (jv 3) (ja_cons (jv 4) (ja_cons (j_add (jv 7) j_int) (ja_cons (jv 6) ja_nil))))) ja_nil)))))
      (jss_cons (js_set (i := 8) sc__law_odd_stretch.nd rfl (by first | exact Or.inl rfl | exact Or.inr rfl) (j_add (jv 8) (j_lst (ja_cons (j_tup (ja_cons (jv 3) (ja_cons (jv 4) (ja_cons j_non (ja_cons (jv 6) ja_nil))))) ja_nil))))
      (jss_cons (js_set (i := 8) sc__law_odd_stretch.nd rfl (by first | exact Or.inl rfl | exact Or.inr rfl) (j_add (jv 8) (j_lst (ja_cons (j_tup (ja_cons (jv 3) (ja_cons (jv 4) (ja_cons j_bl (ja_cons (jv 6) ja_nil))))) (ja_cons (j_tup (ja_cons (jv 3) (ja_cons (jv 4) (ja_cons (jv 5) (ja_cons (j_neg j_int) ja_nil))))) ja_nil)))))
      (jss_cons (js_set (i := 8) sc__law_odd_stretch.nd rfl (by first | exact Or.inl rfl | exact Or.inr rfl) (j_add (jv 8) (j_lst (ja_cons (j_tup (ja_cons (jv 3) (ja_cons (jv 4) (ja_cons (jv 5) (ja_cons (j_add (JE.imp (j_pow j_int j_int) (pwK (v := 1000000000000) (by decide +kernel))) j_int) ja_nil))))) ja_nil))))
      (jss_cons (js_set (i := 8) sc__law_odd_stretch.nd rfl (by first | exact Or.inl rfl | exact Or.inr rfl) (j_add (jv 8) (j_lst (ja_cons (j_tup (ja_cons (jv 3) (ja_cons (jv 4) (ja_cons (jv 5) (ja_cons j_bl ja_nil))))) (ja_cons (j_tup (ja_cons (jv 3) (ja_cons (jv 4) (ja_cons (jv 5) (ja_cons j_str ja_nil))))) ja_nil)))))
      (jss_cons (js_set (i := 8) sc__law_odd_stretch.nd rfl (by first | exact Or.inl rfl | exact Or.inr rfl) (j_add (jv 8) (j_lst (ja_cons (j_tup (ja_cons (jv 3) (ja_cons (jv 4) (ja_cons (jv 5) (ja_cons j_non ja_nil))))) (ja_cons (j_tup (ja_cons j_str (ja_cons j_int (ja_cons j_int (ja_cons j_int ja_nil))))) ja_nil)))))
      (jss_cons (js_if (jt_cmp op_gt lo_gt (jv 2) j_int (nomark _)) (jss_cons (js_set (i := 9) sc__law_odd_stretch.nd rfl (by first | exact Or.inl rfl | exact Or.inr rfl) (j_ix (j_ix (j_ix (jv 1) j_int) (j_cal c__law_take (hr.mono (by decide)) rfl (ja_cons (jv 0) (ja_cons (jv 2) ja_nil)))) j_int))
      (jss_one (js_set (i := 8) sc__law_odd_stretch.nd rfl (by first | exact Or.inl rfl | exact Or.inr rfl) (j_add (jv 8) (j_rep (j_lst (ja_cons (j_tup (ja_cons (jv 9) (ja_cons (jv 4) (ja_cons (jv 5) (ja_cons (jv 6) ja_nil))))) ja_nil)) j_int))))) jss_nil)
      (jss_one (js_ret (j_ix (jv 8) (j_cal c__law_take (hr.mono (by decide)) rfl (ja_cons (jv 0) (ja_cons (j_cb call_len lc_len rfl b_len PySem.boot_len (ja_cons (jv 8) ja_nil)) ja_nil)))))))))))))))))))))))
theorem ok__law_odd (Df_ : Df K mg "_law_odd" s__law_odd) (b_tuple : mg "tuple" = none) (b_min : mg "min" = none) (b_len : mg "len" = none) (b_list : mg "list" = none) (c__law_take : Cal P w K mg base 1 "_law_take" ["_law_state", "_law_many"] F__law_take) (c__law_odd_stretch : Cal P w K mg base 2 "_law_odd_stretch" ["_law_state", "_law_ring_here", "_law_at"] F__law_odd_stretch) : Cal P w K mg base 3 "_law_odd" ["_law_state", "_law_ring_here"] (F__law_odd) := by
  refine cal_ok (N := ["_law_state", "_law_ring_here", "_law_size", "_law_stretches", "_law_way", "_law_some", "_law_letters", "_law_row", "_law_at", "_law_other", "_law_letter"]) (es := r__law_odd) Df_ sc__law_odd (fun _ _ _ _ _ _ us hl => match us, hl with | [_, _], _ => rfl) (fun f cdv A outer s H E hr => ?_) d__law_odd
  have hu := hr.units
  exact (jss_cons (js_asgTup (jv 1) (jg_tup rfl (jgs_cons (jg_name (i := 2) sc__law_odd.nd rfl (by first | exact Or.inl rfl | exact Or.inr rfl)) (jgs_cons (jg_name (i := 3) sc__law_odd.nd rfl (by first | exact Or.inl rfl | exact Or.inr rfl)) jgs_nil))))
      (jss_cons (js_set (i := 4) sc__law_odd.nd rfl (by first | exact Or.inl rfl | exact Or.inr rfl) (j_cal c__law_take (hr.mono (by decide)) rfl (ja_cons (jv 0) (ja_cons j_int ja_nil))))
      (jss_cons (js_if (jt_cmp (op_eqD hu) lo_eq (jv 4) j_int (nomark _)) (jss_cons (js_set (i := 5) sc__law_odd.nd rfl (by first | exact Or.inl rfl | exact Or.inr rfl) (j_lst (ja_cons j_non (ja_cons (j_lst (ja_cons (jv 2) (ja_cons (jv 3) ja_nil))) (ja_cons (j_tup (ja_cons (jv 2) ja_nil)) (ja_cons (j_tup (ja_cons (jv 2) (ja_cons (jv 3) (ja_cons j_int ja_nil)))) (ja_cons (jv 2) ja_nil)))))))
      (jss_cons (js_set (i := 5) sc__law_odd.nd rfl (by first | exact Or.inl rfl | exact Or.inr rfl) (j_add (jv 5) (j_lst (ja_cons (jv 3) (ja_cons (j_tup ja_nil) (ja_cons j_dnew0 (ja_cons j_str ja_nil)))))))
      (jss_one (js_ret (j_tup (ja_cons (j_ix (j_add (jv 5) (j_lst (ja_cons (j_tup (ja_cons (jv 3) (ja_cons (jv 2) ja_nil))) ja_nil))) (j_cal c__law_take (hr.mono (by decide)) rfl (ja_cons (jv 0) (ja_cons j_int ja_nil)))) (ja_cons j_non ja_nil))))))) jss_nil)
      (jss_cons (js_if (jt_cmp (op_eqD hu) lo_eq (jv 4) j_int (nomark _)) (jss_cons (js_set (i := 5) sc__law_odd.nd rfl (by first | exact Or.inl rfl | exact Or.inr rfl) (j_lst (ja_cons j_int (ja_cons (j_neg j_int) (ja_cons j_int (ja_cons j_bl (ja_cons j_non (ja_cons j_str (ja_cons (j_lst (ja_cons (jv 2) ja_nil)) (ja_cons (j_tup (ja_cons (jv 2) ja_nil)) (ja_cons (JE.imp (j_pow j_int j_int) (pwK (v := 1000000000000000000000000000000) (by decide +kernel))) (ja_cons j_bl ja_nil))))))))))))
      (jss_one (js_ret (j_tup (ja_cons (j_tup (ja_cons (j_ix (jv 5) (j_cal c__law_take (hr.mono (by decide)) rfl (ja_cons (jv 0) (ja_cons j_int ja_nil)))) (ja_cons (jv 3) ja_nil))) (ja_cons j_non ja_nil)))))) jss_nil)
      (jss_cons (js_if (jt_cmp (op_eqD hu) lo_eq (jv 4) j_int (nomark _)) (jss_one (js_ret (j_tup (ja_cons (j_tup (ja_cons (jv 2) (ja_cons (j_ix (j_lst (ja_cons j_non (ja_cons (j_ct call_tuple_of lc_tuple rfl b_tuple (by decide +kernel) (ja_cons (jv 3) ja_nil)) (ja_cons j_dnew0 (ja_cons j_int (ja_cons j_str (ja_cons j_str ja_nil))))))) (j_cal c__law_take (hr.mono (by decide)) rfl (ja_cons (jv 0) (ja_cons j_int ja_nil)))) ja_nil))) (ja_cons j_non ja_nil))))) jss_nil)
      (jss_cons (js_if (JW.jt (jw_or (jt_cmp (op_eqD hu) lo_eq (jv 4) j_int (nomark _)) (jw_or1 (jt_cmp (op_eqD hu) lo_eq (jv 3) (j_lst ja_nil) (nomark _))))) (jss_cons (js_set (i := 6) sc__law_odd.nd rfl (by first | exact Or.inl rfl | exact Or.inr rfl) j_str)
      (jss_cons (js_setLcO (i := 7) (own := [("_law_letter", 10)]) rfl sc__law_odd.nd rfl rfl (sw_true rfl rfl rfl (by decide +kernel)) (ji_str (jv 6)) (blkOk_by (own := [("_law_letter", 10)]) (N := ["_law_state", "_law_ring_here", "_law_size", "_law_stretches", "_law_way", "_law_some", "_law_letters", "_law_row", "_law_at", "_law_other", "_law_letter"]) (sc := defScope s__law_odd) (by decide +kernel)) (fun _ _ _ _ _ => (jg_name (i := 10) sc__law_odd.nd rfl (by first | exact Or.inl rfl | exact Or.inr rfl))) (fun _ _ _ _ _ => jts_nil) (fun _ _ _ _ _ => (j_tup (ja_cons (j_repS (jv 10) j_int) (ja_cons j_int (ja_cons j_int (ja_cons j_int ja_nil)))))))
      (jss_cons (js_set (i := 8) sc__law_odd.nd rfl (by first | exact Or.inl rfl | exact Or.inr rfl) (j_cal c__law_take (hr.mono (by decide)) rfl (ja_cons (jv 0) (ja_cons j_int ja_nil))))
      (jss_cons (js_if (jt_cmp op_lt lo_lt (jv 8) j_int (nomark _)) (jss_cons (js_set (i := 5) sc__law_odd.nd rfl (by first | exact Or.inl rfl | exact Or.inr rfl) (j_lst (ja_cons j_non (ja_cons (j_tup (ja_cons j_str (ja_cons j_int (ja_cons j_int (ja_cons j_int ja_nil))))) (ja_cons (j_tup (ja_cons (j_repS (j_ix (jv 6) (jv 8)) j_int) (ja_cons j_int (ja_cons j_int (ja_cons (j_neg j_int) ja_nil))))) (ja_cons j_str ja_nil))))))
      (jss_one (js_setI (j_ix (jv 5) (j_cal c__law_take (hr.mono (by decide)) rfl (ja_cons (jv 0) (ja_cons j_int ja_nil)))) (jv 7) (jv 8)))) jss_nil)
      (jss_one (js_ret (j_tup (ja_cons (j_tup (ja_cons (jv 2) (ja_cons (jv 7) ja_nil))) (ja_cons (j_cb (call_min2 rfl) lc_min2 rfl b_min (by decide +kernel) (ja_cons (jv 8) (ja_cons j_int ja_nil))) ja_nil))))))))) jss_nil)
      (jss_cons (js_set (i := 8) sc__law_odd.nd rfl (by first | exact Or.inl rfl | exact Or.inr rfl) (j_cal c__law_take (hr.mono (by decide)) rfl (ja_cons (jv 0) (ja_cons (j_cb call_len lc_len rfl b_len PySem.boot_len (ja_cons (jv 3) ja_nil)) ja_nil))))
      (jss_cons (js_set (i := 7) sc__law_odd.nd rfl (by first | exact Or.inl rfl | exact Or.inr rfl) (j_ct call_list_of lc_listO rfl b_list (by decide +kernel) (ja_cons (jv 3) ja_nil)))
      (jss_cons (js_setI (j_cal c__law_odd_stretch (hr.mono (by decide)) rfl (ja_cons (jv 0) (ja_cons (jv 1) (ja_cons (jv 8) ja_nil)))) (jv 7) (jv 8))
      (jss_cons (js_if (jt_cmp (op_eqD hu) lo_eq (j_cal c__law_take (hr.mono (by decide)) rfl (ja_cons (jv 0) (ja_cons j_int ja_nil))) j_int (nomark _)) (jss_one (js_ret (j_tup (ja_cons (j_tup (ja_cons (jv 2) (ja_cons (jv 7) ja_nil))) (ja_cons (jv 8) ja_nil))))) jss_nil)
      (jss_cons (js_set (i := 9) sc__law_odd.nd rfl (by first | exact Or.inl rfl | exact Or.inr rfl) (j_cal c__law_take (hr.mono (by decide)) rfl (ja_cons (jv 0) (ja_cons (j_cb call_len lc_len rfl b_len PySem.boot_len (ja_cons (jv 3) ja_nil)) ja_nil))))
      (jss_cons (js_setI (j_cal c__law_odd_stretch (hr.mono (by decide)) rfl (ja_cons (jv 0) (ja_cons (jv 1) (ja_cons (jv 9) ja_nil)))) (jv 7) (jv 9))
      (jss_one (js_ret (j_tup (ja_cons (j_tup (ja_cons (jv 2) (ja_cons (jv 7) ja_nil))) (ja_cons (j_cb (call_min2 rfl) lc_min2 rfl b_min (by decide +kernel) (ja_cons (jv 8) (ja_cons (jv 9) ja_nil))) ja_nil)))))))))))))))))
theorem ok_is_whole (Df_ : Df K mg "is_whole" s_is_whole) (b_isinstance : mg "isinstance" = none) (b_int : mg "int" = none) (b_bool : mg "bool" = none) : Cal P w K mg base 1 "is_whole" ["thing"] (F_is_whole) := by
  refine cal_ok (N := ["thing"]) (es := r_is_whole) Df_ sc_is_whole (fun _ _ _ _ _ _ us hl => match us, hl with | [_], _ => rfl) (fun f cdv A outer s H E hr => ?_) d_is_whole
  exact (jss_one (js_ret (j_and (j_cb call_isi lc_isi rfl b_isinstance (by decide +kernel) (ja_cons (jv 0) (ja_cons (j_ty rfl b_int (by decide +kernel)) ja_nil))) (j_one (j_not (j_cb call_isi lc_isi rfl b_isinstance (by decide +kernel) (ja_cons (jv 0) (ja_cons (j_ty rfl b_bool (by decide +kernel)) ja_nil))))))))
theorem ok_is_name (Df_ : Df K mg "is_name" s_is_name) (b_isinstance : mg "isinstance" = none) (b_str : mg "str" = none) (b_len : mg "len" = none) (b_all : mg "all" = none) (z_LONGEST : ∃ t, mg "LONGEST" = some (.int 8 t)) (z_LETTERS : ∃ t, mg "LETTERS" = some (.str "abcdefghijklmnopqrstuvwxyz" t)) : Cal P w K mg base 1 "is_name" ["thing"] (F_is_name) := by
  refine cal_ok (N := ["thing", "sign"]) (es := r_is_name) Df_ sc_is_name (fun _ _ _ _ _ _ us hl => match us, hl with | [_], _ => rfl) (fun f cdv A outer s H E hr => ?_) d_is_name
  exact (jss_cons (js_if (JW.jt (jw_or (jt_not (jt_tru (j_cb call_isi lc_isi rfl b_isinstance (by decide +kernel) (ja_cons (jv 0) (ja_cons (j_ty rfl b_str (by decide +kernel)) ja_nil))))) (jw_or1 (jt_not (jt_chain op_le lo_le op_le lo_le j_int (j_cb call_len lc_len rfl b_len PySem.boot_len (ja_cons (jv 0) ja_nil)) (j_gint rfl z_LONGEST)))))) (jss_one (js_ret j_bl)) jss_nil)
      (jss_one (js_ret (j_cb (cr_all rfl) lc_all rfl b_all (by decide +kernel) (ja_cons (j_lc (own := [("sign", 1)]) rfl sc_is_name.nd (ji_str (jv 0)) (blkOk_by (own := [("sign", 1)]) (N := ["thing", "sign"]) (sc := defScope s_is_name) (by decide +kernel)) (fun _ _ _ _ _ => (jg_name (i := 1) sc_is_name.nd rfl (by first | exact Or.inl rfl | exact Or.inr rfl))) (fun _ _ _ _ _ => jts_nil) (fun _ _ _ _ _ => (j_cmp op_in_sign lo_inS (jv 1) (j_gstr rfl z_LETTERS) rfl))) ja_nil)))))
theorem ok_is_ring_stretch (Df_ : Df K mg "is_ring_stretch" s_is_ring_stretch) (b_isinstance : mg "isinstance" = none) (b_tuple : mg "tuple" = none) (b_len : mg "len" = none) (b_all : mg "all" = none) (z_MOST_WORTH : ∃ t, mg "MOST_WORTH" = some (.int 1000000000000 t)) (c_is_name : Cal P w K mg base 1 "is_name" ["thing"] F_is_name) (c_is_whole : Cal P w K mg base 1 "is_whole" ["thing"] F_is_whole) : Cal P w K mg base 2 "is_ring_stretch" ["size", "thing"] (F_is_ring_stretch) := by
  refine cal_ok (N := ["size", "thing", "number"]) (es := r_is_ring_stretch) Df_ sc_is_ring_stretch (fun _ _ _ _ _ _ us hl => match us, hl with | [_, _], _ => rfl) (fun f cdv A outer s H E hr => ?_) d_is_ring_stretch
  have hu := hr.units
  exact (jss_cons (js_if (JW.jt (jw_or (jt_not (jt_tru (j_cb call_isi lc_isi rfl b_isinstance (by decide +kernel) (ja_cons (jv 1) (ja_cons (j_ty rfl b_tuple (by decide +kernel)) ja_nil))))) (jw_or (jt_cmp (op_neD hu) lo_ne (j_cb call_len lc_len rfl b_len PySem.boot_len (ja_cons (jv 1) ja_nil)) j_int (nomark _)) (jw_or1 (jt_not (jt_tru (j_cal c_is_name (hr.mono (by decide)) rfl (ja_cons (j_ix (jv 1) j_int) ja_nil)))))))) (jss_one (js_ret j_bl)) jss_nil)
      (jss_cons (js_if (jt_not (jt_tru (j_cb (cr_all rfl) lc_all rfl b_all (by decide +kernel) (ja_cons (j_lc (own := [("number", 2)]) rfl sc_is_ring_stretch.nd (ji_tup (j_slT (jv 1) (jo_some j_int) jo_none)) (blkOk_by (own := [("number", 2)]) (N := ["size", "thing", "number"]) (sc := defScope s_is_ring_stretch) (by decide +kernel)) (fun _ _ _ _ _ => (jg_name (i := 2) sc_is_ring_stretch.nd rfl (by first | exact Or.inl rfl | exact Or.inr rfl))) (fun _ _ _ _ _ => jts_nil) (fun _ _ _ _ _ => (j_cal c_is_whole (hr.mono (by decide)) rfl (ja_cons (jv 2) ja_nil)))) ja_nil)))) (jss_one (js_ret j_bl)) jss_nil)
      (jss_one (js_ret (j_and (j_chain op_le lo_le op_lt lo_lt j_int (j_ix (jv 1) j_int) (jv 0)) (j_and (j_chain op_le lo_le op_le lo_le j_int (j_ix (jv 1) j_int) (jv 0)) (j_one (j_chain op_le lo_le op_le lo_le j_int (j_ix (jv 1) j_int) (j_gint rfl z_MOST_WORTH)))))))))
theorem ok_look_at_ring (Df_ : Df K mg "look_at_ring" s_look_at_ring) (b_isinstance : mg "isinstance" = none) (b_tuple : mg "tuple" = none) (b_len : mg "len" = none) (b_list : mg "list" = none) (b_enumerate : mg "enumerate" = none) (z_MOST_SIZE : ∃ t, mg "MOST_SIZE" = some (.int 40 t)) (z_MOST_STRETCHES : ∃ t, mg "MOST_STRETCHES" = some (.int 24 t)) (c_is_whole : Cal P w K mg base 1 "is_whole" ["thing"] F_is_whole) (c_is_ring_stretch : Cal P w K mg base 2 "is_ring_stretch" ["size", "thing"] F_is_ring_stretch) (ox_NoRing : OxK P w K mg base "NoRing" "number") : CalX P w K mg base 3 "look_at_ring" ["thing"] (F_look_at_ring) := by
  refine calX_ok (N := ["thing", "size", "stretches", "names", "number", "one"]) (es := r_look_at_ring) Df_ sc_look_at_ring (fun _ _ _ _ _ _ us hl => match us, hl with | [_], _ => rfl) (fun f cdv A outer s H E hr tk po => ?_) d_look_at_ring
  have hu := hr.units
  exact (jss_cons (js_if (JW.jt (jw_or (jt_not (jt_tru (j_cb call_isi lc_isi rfl b_isinstance (by decide +kernel) (ja_cons (jv 0) (ja_cons (j_ty rfl b_tuple (by decide +kernel)) ja_nil))))) (jw_or (jt_cmp (op_neD hu) lo_ne (j_cb call_len lc_len rfl b_len PySem.boot_len (ja_cons (jv 0) ja_nil)) j_int (nomark _)) (jw_or1 (jt_not (jt_tru (j_cb call_isi lc_isi rfl b_isinstance (by decide +kernel) (ja_cons (j_ix (jv 0) j_int) (ja_cons (j_ty rfl b_list (by decide +kernel)) ja_nil))))))))) (jss_one (js_raiseF tk ox_NoRing hr (by decide) rfl rfl j_non)) jss_nil)
      (jss_cons (js_asgTup (jv 0) (jg_tup rfl (jgs_cons (jg_name (i := 1) sc_look_at_ring.nd rfl (by first | exact Or.inl rfl | exact Or.inr rfl)) (jgs_cons (jg_name (i := 2) sc_look_at_ring.nd rfl (by first | exact Or.inl rfl | exact Or.inr rfl)) jgs_nil))))
      (jss_cons (js_if (JW.jt (jw_or (jt_not (jt_tru (j_cal c_is_whole (hr.mono (by decide)) rfl (ja_cons (jv 1) ja_nil)))) (jw_or1 (jt_not (jt_chain op_le lo_le op_le lo_le j_int (jv 1) (j_gint rfl z_MOST_SIZE)))))) (jss_one (js_raiseF tk ox_NoRing hr (by decide) rfl rfl j_non)) jss_nil)
      (jss_cons (js_set (i := 3) sc_look_at_ring.nd rfl (by first | exact Or.inl rfl | exact Or.inr rfl) (j_lstO ja_nil))
      (jss_one (js_for po rfl (ji_enum rfl b_enumerate (ja_cons (jv 2) ja_nil)) (jg_tup rfl (jgs_cons (jg_name (i := 4) sc_look_at_ring.nd rfl (by first | exact Or.inl rfl | exact Or.inr rfl)) (jgs_cons (jg_name (i := 5) sc_look_at_ring.nd rfl (by first | exact Or.inl rfl | exact Or.inr rfl)) jgs_nil)))
      (jss_cons (js_if (JW.jt (jw_or (jt_cmp (op_eqD hu) lo_eq (jv 4) (j_gint rfl z_MOST_STRETCHES) (nomark _)) (jw_or (jt_not (jt_tru (j_cal c_is_ring_stretch (hr.mono (by decide)) rfl (ja_cons (jv 1) (ja_cons (jv 5) ja_nil))))) (jw_or1 (jt_cmp op_in_seq lo_in (j_ix (jv 5) j_int) (jv 3) rfl))))) (jss_one (js_raiseF tk ox_NoRing hr (by decide) rfl rfl (jv 4))) jss_nil)
      (jss_one (js_expr (j_bm PySem.F.plainAttrs_list PySem.F.slot_list_append PySem.F.type_list_append mt_append lm_app (jv 3) (ja_cons (j_ix (jv 5) j_int) ja_nil)))))))))))
theorem ok__law_refused (Df_ : Df K mg "_law_refused" s__law_refused) (b_isinstance : mg "isinstance" = none) (b_ValueError : mg "ValueError" = none) (b_bool : mg "bool" = none) (c_look_at_ring : CalX P w K mg base 3 "look_at_ring" ["thing"] F_look_at_ring) (xg_BenchError : mg "BenchError" = some (.ref (He.ga K "BenchError"))) (xg_NoRing : mg "NoRing" = some (.ref (He.ga K "NoRing"))) (xg_Crowded : mg "Crowded" = some (.ref (He.ga K "Crowded"))) (xg_NoBenches : mg "NoBenches" = some (.ref (He.ga K "NoBenches"))) (xg_NoBook : mg "NoBook" = some (.ref (He.ga K "NoBook"))) (xg_NoRow : mg "NoRow" = some (.ref (He.ga K "NoRow"))) (xg_NoStretch : mg "NoStretch" = some (.ref (He.ga K "NoStretch"))) (xg_NoText : mg "NoText" = some (.ref (He.ga K "NoText"))) (xg_NoTree : mg "NoTree" = some (.ref (He.ga K "NoTree"))) (xg_NoTurn : mg "NoTurn" = some (.ref (He.ga K "NoTurn"))) (xg_NoUndo : mg "NoUndo" = some (.ref (He.ga K "NoUndo"))) (xg_TooMany : mg "TooMany" = some (.ref (He.ga K "TooMany"))) (xg_Unknown : mg "Unknown" = some (.ref (He.ga K "Unknown"))) (xm_BenchError : ∀ m ∈ (["Crowded", "NoBenches", "NoBook", "NoRing", "NoRow", "NoStretch", "NoText", "NoTree", "NoTurn", "NoUndo", "TooMany", "Unknown"] : List Str), PySem.W.exmOne K (.ref (He.ga K m)) (.ref (He.ga K "BenchError")) = some (isSub m "BenchError")) (xk_NoRing : ∀ m ∈ (["Crowded", "NoBenches", "NoBook", "NoRing", "NoRow", "NoStretch", "NoText", "NoTree", "NoTurn", "NoUndo", "TooMany", "Unknown"] : List Str), PySem.W.kitOne K (.ref (He.ga K m)) (.ref (He.ga K "NoRing")) = some (isSub m "NoRing")) (xk_ValueError : ∀ m ∈ (["Crowded", "NoBenches", "NoBook", "NoRing", "NoRow", "NoStretch", "NoText", "NoTree", "NoTurn", "NoUndo", "TooMany", "Unknown"] : List Str), PySem.W.kitOne K (.ref (He.ga K m)) (.type "ValueError") = some true) (xk_Crowded : ∀ m ∈ (["Crowded", "NoBenches", "NoBook", "NoRing", "NoRow", "NoStretch", "NoText", "NoTree", "NoTurn", "NoUndo", "TooMany", "Unknown"] : List Str), PySem.W.kitOne K (.ref (He.ga K m)) (.ref (He.ga K "Crowded")) = some (isSub m "Crowded")) (xk_NoBenches : ∀ m ∈ (["Crowded", "NoBenches", "NoBook", "NoRing", "NoRow", "NoStretch", "NoText", "NoTree", "NoTurn", "NoUndo", "TooMany", "Unknown"] : List Str), PySem.W.kitOne K (.ref (He.ga K m)) (.ref (He.ga K "NoBenches")) = some (isSub m "NoBenches")) (xk_NoBook : ∀ m ∈ (["Crowded", "NoBenches", "NoBook", "NoRing", "NoRow", "NoStretch", "NoText", "NoTree", "NoTurn", "NoUndo", "TooMany", "Unknown"] : List Str), PySem.W.kitOne K (.ref (He.ga K m)) (.ref (He.ga K "NoBook")) = some (isSub m "NoBook")) (xk_NoRow : ∀ m ∈ (["Crowded", "NoBenches", "NoBook", "NoRing", "NoRow", "NoStretch", "NoText", "NoTree", "NoTurn", "NoUndo", "TooMany", "Unknown"] : List Str), PySem.W.kitOne K (.ref (He.ga K m)) (.ref (He.ga K "NoRow")) = some (isSub m "NoRow")) (xk_NoStretch : ∀ m ∈ (["Crowded", "NoBenches", "NoBook", "NoRing", "NoRow", "NoStretch", "NoText", "NoTree", "NoTurn", "NoUndo", "TooMany", "Unknown"] : List Str), PySem.W.kitOne K (.ref (He.ga K m)) (.ref (He.ga K "NoStretch")) = some (isSub m "NoStretch")) (xk_NoText : ∀ m ∈ (["Crowded", "NoBenches", "NoBook", "NoRing", "NoRow", "NoStretch", "NoText", "NoTree", "NoTurn", "NoUndo", "TooMany", "Unknown"] : List Str), PySem.W.kitOne K (.ref (He.ga K m)) (.ref (He.ga K "NoText")) = some (isSub m "NoText")) (xk_NoTree : ∀ m ∈ (["Crowded", "NoBenches", "NoBook", "NoRing", "NoRow", "NoStretch", "NoText", "NoTree", "NoTurn", "NoUndo", "TooMany", "Unknown"] : List Str), PySem.W.kitOne K (.ref (He.ga K m)) (.ref (He.ga K "NoTree")) = some (isSub m "NoTree")) (xk_NoTurn : ∀ m ∈ (["Crowded", "NoBenches", "NoBook", "NoRing", "NoRow", "NoStretch", "NoText", "NoTree", "NoTurn", "NoUndo", "TooMany", "Unknown"] : List Str), PySem.W.kitOne K (.ref (He.ga K m)) (.ref (He.ga K "NoTurn")) = some (isSub m "NoTurn")) (xk_NoUndo : ∀ m ∈ (["Crowded", "NoBenches", "NoBook", "NoRing", "NoRow", "NoStretch", "NoText", "NoTree", "NoTurn", "NoUndo", "TooMany", "Unknown"] : List Str), PySem.W.kitOne K (.ref (He.ga K m)) (.ref (He.ga K "NoUndo")) = some (isSub m "NoUndo")) (xk_TooMany : ∀ m ∈ (["Crowded", "NoBenches", "NoBook", "NoRing", "NoRow", "NoStretch", "NoText", "NoTree", "NoTurn", "NoUndo", "TooMany", "Unknown"] : List Str), PySem.W.kitOne K (.ref (He.ga K m)) (.ref (He.ga K "TooMany")) = some (isSub m "TooMany")) (xk_Unknown : ∀ m ∈ (["Crowded", "NoBenches", "NoBook", "NoRing", "NoRow", "NoStretch", "NoText", "NoTree", "NoTurn", "NoUndo", "TooMany", "Unknown"] : List Str), PySem.W.kitOne K (.ref (He.ga K m)) (.ref (He.ga K "Unknown")) = some (isSub m "Unknown")) (xn_number : ∀ m ∈ (["Crowded", "NoBenches", "NoBook", "NoRing", "NoRow", "NoStretch", "NoText", "NoTree", "NoTurn", "NoUndo", "TooMany", "Unknown"] : List Str), PySem.W.findIn K (.ref (He.ga K m)) "number" = some none) (hX : ∀ m ∈ (["Crowded", "NoBenches", "NoBook", "NoRing", "NoRow", "NoStretch", "NoText", "NoTree", "NoTurn", "NoUndo", "TooMany", "Unknown"] : List Str), ExcC K (He.ga K m)) : Cal P w K mg base 4 "_law_refused" ["_law_thing", "_law_number"] (F__law_refused) := by
  refine cal_ok (N := ["_law_thing", "_law_number", "e"]) (es := r__law_refused) Df_ sc__law_refused (fun _ _ _ _ _ _ us hl => match us, hl with | [_, _], _ => rfl) (fun f cdv A outer s H E hr => ?_) d__law_refused
  have hu := hr.units
  exact (jss_cons (js_tryAs (i := 2) (ns := (["Crowded", "NoBenches", "NoBook", "NoRing", "NoRow", "NoStretch", "NoText", "NoTree", "NoTurn", "NoUndo", "TooMany", "Unknown"] : List Str)) takes0 rfl rfl sc__law_refused.nd rfl rfl ⟨rfl, by decide, .inl xg_BenchError⟩ xm_BenchError (fun W pn xe tk po => (jss_one (js_exprX (jx_cal c_look_at_ring (hr.mono (by decide)) tk rfl (jax_of (ja_cons (jv 0) ja_nil)))))) (fun a dd x oe pn hx hz hf => (jss_cons (js_if (JW.jt (jw_or (jt_not (jt_tru (j_isE (c := .ref _) (hX _ hx) hz hf (xk_NoRing _ hx) (fun _ h => h) rfl b_isinstance (pv 2) (pe_glob (v := .ref _) rfl xg_NoRing rfl (by decide))))) (jw_or1 (jt_not (jt_tru (j_isE (c := .ty "ValueError") (hX _ hx) hz hf (xk_ValueError _ hx) (fun _ h => h) rfl b_isinstance (pv 2) (pe_bltn (v := .ty "ValueError") rfl b_ValueError (by decide +kernel) rfl (by decide) (by decide)))))))) (jss_one (js_ret j_bl)) jss_nil)
      (jss_cons (js_if (jt_tru (j_isET (cs := (["Crowded", "NoBenches", "NoBook", "NoRow", "NoStretch", "NoText"] : List Str).map (He.ga K)) (hX _ hx) hz hf (kitN (ns := (["Crowded", "NoBenches", "NoBook", "NoRow", "NoStretch", "NoText"] : List Str)) (fun c hc => by simp only [List.mem_cons, List.not_mem_nil, or_false] at hc; rcases hc with rfl | rfl | rfl | rfl | rfl | rfl <;> first | exact xk_Crowded _ hx | exact xk_NoBenches _ hx | exact xk_NoBook _ hx | exact xk_NoRow _ hx | exact xk_NoStretch _ hx | exact xk_NoText _ hx)) (by simp) rfl b_isinstance (pv 2) (pe_tup (pa_cons (pe_glob (v := .ref _) rfl xg_Crowded rfl (by decide)) (pa_cons (pe_glob (v := .ref _) rfl xg_NoBenches rfl (by decide)) (pa_cons (pe_glob (v := .ref _) rfl xg_NoBook rfl (by decide)) (pa_cons (pe_glob (v := .ref _) rfl xg_NoRow rfl (by decide)) (pa_cons (pe_glob (v := .ref _) rfl xg_NoStretch rfl (by decide)) (pa_cons (pe_glob (v := .ref _) rfl xg_NoText rfl (by decide)) pa_nil))))))))) (jss_one (js_ret j_bl)) jss_nil)
      (jss_cons (js_if (jt_tru (j_isET (cs := (["NoTree", "NoTurn", "NoUndo", "TooMany", "Unknown"] : List Str).map (He.ga K)) (hX _ hx) hz hf (kitN (ns := (["NoTree", "NoTurn", "NoUndo", "TooMany", "Unknown"] : List Str)) (fun c hc => by simp only [List.mem_cons, List.not_mem_nil, or_false] at hc; rcases hc with rfl | rfl | rfl | rfl | rfl <;> first | exact xk_NoTree _ hx | exact xk_NoTurn _ hx | exact xk_NoUndo _ hx | exact xk_TooMany _ hx | exact xk_Unknown _ hx)) (by simp) rfl b_isinstance (pv 2) (pe_tup (pa_cons (pe_glob (v := .ref _) rfl xg_NoTree rfl (by decide)) (pa_cons (pe_glob (v := .ref _) rfl xg_NoTurn rfl (by decide)) (pa_cons (pe_glob (v := .ref _) rfl xg_NoUndo rfl (by decide)) (pa_cons (pe_glob (v := .ref _) rfl xg_TooMany rfl (by decide)) (pa_cons (pe_glob (v := .ref _) rfl xg_Unknown rfl (by decide)) pa_nil)))))))) (jss_one (js_ret j_bl)) jss_nil)
      (jss_cons (js_if (jt_not (jt_cmp (op_eqD hu) lo_eq (j_xf (excC_xf (hX _ hx)) (xn_number _ hx) hz hf (pv 2)) (jv 1) (nomark _))) (jss_one (js_ret j_bl)) jss_nil)
      (jss_one (js_ret (j_and (j_cmp (op_eqD hu) lo_eq (j_cmp op_isN lo_isN (j_xf (excC_xf (hX _ hx)) (xn_number _ hx) hz hf (pv 2)) j_non (nomark _)) (j_cmp op_isN lo_isN (jv 1) j_non (nomark _)) (nomark _)) (j_one (j_not (j_cb call_isi lc_isi rfl b_isinstance (by decide +kernel) (ja_cons (j_xf (excC_xf (hX _ hx)) (xn_number _ hx) hz hf (pv 2)) (ja_cons (j_ty rfl b_bool (by decide +kernel)) ja_nil))))))))))))))
      (jss_one (js_ret j_bl)))
theorem ok__law_made_by_hand (Df_ : Df K mg "_law_made_by_hand" s__law_made_by_hand) (b_isinstance : mg "isinstance" = none) (xt_NoTurn : XtK K mg "NoTurn") (xt_NoStretch : XtK K mg "NoStretch") (xt_NoRow : XtK K mg "NoRow") (xt_NoBenches : XtK K mg "NoBenches") (xt_Unknown : XtK K mg "Unknown") (xt_TooMany : XtK K mg "TooMany") (xt_NoUndo : XtK K mg "NoUndo") (ox_NoBook : OxK P w K mg base "NoBook" "number") (ox_NoRing : OxK P w K mg base "NoRing" "number") (ox_Crowded : OxK P w K mg base "Crowded" "moment") (ox_NoText : OxK P w K mg base "NoText" "row") (ox_NoTree : OxK P w K mg base "NoTree" "way") (xg_BenchError : mg "BenchError" = some (.ref (He.ga K "BenchError"))) (xk_BenchError : ∀ m ∈ (["Crowded", "NoBenches", "NoBook", "NoRing", "NoRow", "NoStretch", "NoText", "NoTree", "NoTurn", "NoUndo", "TooMany", "Unknown"] : List Str), PySem.W.kitOne K (.ref (He.ga K m)) (.ref (He.ga K "BenchError")) = some (isSub m "BenchError")) (hX : ∀ m ∈ (["Crowded", "NoBenches", "NoBook", "NoRing", "NoRow", "NoStretch", "NoText", "NoTree", "NoTurn", "NoUndo", "TooMany", "Unknown"] : List Str), ExcC K (He.ga K m)) : Cal P w K mg base 3 "_law_made_by_hand" [] (F__law_made_by_hand) := by
  refine cal_ok (N := ["_law_made", "_law_one"]) (es := (r__law_made_by_hand (He.ga K))) Df_ sc__law_made_by_hand (fun _ _ _ _ _ _ us hl => match us, hl with | [], _ => rfl) (fun f cdv A outer s H E hr => ?_) (d__law_made_by_hand (He.ga K))
  have hu := hr.units
  exact (jss_cons (js_if (JW.jt (jw_or (jt_cmp (op_neD hu) lo_ne (j_mkf ox_NoBook (excC_xf (hX "NoBook" (by decide))) hr (by decide) rfl j_int) j_int (nomark _)) (jw_or (jt_cmp op_notN lo_notN (j_mkf ox_NoRing (excC_xf (hX "NoRing" (by decide))) hr (by decide) rfl j_non) j_non (nomark _)) (jw_or1 (jt_cmp (op_neD hu) lo_ne (j_mkf ox_Crowded (excC_xf (hX "Crowded" (by decide))) hr (by decide) rfl (j_neg j_int)) (j_neg j_int) (nomark _)))))) (jss_one (js_ret j_bl)) jss_nil)
      (jss_cons (js_if (JW.jt (jw_or (jt_cmp (op_neD hu) lo_ne (j_mkf ox_NoText (excC_xf (hX "NoText" (by decide))) hr (by decide) rfl j_int) j_int (nomark _)) (jw_or1 (jt_cmp (op_neD hu) lo_ne (j_mkf ox_NoTree (excC_xf (hX "NoTree" (by decide))) hr (by decide) rfl (j_lst (ja_cons j_int (ja_cons j_int ja_nil)))) (j_lst (ja_cons j_int (ja_cons j_int ja_nil))) (nomark _))))) (jss_one (js_ret j_bl)) jss_nil)
      (jss_cons (js_set (i := 0) sc__law_made_by_hand.nd rfl (by first | exact Or.inl rfl | exact Or.inr rfl) (j_lst (ja_cons (j_mkV xt_NoBenches rfl j_str) (ja_cons (j_mkV xt_NoRow rfl j_str) (ja_cons (j_mkV xt_NoStretch rfl j_str) (ja_cons (j_mkV xt_NoTurn rfl j_str) ja_nil))))))
      (jss_cons (js_set (i := 0) sc__law_made_by_hand.nd rfl (by first | exact Or.inl rfl | exact Or.inr rfl) (j_add (jv 0) (j_lst (ja_cons (j_mkV xt_NoUndo rfl j_str) (ja_cons (j_mkV xt_TooMany rfl j_str) (ja_cons (j_mkV xt_Unknown rfl j_str) ja_nil))))))
      (jss_one (js_ret (j_cmp (op_eqD hu) lo_eq (j_lc (own := [("_law_one", 1)]) rfl sc__law_made_by_hand.nd (ji_list (jv 0)) (blkOk_by (own := [("_law_one", 1)]) (N := ["_law_made", "_law_one"]) (sc := defScope s__law_made_by_hand) (by decide +kernel)) (fun _ _ _ _ _ => (jg_name (i := 1) sc__law_made_by_hand.nd rfl (by first | exact Or.inl rfl | exact Or.inr rfl))) (fun _ _ _ _ _ => (jts_one (jt_not (jt_tru (j_isV hX xk_BenchError rfl b_isinstance (jv 1) (pe_glob (v := .ref _) rfl xg_BenchError rfl (by decide))))))) (fun _ _ _ _ _ => (jv 1))) (j_lst ja_nil) (nomark _))))))))
theorem ok_law {f : Addr} {fd : FuncData} (FD : FunD K "law" "law" (defArgs s_law) (defBody s_law) (defScope s_law) [] [] f fd) (b_range : mg "range" = none) (b_max : mg "max" = none) (b_min : mg "min" = none) (b_len : mg "len" = none) (b_list : mg "list" = none) (b_str : mg "str" = none) (c__law_begun : Cal P w K mg base 1 "_law_begun" ["_law_script", "_law_k"] F__law_begun) (c__law_ring : Cal P w K mg base 3 "_law_ring" ["_law_state", "_law_most"] F__law_ring) (c__law_odd : Cal P w K mg base 3 "_law_odd" ["_law_state", "_law_ring_here"] F__law_odd) (c_look_at_ring : CalX P w K mg base 3 "look_at_ring" ["thing"] F_look_at_ring) (c__law_refused : Cal P w K mg base 4 "_law_refused" ["_law_thing", "_law_number"] F__law_refused) (c__law_made_by_hand : Cal P w K mg base 3 "_law_made_by_hand" [] F__law_made_by_hand) (hsy : ∃ m, base.Ns sysModules m) : FKG P w K mg base 5 f fd ["_law_script"] (lawF 63) := by
  refine fkG_ok (N := ["_law_script", "_law_k", "_law_state", "_law_ring_here", "_law_handed", "_law_odd_here", "_law_number", "_law_kept"]) (es := r_law) FD sc_law (fun cdv A outer s H E hr gd => ?_) d_law
  have hu := hr.units
  exact (jss_cons (js_for PassesOwn.never rfl (ji_range1 rfl b_range (ja_cons (j_cb (call_max2 rfl) lc_max2 rfl b_max (by decide +kernel) (ja_cons j_int (ja_cons (j_cb (call_min2 rfl) lc_min2 rfl b_min (by decide +kernel) (ja_cons (j_cb call_len lc_len rfl b_len PySem.boot_len (ja_cons (jv 0) ja_nil)) (ja_cons j_int ja_nil))) ja_nil))) ja_nil)) (jg_name (i := 1) sc_law.nd rfl (by first | exact Or.inl rfl | exact Or.inr rfl))
      (jss_cons (js_set (i := 2) sc_law.nd rfl (by first | exact Or.inl rfl | exact Or.inr rfl) (j_cal c__law_begun (hr.mono (by decide)) rfl (ja_cons (jv 0) (ja_cons (jv 1) ja_nil))))
      (jss_cons (js_set (i := 3) sc_law.nd rfl (by first | exact Or.inl rfl | exact Or.inr rfl) (j_cal c__law_ring (hr.mono (by decide)) rfl (ja_cons (jv 2) (ja_cons j_int ja_nil))))
      (jss_cons (js_set (i := 4) sc_law.nd rfl (by first | exact Or.inl rfl | exact Or.inr rfl) (j_tup (ja_cons (j_ix (jv 3) j_int) (ja_cons (j_ct call_list_of lc_list rfl b_list (by decide +kernel) (ja_cons (j_ix (jv 3) j_int) ja_nil)) ja_nil))))
      (jss_cons (js_asgTup (j_cal c__law_odd (hr.mono (by decide)) rfl (ja_cons (jv 2) (ja_cons (jv 3) ja_nil))) (jg_tup rfl (jgs_cons (jg_name (i := 5) sc_law.nd rfl (by first | exact Or.inl rfl | exact Or.inr rfl)) (jgs_cons (jg_name (i := 6) sc_law.nd rfl (by first | exact Or.inl rfl | exact Or.inr rfl)) jgs_nil))))
      (jss_cons (js_set (i := 7) sc_law.nd rfl (by first | exact Or.inl rfl | exact Or.inr rfl) (j_ct (cr_strX gd hu hsy) lc_strX rfl b_str (by decide +kernel) (ja_cons (jv 5) ja_nil)))
      (jss_cons (js_if (JW.jt (jw_or (jt_cmp op_notN lo_notN (j_cal (calX_never c_look_at_ring) (hr.mono (by decide)) rfl (ja_cons (jv 4) ja_nil)) j_non (nomark _)) (jw_or1 (jt_cmp (op_neD hu) lo_ne (jv 4) (jv 3) (nomark _))))) (jss_one (js_ret j_bl)) jss_nil)
      (jss_cons (js_if (JW.jt (jw_or (jt_not (jt_tru (j_cal c__law_refused (hr.mono (by decide)) rfl (ja_cons (jv 5) (ja_cons (jv 6) ja_nil))))) (jw_or1 (jt_cmp (op_neD hu) lo_ne (j_ct (cr_strX gd hu hsy) lc_strX rfl b_str (by decide +kernel) (ja_cons (jv 5) ja_nil)) (jv 7) (nomark _))))) (jss_one (js_ret j_bl)) jss_nil)
      (jss_one (js_if (jt_cmp op_notN lo_notN (j_cal (calX_never c_look_at_ring) (hr.mono (by decide)) rfl (ja_cons (jv 4) ja_nil)) j_non (nomark _)) (jss_one (js_ret j_bl)) jss_nil))))))))))
      (jss_one (js_ret (j_cal0 c__law_made_by_hand (hr.mono (by decide)) rfl))))
end
def dd__law_begun : He.DefD := ⟨("_law_begun", none), "_law_begun", "_law_begun", defArgs s__law_begun, defBody s__law_begun, defScope s__law_begun, [], []⟩
def dd__law_take : He.DefD := ⟨("_law_take", none), "_law_take", "_law_take", defArgs s__law_take, defBody s__law_take, defScope s__law_take, [], []⟩
def dd__law_name : He.DefD := ⟨("_law_name", none), "_law_name", "_law_name", defArgs s__law_name, defBody s__law_name, defScope s__law_name, [], []⟩
def dd__law_ring : He.DefD := ⟨("_law_ring", none), "_law_ring", "_law_ring", defArgs s__law_ring, defBody s__law_ring, defScope s__law_ring, [], []⟩
def dd__law_odd_stretch : He.DefD := ⟨("_law_odd_stretch", none), "_law_odd_stretch", "_law_odd_stretch", defArgs s__law_odd_stretch, defBody s__law_odd_stretch, defScope s__law_odd_stretch, [], []⟩
def dd__law_odd : He.DefD := ⟨("_law_odd", none), "_law_odd", "_law_odd", defArgs s__law_odd, defBody s__law_odd, defScope s__law_odd, [], []⟩
def dd_is_whole : He.DefD := ⟨("is_whole", none), "is_whole", "is_whole", defArgs s_is_whole, defBody s_is_whole, defScope s_is_whole, [], []⟩
def dd_is_name : He.DefD := ⟨("is_name", none), "is_name", "is_name", defArgs s_is_name, defBody s_is_name, defScope s_is_name, [], []⟩
def dd_is_ring_stretch : He.DefD := ⟨("is_ring_stretch", none), "is_ring_stretch", "is_ring_stretch", defArgs s_is_ring_stretch, defBody s_is_ring_stretch, defScope s_is_ring_stretch, [], []⟩
def dd_look_at_ring : He.DefD := ⟨("look_at_ring", none), "look_at_ring", "look_at_ring", defArgs s_look_at_ring, defBody s_look_at_ring, defScope s_look_at_ring, [], []⟩
def dd__law_refused : He.DefD := ⟨("_law_refused", none), "_law_refused", "_law_refused", defArgs s__law_refused, defBody s__law_refused, defScope s__law_refused, [], []⟩
def dd__law_made_by_hand : He.DefD := ⟨("_law_made_by_hand", none), "_law_made_by_hand", "_law_made_by_hand", defArgs s__law_made_by_hand, defBody s__law_made_by_hand, defScope s__law_made_by_hand, [], []⟩
def dd_law : He.DefD := ⟨("law", none), "law", "law", defArgs s_law, defBody s_law, defScope s_law, [], []⟩
def dd_NoRing___init__ : He.DefD := ⟨("NoRing", some "__init__"), "__init__", "NoRing.__init__", defArgs s_NoRing___init__, defBody s_NoRing___init__, defScope s_NoRing___init__, [], []⟩
def dd_NoBook___init__ : He.DefD := ⟨("NoBook", some "__init__"), "__init__", "NoBook.__init__", defArgs s_NoBook___init__, defBody s_NoBook___init__, defScope s_NoBook___init__, [], []⟩
def dd_Crowded___init__ : He.DefD := ⟨("Crowded", some "__init__"), "__init__", "Crowded.__init__", defArgs s_Crowded___init__, defBody s_Crowded___init__, defScope s_Crowded___init__, [], []⟩
def dd_NoText___init__ : He.DefD := ⟨("NoText", some "__init__"), "__init__", "NoText.__init__", defArgs s_NoText___init__, defBody s_NoText___init__, defScope s_NoText___init__, [], []⟩
def dd_NoTree___init__ : He.DefD := ⟨("NoTree", some "__init__"), "__init__", "NoTree.__init__", defArgs s_NoTree___init__, defBody s_NoTree___init__, defScope s_NoTree___init__, [], []⟩
def exK (K : PySem.W.Frag) : Bool := oxB K "NoRing" "number" && (oxB K "NoBook" "number" && (oxB K "Crowded" "moment" && (oxB K "NoText" "row" && (oxB K "NoTree" "way" && (allB K (["Crowded", "NoBenches", "NoBook", "NoRing", "NoRow", "NoStretch", "NoText", "NoTree", "NoTurn", "NoUndo", "TooMany", "Unknown"] : List Str) (tExm "BenchError") && (allB K (["Crowded", "NoBenches", "NoBook", "NoRing", "NoRow", "NoStretch", "NoText", "NoTree", "NoTurn", "NoUndo", "TooMany", "Unknown"] : List Str) (tKit "NoRing") && (allB K (["Crowded", "NoBenches", "NoBook", "NoRing", "NoRow", "NoStretch", "NoText", "NoTree", "NoTurn", "NoUndo", "TooMany", "Unknown"] : List Str) tKitV && (allB K (["Crowded", "NoBenches", "NoBook", "NoRing", "NoRow", "NoStretch", "NoText", "NoTree", "NoTurn", "NoUndo", "TooMany", "Unknown"] : List Str) (tKit "Crowded") && (allB K (["Crowded", "NoBenches", "NoBook", "NoRing", "NoRow", "NoStretch", "NoText", "NoTree", "NoTurn", "NoUndo", "TooMany", "Unknown"] : List Str) (tKit "NoBenches") && (allB K (["Crowded", "NoBenches", "NoBook", "NoRing", "NoRow", "NoStretch", "NoText", "NoTree", "NoTurn", "NoUndo", "TooMany", "Unknown"] : List Str) (tKit "NoBook") && (allB K (["Crowded", "NoBenches", "NoBook", "NoRing", "NoRow", "NoStretch", "NoText", "NoTree", "NoTurn", "NoUndo", "TooMany", "Unknown"] : List Str) (tKit "NoRow") && (allB K (["Crowded", "NoBenches", "NoBook", "NoRing", "NoRow", "NoStretch", "NoText", "NoTree", "NoTurn", "NoUndo", "TooMany", "Unknown"] : List Str) (tKit "NoStretch") && (allB K (["Crowded", "NoBenches", "NoBook", "NoRing", "NoRow", "NoStretch", "NoText", "NoTree", "NoTurn", "NoUndo", "TooMany", "Unknown"] : List Str) (tKit "NoText") && (allB K (["Crowded", "NoBenches", "NoBook", "NoRing", "NoRow", "NoStretch", "NoText", "NoTree", "NoTurn", "NoUndo", "TooMany", "Unknown"] : List Str) (tKit "NoTree") && (allB K (["Crowded", "NoBenches", "NoBook", "NoRing", "NoRow", "NoStretch", "NoText", "NoTree", "NoTurn", "NoUndo", "TooMany", "Unknown"] : List Str) (tKit "NoTurn") && (allB K (["Crowded", "NoBenches", "NoBook", "NoRing", "NoRow", "NoStretch", "NoText", "NoTree", "NoTurn", "NoUndo", "TooMany", "Unknown"] : List Str) (tKit "NoUndo") && (allB K (["Crowded", "NoBenches", "NoBook", "NoRing", "NoRow", "NoStretch", "NoText", "NoTree", "NoTurn", "NoUndo", "TooMany", "Unknown"] : List Str) (tKit "TooMany") && (allB K (["Crowded", "NoBenches", "NoBook", "NoRing", "NoRow", "NoStretch", "NoText", "NoTree", "NoTurn", "NoUndo", "TooMany", "Unknown"] : List Str) (tKit "Unknown") && (allB K (["Crowded", "NoBenches", "NoBook", "NoRing", "NoRow", "NoStretch", "NoText", "NoTree", "NoTurn", "NoUndo", "TooMany", "Unknown"] : List Str) (tKit "BenchError") && (allB K (["Crowded", "NoBenches", "NoBook", "NoRing", "NoRow", "NoStretch", "NoText", "NoTree", "NoTurn", "NoUndo", "TooMany", "Unknown"] : List Str) (tNo "number") && (allB K (["Crowded", "NoBenches", "NoBook", "NoRing", "NoRow", "NoStretch", "NoText", "NoTree", "NoTurn", "NoUndo", "TooMany", "Unknown"] : List Str) tExc && true)))))))))))))))))))))
def fn : List He.DefD := [dd__law_begun, dd__law_take, dd__law_name, dd__law_ring, dd__law_odd_stretch, dd__law_odd, dd_is_whole, dd_is_name, dd_is_ring_stretch, dd_look_at_ring, dd__law_refused, dd__law_made_by_hand, dd_law, dd_NoRing___init__, dd_NoBook___init__, dd_Crowded___init__, dd_NoText___init__, dd_NoTree___init__]
def fa : List He.Fa := [.glo "_law_begun", .glo "_law_take", .glo "_law_name", .glo "_law_ring", .glo "_law_odd_stretch", .glo "_law_odd", .glo "is_whole", .glo "is_name", .glo "is_ring_stretch", .glo "look_at_ring", .glo "_law_refused", .glo "_law_made_by_hand", .glo "law", .free "ValueError", .free "all", .free "bool", .free "enumerate", .free "int", .free "isinstance", .free "len", .free "list", .free "max", .free "min", .free "range", .free "str", .free "tuple", .str "LETTERS" "abcdefghijklmnopqrstuvwxyz", .int "LONGEST" 8, .int "MOST_SIZE" 40, .int "MOST_STRETCHES" 24, .int "MOST_WORTH" 1000000000000, .exc "NoTurn", .exc "NoStretch", .exc "NoRow", .exc "NoBenches", .exc "Unknown", .exc "TooMany", .exc "NoUndo", .glo "BenchError", .glo "Crowded", .glo "NoBenches", .glo "NoBook", .glo "NoRing", .glo "NoRow", .glo "NoStretch", .glo "NoText", .glo "NoTree", .glo "NoTurn", .glo "NoUndo", .glo "TooMany", .glo "Unknown"]
abbrev R : PySem.W.OpenRow := PySem.W.OpenLaw.row PySem.Challenge.rw_benchworth_k53_what_is_a_ring
abbrev hk : PySem.W.Hook := hookB 4 fa fn exK
def ob (s : PySem.W.SharedT) : He.AlD × Bool := obsB 4 fa fn exK (HandSHeadRun.getT s)
theorem ob_eq (s : PySem.W.SharedT) : ob s = hk.obs s.abs := obsB_eq (HandSHeadRun.getT_eq s)
def loose : List Str := (["Crowded.__init__", "NoBook.__init__", "NoRing.__init__", "NoTree.__init__", "NoText.__init__", "is_whole", "is_name", "is_ring_stretch", "look_at_ring", "_law_begun", "_law_take", "_law_name", "_law_ring", "_law_odd_stretch", "_law_odd", "_law_refused", "_law_made_by_hand", "LETTERS", "LONGEST", "MOST_SIZE", "MOST_STRETCHES", "MOST_WORTH", "BenchError", "Crowded", "NoBook", "NoRing", "NoTree", "NoText", "TooMany", "NoBenches"] : List Str) ++ (["NoStretch", "Unknown", "NoUndo", "NoTurn", "NoRow"] : List Str)
theorem run (w : World) : HandSHeadRun.RunEq R (PySem.W.view R.prog [34]) hk ob 20000 loose w := by
  intro os
  kernel_rfl
theorem facts {P : Program} {w : World} {K : PySem.W.Frag} {h : Heap} {mg : Str → Option Value} {f : Addr} (X : K.In h) (G : h.Ns mainGlobals mg) (hfa : mg ("law" : Str) = some (.ref f)) (c : He.SaysD fa fn K) (hx : exK K = true) :
    ∃ fd : FuncData, (∀ (s : Shared) (v : Value), BindsTo s fd ⟨[v], []⟩ [("_law_script", v)]) ∧ ∀ base : Heap, K.In base → base.Ns mainGlobals mg → (∃ m, base.Ns sysModules m) → FKG P w K mg base 5 f fd ["_law_script"] (lawF 63) := by
  have g__law_begun := He.glo_ok X G (c.fact 0 (f := .glo "_law_begun") rfl)
  have g__law_take := He.glo_ok X G (c.fact 1 (f := .glo "_law_take") rfl)
  have g__law_name := He.glo_ok X G (c.fact 2 (f := .glo "_law_name") rfl)
  have g__law_ring := He.glo_ok X G (c.fact 3 (f := .glo "_law_ring") rfl)
  have g__law_odd_stretch := He.glo_ok X G (c.fact 4 (f := .glo "_law_odd_stretch") rfl)
  have g__law_odd := He.glo_ok X G (c.fact 5 (f := .glo "_law_odd") rfl)
  have g_is_whole := He.glo_ok X G (c.fact 6 (f := .glo "is_whole") rfl)
  have g_is_name := He.glo_ok X G (c.fact 7 (f := .glo "is_name") rfl)
  have g_is_ring_stretch := He.glo_ok X G (c.fact 8 (f := .glo "is_ring_stretch") rfl)
  have g_look_at_ring := He.glo_ok X G (c.fact 9 (f := .glo "look_at_ring") rfl)
  have g__law_refused := He.glo_ok X G (c.fact 10 (f := .glo "_law_refused") rfl)
  have g__law_made_by_hand := He.glo_ok X G (c.fact 11 (f := .glo "_law_made_by_hand") rfl)
  have g_law := He.glo_ok X G (c.fact 12 (f := .glo "law") rfl)
  have b_ValueError := He.free_ok X G (c.fact 13 (f := .free "ValueError") rfl)
  have b_all := He.free_ok X G (c.fact 14 (f := .free "all") rfl)
  have b_bool := He.free_ok X G (c.fact 15 (f := .free "bool") rfl)
  have b_enumerate := He.free_ok X G (c.fact 16 (f := .free "enumerate") rfl)
  have b_int := He.free_ok X G (c.fact 17 (f := .free "int") rfl)
  have b_isinstance := He.free_ok X G (c.fact 18 (f := .free "isinstance") rfl)
  have b_len := He.free_ok X G (c.fact 19 (f := .free "len") rfl)
  have b_list := He.free_ok X G (c.fact 20 (f := .free "list") rfl)
  have b_max := He.free_ok X G (c.fact 21 (f := .free "max") rfl)
  have b_min := He.free_ok X G (c.fact 22 (f := .free "min") rfl)
  have b_range := He.free_ok X G (c.fact 23 (f := .free "range") rfl)
  have b_str := He.free_ok X G (c.fact 24 (f := .free "str") rfl)
  have b_tuple := He.free_ok X G (c.fact 25 (f := .free "tuple") rfl)
  have z_LETTERS := He.str_ok X G (c.fact 26 (f := .str "LETTERS" "abcdefghijklmnopqrstuvwxyz") rfl)
  have z_LONGEST := He.int_ok X G (c.fact 27 (f := .int "LONGEST" 8) rfl)
  have z_MOST_SIZE := He.int_ok X G (c.fact 28 (f := .int "MOST_SIZE" 40) rfl)
  have z_MOST_STRETCHES := He.int_ok X G (c.fact 29 (f := .int "MOST_STRETCHES" 24) rfl)
  have z_MOST_WORTH := He.int_ok X G (c.fact 30 (f := .int "MOST_WORTH" 1000000000000) rfl)
  have xe_NoTurn := He.exc_ok (c.fact 31 (f := .exc "NoTurn") rfl)
  have xe_NoStretch := He.exc_ok (c.fact 32 (f := .exc "NoStretch") rfl)
  have xe_NoRow := He.exc_ok (c.fact 33 (f := .exc "NoRow") rfl)
  have xe_NoBenches := He.exc_ok (c.fact 34 (f := .exc "NoBenches") rfl)
  have xe_Unknown := He.exc_ok (c.fact 35 (f := .exc "Unknown") rfl)
  have xe_TooMany := He.exc_ok (c.fact 36 (f := .exc "TooMany") rfl)
  have xe_NoUndo := He.exc_ok (c.fact 37 (f := .exc "NoUndo") rfl)
  have xg_BenchError := He.glo_ok X G (c.fact 38 (f := .glo "BenchError") rfl)
  have xg_Crowded := He.glo_ok X G (c.fact 39 (f := .glo "Crowded") rfl)
  have xg_NoBenches := He.glo_ok X G (c.fact 40 (f := .glo "NoBenches") rfl)
  have xg_NoBook := He.glo_ok X G (c.fact 41 (f := .glo "NoBook") rfl)
  have xg_NoRing := He.glo_ok X G (c.fact 42 (f := .glo "NoRing") rfl)
  have xg_NoRow := He.glo_ok X G (c.fact 43 (f := .glo "NoRow") rfl)
  have xg_NoStretch := He.glo_ok X G (c.fact 44 (f := .glo "NoStretch") rfl)
  have xg_NoText := He.glo_ok X G (c.fact 45 (f := .glo "NoText") rfl)
  have xg_NoTree := He.glo_ok X G (c.fact 46 (f := .glo "NoTree") rfl)
  have xg_NoTurn := He.glo_ok X G (c.fact 47 (f := .glo "NoTurn") rfl)
  have xg_NoUndo := He.glo_ok X G (c.fact 48 (f := .glo "NoUndo") rfl)
  have xg_TooMany := He.glo_ok X G (c.fact 49 (f := .glo "TooMany") rfl)
  have xg_Unknown := He.glo_ok X G (c.fact 50 (f := .glo "Unknown") rfl)
  have xt_NoTurn : XtK K mg "NoTurn" := ⟨xe_NoTurn.1, xe_NoTurn.2.1, xe_NoTurn.2.2.1, xe_NoTurn.2.2.2, xg_NoTurn⟩
  have xt_NoStretch : XtK K mg "NoStretch" := ⟨xe_NoStretch.1, xe_NoStretch.2.1, xe_NoStretch.2.2.1, xe_NoStretch.2.2.2, xg_NoStretch⟩
  have xt_NoRow : XtK K mg "NoRow" := ⟨xe_NoRow.1, xe_NoRow.2.1, xe_NoRow.2.2.1, xe_NoRow.2.2.2, xg_NoRow⟩
  have xt_NoBenches : XtK K mg "NoBenches" := ⟨xe_NoBenches.1, xe_NoBenches.2.1, xe_NoBenches.2.2.1, xe_NoBenches.2.2.2, xg_NoBenches⟩
  have xt_Unknown : XtK K mg "Unknown" := ⟨xe_Unknown.1, xe_Unknown.2.1, xe_Unknown.2.2.1, xe_Unknown.2.2.2, xg_Unknown⟩
  have xt_TooMany : XtK K mg "TooMany" := ⟨xe_TooMany.1, xe_TooMany.2.1, xe_TooMany.2.2.1, xe_TooMany.2.2.2, xg_TooMany⟩
  have xt_NoUndo : XtK K mg "NoUndo" := ⟨xe_NoUndo.1, xe_NoUndo.2.1, xe_NoUndo.2.2.1, xe_NoUndo.2.2.2, xg_NoUndo⟩
  obtain ⟨q_xo_NoRing, hx⟩ := He.ba hx
  obtain ⟨q_xo_NoBook, hx⟩ := He.ba hx
  obtain ⟨q_xo_Crowded, hx⟩ := He.ba hx
  obtain ⟨q_xo_NoText, hx⟩ := He.ba hx
  obtain ⟨q_xo_NoTree, hx⟩ := He.ba hx
  obtain ⟨q_xm_BenchError, hx⟩ := He.ba hx
  have xm_BenchError : ∀ m ∈ (["Crowded", "NoBenches", "NoBook", "NoRing", "NoRow", "NoStretch", "NoText", "NoTree", "NoTurn", "NoUndo", "TooMany", "Unknown"] : List Str), PySem.W.exmOne K (.ref (He.ga K m)) (.ref (He.ga K "BenchError")) = some (isSub m "BenchError") := fun m hm => tExm_ok (allB_ok q_xm_BenchError hm)
  obtain ⟨q_xk_NoRing, hx⟩ := He.ba hx
  have xk_NoRing : ∀ m ∈ (["Crowded", "NoBenches", "NoBook", "NoRing", "NoRow", "NoStretch", "NoText", "NoTree", "NoTurn", "NoUndo", "TooMany", "Unknown"] : List Str), PySem.W.kitOne K (.ref (He.ga K m)) (.ref (He.ga K "NoRing")) = some (isSub m "NoRing") := fun m hm => tKit_ok (allB_ok q_xk_NoRing hm)
  obtain ⟨q_xk_ValueError, hx⟩ := He.ba hx
  have xk_ValueError : ∀ m ∈ (["Crowded", "NoBenches", "NoBook", "NoRing", "NoRow", "NoStretch", "NoText", "NoTree", "NoTurn", "NoUndo", "TooMany", "Unknown"] : List Str), PySem.W.kitOne K (.ref (He.ga K m)) (.type "ValueError") = some true := fun m hm => tKitV_ok (allB_ok q_xk_ValueError hm)
  obtain ⟨q_xk_Crowded, hx⟩ := He.ba hx
  have xk_Crowded : ∀ m ∈ (["Crowded", "NoBenches", "NoBook", "NoRing", "NoRow", "NoStretch", "NoText", "NoTree", "NoTurn", "NoUndo", "TooMany", "Unknown"] : List Str), PySem.W.kitOne K (.ref (He.ga K m)) (.ref (He.ga K "Crowded")) = some (isSub m "Crowded") := fun m hm => tKit_ok (allB_ok q_xk_Crowded hm)
  obtain ⟨q_xk_NoBenches, hx⟩ := He.ba hx
  have xk_NoBenches : ∀ m ∈ (["Crowded", "NoBenches", "NoBook", "NoRing", "NoRow", "NoStretch", "NoText", "NoTree", "NoTurn", "NoUndo", "TooMany", "Unknown"] : List Str), PySem.W.kitOne K (.ref (He.ga K m)) (.ref (He.ga K "NoBenches")) = some (isSub m "NoBenches") := fun m hm => tKit_ok (allB_ok q_xk_NoBenches hm)
  obtain ⟨q_xk_NoBook, hx⟩ := He.ba hx
  have xk_NoBook : ∀ m ∈ (["Crowded", "NoBenches", "NoBook", "NoRing", "NoRow", "NoStretch", "NoText", "NoTree", "NoTurn", "NoUndo", "TooMany", "Unknown"] : List Str), PySem.W.kitOne K (.ref (He.ga K m)) (.ref (He.ga K "NoBook")) = some (isSub m "NoBook") := fun m hm => tKit_ok (allB_ok q_xk_NoBook hm)
  obtain ⟨q_xk_NoRow, hx⟩ := He.ba hx
  have xk_NoRow : ∀ m ∈ (["Crowded", "NoBenches", "NoBook", "NoRing", "NoRow", "NoStretch", "NoText", "NoTree", "NoTurn", "NoUndo", "TooMany", "Unknown"] : List Str), PySem.W.kitOne K (.ref (He.ga K m)) (.ref (He.ga K "NoRow")) = some (isSub m "NoRow") := fun m hm => tKit_ok (allB_ok q_xk_NoRow hm)
  obtain ⟨q_xk_NoStretch, hx⟩ := He.ba hx
  have xk_NoStretch : ∀ m ∈ (["Crowded", "NoBenches", "NoBook", "NoRing", "NoRow", "NoStretch", "NoText", "NoTree", "NoTurn", "NoUndo", "TooMany", "Unknown"] : List Str), PySem.W.kitOne K (.ref (He.ga K m)) (.ref (He.ga K "NoStretch")) = some (isSub m "NoStretch") := fun m hm => tKit_ok (allB_ok q_xk_NoStretch hm)
  obtain ⟨q_xk_NoText, hx⟩ := He.ba hx
  have xk_NoText : ∀ m ∈ (["Crowded", "NoBenches", "NoBook", "NoRing", "NoRow", "NoStretch", "NoText", "NoTree", "NoTurn", "NoUndo", "TooMany", "Unknown"] : List Str), PySem.W.kitOne K (.ref (He.ga K m)) (.ref (He.ga K "NoText")) = some (isSub m "NoText") := fun m hm => tKit_ok (allB_ok q_xk_NoText hm)
  obtain ⟨q_xk_NoTree, hx⟩ := He.ba hx
  have xk_NoTree : ∀ m ∈ (["Crowded", "NoBenches", "NoBook", "NoRing", "NoRow", "NoStretch", "NoText", "NoTree", "NoTurn", "NoUndo", "TooMany", "Unknown"] : List Str), PySem.W.kitOne K (.ref (He.ga K m)) (.ref (He.ga K "NoTree")) = some (isSub m "NoTree") := fun m hm => tKit_ok (allB_ok q_xk_NoTree hm)
  obtain ⟨q_xk_NoTurn, hx⟩ := He.ba hx
  have xk_NoTurn : ∀ m ∈ (["Crowded", "NoBenches", "NoBook", "NoRing", "NoRow", "NoStretch", "NoText", "NoTree", "NoTurn", "NoUndo", "TooMany", "Unknown"] : List Str), PySem.W.kitOne K (.ref (He.ga K m)) (.ref (He.ga K "NoTurn")) = some (isSub m "NoTurn") := fun m hm => tKit_ok (allB_ok q_xk_NoTurn hm)
  obtain ⟨q_xk_NoUndo, hx⟩ := He.ba hx
  have xk_NoUndo : ∀ m ∈ (["Crowded", "NoBenches", "NoBook", "NoRing", "NoRow", "NoStretch", "NoText", "NoTree", "NoTurn", "NoUndo", "TooMany", "Unknown"] : List Str), PySem.W.kitOne K (.ref (He.ga K m)) (.ref (He.ga K "NoUndo")) = some (isSub m "NoUndo") := fun m hm => tKit_ok (allB_ok q_xk_NoUndo hm)
  obtain ⟨q_xk_TooMany, hx⟩ := He.ba hx
  have xk_TooMany : ∀ m ∈ (["Crowded", "NoBenches", "NoBook", "NoRing", "NoRow", "NoStretch", "NoText", "NoTree", "NoTurn", "NoUndo", "TooMany", "Unknown"] : List Str), PySem.W.kitOne K (.ref (He.ga K m)) (.ref (He.ga K "TooMany")) = some (isSub m "TooMany") := fun m hm => tKit_ok (allB_ok q_xk_TooMany hm)
  obtain ⟨q_xk_Unknown, hx⟩ := He.ba hx
  have xk_Unknown : ∀ m ∈ (["Crowded", "NoBenches", "NoBook", "NoRing", "NoRow", "NoStretch", "NoText", "NoTree", "NoTurn", "NoUndo", "TooMany", "Unknown"] : List Str), PySem.W.kitOne K (.ref (He.ga K m)) (.ref (He.ga K "Unknown")) = some (isSub m "Unknown") := fun m hm => tKit_ok (allB_ok q_xk_Unknown hm)
  obtain ⟨q_xk_BenchError, hx⟩ := He.ba hx
  have xk_BenchError : ∀ m ∈ (["Crowded", "NoBenches", "NoBook", "NoRing", "NoRow", "NoStretch", "NoText", "NoTree", "NoTurn", "NoUndo", "TooMany", "Unknown"] : List Str), PySem.W.kitOne K (.ref (He.ga K m)) (.ref (He.ga K "BenchError")) = some (isSub m "BenchError") := fun m hm => tKit_ok (allB_ok q_xk_BenchError hm)
  obtain ⟨q_xn_number, hx⟩ := He.ba hx
  have xn_number : ∀ m ∈ (["Crowded", "NoBenches", "NoBook", "NoRing", "NoRow", "NoStretch", "NoText", "NoTree", "NoTurn", "NoUndo", "TooMany", "Unknown"] : List Str), PySem.W.findIn K (.ref (He.ga K m)) "number" = some none := fun m hm => tNo_ok (allB_ok q_xn_number hm)
  obtain ⟨q_hX, hx⟩ := He.ba hx
  have hX : ∀ m ∈ (["Crowded", "NoBenches", "NoBook", "NoRing", "NoRow", "NoStretch", "NoText", "NoTree", "NoTurn", "NoUndo", "TooMany", "Unknown"] : List Str), ExcC K (He.ga K m) := fun m hm => excB_ok (allB_ok q_hX hm)
  obtain ⟨fd_NoRing___init__, FD_NoRing___init__⟩ := c.def_ 13 (d := dd_NoRing___init__) rfl
  have D_NoRing___init__ : DfM K "NoRing" "__init__" "NoRing.__init__" s_NoRing___init__ := ⟨_, FD_NoRing___init__⟩
  obtain ⟨fd_NoBook___init__, FD_NoBook___init__⟩ := c.def_ 14 (d := dd_NoBook___init__) rfl
  have D_NoBook___init__ : DfM K "NoBook" "__init__" "NoBook.__init__" s_NoBook___init__ := ⟨_, FD_NoBook___init__⟩
  obtain ⟨fd_Crowded___init__, FD_Crowded___init__⟩ := c.def_ 15 (d := dd_Crowded___init__) rfl
  have D_Crowded___init__ : DfM K "Crowded" "__init__" "Crowded.__init__" s_Crowded___init__ := ⟨_, FD_Crowded___init__⟩
  obtain ⟨fd_NoText___init__, FD_NoText___init__⟩ := c.def_ 16 (d := dd_NoText___init__) rfl
  have D_NoText___init__ : DfM K "NoText" "__init__" "NoText.__init__" s_NoText___init__ := ⟨_, FD_NoText___init__⟩
  obtain ⟨fd_NoTree___init__, FD_NoTree___init__⟩ := c.def_ 17 (d := dd_NoTree___init__) rfl
  have D_NoTree___init__ : DfM K "NoTree" "__init__" "NoTree.__init__" s_NoTree___init__ := ⟨_, FD_NoTree___init__⟩
  obtain ⟨fd__law_begun, FD__law_begun⟩ := c.def_ 0 (d := dd__law_begun) rfl
  have D__law_begun : Df K mg "_law_begun" s__law_begun := ⟨_, _, FD__law_begun, g__law_begun⟩
  obtain ⟨fd__law_take, FD__law_take⟩ := c.def_ 1 (d := dd__law_take) rfl
  have D__law_take : Df K mg "_law_take" s__law_take := ⟨_, _, FD__law_take, g__law_take⟩
  obtain ⟨fd__law_name, FD__law_name⟩ := c.def_ 2 (d := dd__law_name) rfl
  have D__law_name : Df K mg "_law_name" s__law_name := ⟨_, _, FD__law_name, g__law_name⟩
  obtain ⟨fd__law_ring, FD__law_ring⟩ := c.def_ 3 (d := dd__law_ring) rfl
  have D__law_ring : Df K mg "_law_ring" s__law_ring := ⟨_, _, FD__law_ring, g__law_ring⟩
  obtain ⟨fd__law_odd_stretch, FD__law_odd_stretch⟩ := c.def_ 4 (d := dd__law_odd_stretch) rfl
  have D__law_odd_stretch : Df K mg "_law_odd_stretch" s__law_odd_stretch := ⟨_, _, FD__law_odd_stretch, g__law_odd_stretch⟩
  obtain ⟨fd__law_odd, FD__law_odd⟩ := c.def_ 5 (d := dd__law_odd) rfl
  have D__law_odd : Df K mg "_law_odd" s__law_odd := ⟨_, _, FD__law_odd, g__law_odd⟩
  obtain ⟨fd_is_whole, FD_is_whole⟩ := c.def_ 6 (d := dd_is_whole) rfl
  have D_is_whole : Df K mg "is_whole" s_is_whole := ⟨_, _, FD_is_whole, g_is_whole⟩
  obtain ⟨fd_is_name, FD_is_name⟩ := c.def_ 7 (d := dd_is_name) rfl
  have D_is_name : Df K mg "is_name" s_is_name := ⟨_, _, FD_is_name, g_is_name⟩
  obtain ⟨fd_is_ring_stretch, FD_is_ring_stretch⟩ := c.def_ 8 (d := dd_is_ring_stretch) rfl
  have D_is_ring_stretch : Df K mg "is_ring_stretch" s_is_ring_stretch := ⟨_, _, FD_is_ring_stretch, g_is_ring_stretch⟩
  obtain ⟨fd_look_at_ring, FD_look_at_ring⟩ := c.def_ 9 (d := dd_look_at_ring) rfl
  have D_look_at_ring : Df K mg "look_at_ring" s_look_at_ring := ⟨_, _, FD_look_at_ring, g_look_at_ring⟩
  obtain ⟨fd__law_refused, FD__law_refused⟩ := c.def_ 10 (d := dd__law_refused) rfl
  have D__law_refused : Df K mg "_law_refused" s__law_refused := ⟨_, _, FD__law_refused, g__law_refused⟩
  obtain ⟨fd__law_made_by_hand, FD__law_made_by_hand⟩ := c.def_ 11 (d := dd__law_made_by_hand) rfl
  have D__law_made_by_hand : Df K mg "_law_made_by_hand" s__law_made_by_hand := ⟨_, _, FD__law_made_by_hand, g__law_made_by_hand⟩
  obtain ⟨fd_law, FD_law⟩ := c.def_ 12 (d := dd_law) rfl
  have D_law : Df K mg "law" s_law := ⟨_, _, FD_law, g_law⟩
  have e := hfa.symm.trans g_law
  cases e
  have b := FunD.bindsA (ps := ["_law_script"]) FD_law fun _ _ _ _ _ _ us hl => match us, hl with | [_], _ => rfl
  refine ⟨fd_law, fun s v => b s [v] rfl, fun base _ _ hsy => ?_⟩
  have ox_NoRing : OxK P w K mg base "NoRing" "number" := oxB_ok q_xo_NoRing xg_NoRing (init_ok D_NoRing___init__ sc_NoRing___init__ (fun _ _ _ _ _ _ us hl => match us, hl with | [_, _], _ => rfl) (fun _ _ _ _ _ _ _ => pss_one (ps_ost (pv 0) (pv 1))))
  have ox_NoBook : OxK P w K mg base "NoBook" "number" := oxB_ok q_xo_NoBook xg_NoBook (init_ok D_NoBook___init__ sc_NoBook___init__ (fun _ _ _ _ _ _ us hl => match us, hl with | [_, _], _ => rfl) (fun _ _ _ _ _ _ _ => pss_one (ps_ost (pv 0) (pv 1))))
  have ox_Crowded : OxK P w K mg base "Crowded" "moment" := oxB_ok q_xo_Crowded xg_Crowded (init_ok D_Crowded___init__ sc_Crowded___init__ (fun _ _ _ _ _ _ us hl => match us, hl with | [_, _], _ => rfl) (fun _ _ _ _ _ _ _ => pss_one (ps_ost (pv 0) (pv 1))))
  have ox_NoText : OxK P w K mg base "NoText" "row" := oxB_ok q_xo_NoText xg_NoText (init_ok D_NoText___init__ sc_NoText___init__ (fun _ _ _ _ _ _ us hl => match us, hl with | [_, _], _ => rfl) (fun _ _ _ _ _ _ _ => pss_one (ps_ost (pv 0) (pv 1))))
  have ox_NoTree : OxK P w K mg base "NoTree" "way" := oxB_ok q_xo_NoTree xg_NoTree (init_ok D_NoTree___init__ sc_NoTree___init__ (fun _ _ _ _ _ _ us hl => match us, hl with | [_, _], _ => rfl) (fun _ _ _ _ _ _ _ => pss_one (ps_ost (pv 0) (pv 1))))
  have c__law_begun : Cal P w K mg base 1 "_law_begun" ["_law_script", "_law_k"] F__law_begun := ok__law_begun D__law_begun b_len b_max
  have c__law_take : Cal P w K mg base 1 "_law_take" ["_law_state", "_law_many"] F__law_take := ok__law_take D__law_take b_range b_int
  have c__law_name : Cal P w K mg base 2 "_law_name" ["_law_state", "_law_k"] F__law_name := ok__law_name D__law_name b_range c__law_take
  have c__law_ring : Cal P w K mg base 3 "_law_ring" ["_law_state", "_law_most"] F__law_ring := ok__law_ring D__law_ring b_range b_min c__law_take c__law_name
  have c__law_odd_stretch : Cal P w K mg base 2 "_law_odd_stretch" ["_law_state", "_law_ring_here", "_law_at"] F__law_odd_stretch := ok__law_odd_stretch D__law_odd_stretch b_len c__law_take
  have c__law_odd : Cal P w K mg base 3 "_law_odd" ["_law_state", "_law_ring_here"] F__law_odd := ok__law_odd D__law_odd b_tuple b_min b_len b_list c__law_take c__law_odd_stretch
  have c_is_whole : Cal P w K mg base 1 "is_whole" ["thing"] F_is_whole := ok_is_whole D_is_whole b_isinstance b_int b_bool
  have c_is_name : Cal P w K mg base 1 "is_name" ["thing"] F_is_name := ok_is_name D_is_name b_isinstance b_str b_len b_all z_LONGEST z_LETTERS
  have c_is_ring_stretch : Cal P w K mg base 2 "is_ring_stretch" ["size", "thing"] F_is_ring_stretch := ok_is_ring_stretch D_is_ring_stretch b_isinstance b_tuple b_len b_all z_MOST_WORTH c_is_name c_is_whole
  have c_look_at_ring : CalX P w K mg base 3 "look_at_ring" ["thing"] F_look_at_ring := ok_look_at_ring D_look_at_ring b_isinstance b_tuple b_len b_list b_enumerate z_MOST_SIZE z_MOST_STRETCHES c_is_whole c_is_ring_stretch ox_NoRing
  have c__law_refused : Cal P w K mg base 4 "_law_refused" ["_law_thing", "_law_number"] F__law_refused := ok__law_refused D__law_refused b_isinstance b_ValueError b_bool c_look_at_ring xg_BenchError xg_NoRing xg_Crowded xg_NoBenches xg_NoBook xg_NoRow xg_NoStretch xg_NoText xg_NoTree xg_NoTurn xg_NoUndo xg_TooMany xg_Unknown xm_BenchError xk_NoRing xk_ValueError xk_Crowded xk_NoBenches xk_NoBook xk_NoRow xk_NoStretch xk_NoText xk_NoTree xk_NoTurn xk_NoUndo xk_TooMany xk_Unknown xn_number hX
  have c__law_made_by_hand : Cal P w K mg base 3 "_law_made_by_hand" [] F__law_made_by_hand := ok__law_made_by_hand D__law_made_by_hand b_isinstance xt_NoTurn xt_NoStretch xt_NoRow xt_NoBenches xt_Unknown xt_TooMany xt_NoUndo ox_NoBook ox_NoRing ox_Crowded ox_NoText ox_NoTree xg_BenchError xk_BenchError hX
  exact ok_law FD_law b_range b_max b_min b_len b_list b_str c__law_begun c__law_ring c__law_odd c_look_at_ring c__law_refused c__law_made_by_hand hsy
end Row
open PySem PySem.W PySem.Calls PyProof.Rows
theorem PySem.Challenge.cw_benchworth_k53_what_is_a_ring_holds : PySem.Challenge.rw_benchworth_k53_what_is_a_ring.Holds := by
  w_on; o_law
  refine HandSHeadRun.head_any (r := OpenLaw.row PySem.Challenge.rw_benchworth_k53_what_is_a_ring) (q := view (OpenLaw.row PySem.Challenge.rw_benchworth_k53_what_is_a_ring).prog [34]) (H := Row.hk) (ob := Row.ob) (M := 20000) (loose := Row.loose) (d := HandSHeadRun.topDef (OpenLaw.row PySem.Challenge.rw_benchworth_k53_what_is_a_ring).prog 34) (kwd := []) Row.ob_eq
    (by kernel_rfl) (fun s => by kernel_rfl) Row.run (by kernel_rfl) (by kernel_rfl) (by kernel_rfl) (by rfl) (by first | assumption | decide +kernel) (by decide +kernel) ⟨rfl, rfl, rfl, rfl, rfl, by decide +kernel⟩ ?hw ?hc
  case hw => w_witness2
  case hc =>
    refine DL.walkG (l := PySem.Challenge.rw_benchworth_k53_what_is_a_ring) (n := 63) (k := 5) (x := "_law_script") rfl (by decide) (by kernel_rfl) ⟨rfl, by decide, by decide⟩ ?F (by kernel_rfl)
    intro w mg fa h Y G hmg0
    obtain ⟨K, KX, c, hx⟩ := Y
    have hmg : mg ("law" : PySem.Str) = some (.ref fa) := by
      have e : (HandSHeadRun.topDef (OpenLaw.row PySem.Challenge.rw_benchworth_k53_what_is_a_ring).prog 34).name = ("law" : PySem.Str) := by kernel_rfl
      rw [← e]
      exact hmg0
    obtain ⟨fd, hb, hF⟩ := Row.facts (P := (PySem.Challenge.rw_benchworth_k53_what_is_a_ring).prog) (w := w) KX G hmg c hx
    exact ⟨K, fd, KX, hb, hF⟩
