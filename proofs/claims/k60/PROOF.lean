import PyProof.Rows.All
import Wide.All
import OpenK.AllK
import Wide.FinOn
import HandS.ForMost
import HandS.Exc
import HandS.IsInst
import HandS.Wide
import HandS.Defaults
import HandS.HeadHook1
import HandS.Lambda
import HandS.HeadHook4
import HandS.Flow
import HandS.Conv
import HandS.SetFor
import HandS.Strs
import HandS.SortInts
import HandS.Style
import HandS.More
import HandS.Rev
import HandS.Codes
import HandS.TupAny
import PyProof.StrOps2
import HandS.SortKw
import PyProof.MinMaxWalk
import KE.DataMinMax
import KE.SortData
import HandS.HeadHook2
import HandS.Deep
import HandS.NoneIn
import PyProof.ListStr
import PyProof.TupleOfStr
import HandS.ExcValue
import HandS.HeadEnd
import HandS.RaiseMore
import PyProof.ReprRoads
import PyProof.StrLawsRepr
import PyProof.FitsInt
import PyProof.CallFns
import PyProof.RowDictHeap
import HandS.ExcOwn
import HandS.ExcInit
import HandS.ExcField
import HandS.ExcIs
import HandS.TryOnly
import HandS.WordsExc
import KE.KExcIs
import HandS.Sort
import KE.SortKeyHeap
import HandS.Nested
import HandS.HeadWalk
import HandS.FStr
import HandS.Text
import HandS.StrMore
import HandS.Flt
import PyProof.StrLawsTight
import PyProof.StrLawsReplace
import KE.IntTextLaws
import HandS.RaiseFrom
import HandS.SuiteRaise
import HandS.ExcInitHot
import KE.DataCmp
import HandS.ReplaceLit
import HandS.ReplaceDef
import HandS.Zip
import KE.KDictZip
import KE.KStateDown
import Lean
import HandS.Head0
import HandS.Head1
import HandS.Head2
import PySem.Challenge.RW_benchworth_k60_the_most_of_a_ring
set_option Elab.async false
set_option linter.all false
set_option maxRecDepth 100000
set_option maxHeartbeats 4000000
namespace DL
open PySem L2
/-- data by value; .ref: an owned object of the ghost heap -/
inductive D where
  | non | bl (b : Bool) | int (i : Int) | str (x : Str) | ty (n : String) | ref (a : Addr) | cl (a : Addr)
  | lst (ds : List D) | tup (ds : List D) | dct (ks : List Key) (ds : List D) | scr (ns : List Int) | exc (a dd : Addr) (f : Str) (e : D)
inductive GO where
  | lst (ds : List D) | dct (ks : List Key) (ds : List D) | ins (C : Str) (dx : Addr) (ks : List Str) (ds : List D) | own (x : Addr) | set (S : Int → Bool) (n : Nat) | tbl (f q : Str) (a : Addr) | gen (r : List V → HO → Prop) (ds : List D)
abbrev Gp := Addr → Option GO
def gput (G : Gp) (a : Addr) (o : GO) : Gp := fun b => if b = a then some o else G b
theorem gput_same {G : Gp} {a : Addr} {o : GO} : gput G a o a = some o := by unfold gput; rw [if_pos rfl]
theorem gput_ne {G : Gp} {a b : Addr} {o : GO} (h : b ≠ a) : gput G a o b = G b := by unfold gput; rw [if_neg h]
theorem gput_gput {G : Gp} {a : Addr} {o u : GO} : gput (gput G a o) a u = gput G a u := by
  funext b; unfold gput; split <;> rfl
/-- the script: locked, or written -/
def SqS (K : PySem.W.Frag) (H : Hp) (G : Gp) (P : Addr → Prop) (a : Addr) (xs : List V) : Prop :=
  ((∃ o, H a = some (.frz o (.lst xs))) ∧ G a = none) ∨ (H a = some (.lst xs) ∧ G a = none ∧ ¬ P a) ∨
    ∃ (o : Obj) (its : Array Value) (n : Nat), K.lookup a = some o ∧ o.cls = .type "list" ∧ o.dict = none ∧ o.data = .seq its n ∧ its.size ≤ sizeLine ∧ Vals xs its.toList
theorem SqS.sq {K : PySem.W.Frag} {H : Hp} {G : Gp} {P : Addr → Prop} {a : Addr} {xs : List V} (h : SqS K H G P a xs) : SqL K H a xs := by
  rcases h with ⟨⟨o, h⟩, _⟩ | ⟨h, _, _⟩ | h
  · exact .inl (.inr ⟨o, h⟩)
  · exact .inl (.inl h)
  · exact .inr h
mutual
def Rep (K : PySem.W.Frag) (H : Hp) (G : Gp) (P : Addr → Prop) : D → V → Prop
  | .non, v => v = .non
  | .bl b, v => v = .bl b
  | .int i, v => v = .int i
  | .str x, v => v = .str x
  | .ty n, v => v = .ty n
  | .cl a, v => v = .ref a
  | .ref a, v => v = .ref a ∧ ∃ o, G a = some o
  | .exc a dd f e, v => v = .ref a ∧ G dd = none ∧ ¬ P dd ∧ ∃ u, H dd = some (.xd [(f, u)]) ∧ Rep K H G P e u
  | .scr ns, v => ∃ a, v = .ref a ∧ ns.length ≤ sizeLine ∧ SqS K H G P a (ns.map V.int)
  | .lst ds, v => ∃ a xs, v = .ref a ∧ G a = none ∧ ¬ P a ∧ H a = some (.lst xs) ∧ ds.length ≤ sizeLine ∧ Reps K H G P ds xs
  | .tup ds, v => ∃ a xs, v = .ref a ∧ G a = none ∧ ¬ P a ∧ H a = some (.tup xs) ∧ ds.length ≤ sizeLine ∧ Reps K H G P ds xs
  | .dct ks ds, v => ∃ a xs, v = .ref a ∧ G a = none ∧ ¬ P a ∧ H a = some (.dK (ks.zip xs)) ∧ ks.length = ds.length ∧ Reps K H G P ds xs
def Reps (K : PySem.W.Frag) (H : Hp) (G : Gp) (P : Addr → Prop) : List D → List V → Prop
  | [], xs => xs = []
  | d :: ds, xs => ∃ x r, xs = x :: r ∧ Rep K H G P d x ∧ Reps K H G P ds r
end
def RelO (K : PySem.W.Frag) (H : Hp) (G : Gp) (P : Addr → Prop) : GO → HO → Prop
  | .lst ds, ho => ∃ xs, ho = .lst xs ∧ ds.length ≤ sizeLine ∧ Reps K H G P ds xs
  | .dct ks ds, ho => ∃ xs, ho = .dK (ks.zip xs) ∧ ks.length = ds.length ∧ Reps K H G P ds xs
  | .ins C dx ks ds, ho => ∃ xs, ho = .ins (He.ga K C) dx (ks.zip xs) ∧ ks.length = ds.length ∧ Reps K H G P ds xs
  | .own x, ho => ho = .own x
  | .set S n, ho => ho = .set S n
  | .gen r ds, ho => ∃ xs, r xs ho ∧ (∀ ys, ho ≠ .tup ys) ∧ Reps K H G P ds xs
  | .tbl f q a, ho => a = (He.cT K (f, none)).2 ∧ ∃ ps, ho = .tbl ps ∧ TriplesOk ps.toList ∧ ∀ (pos : Pos) (cv : Value), codeAmong pos ps.toList = some cv → ∃ c, cv = .ref c ∧ H c = some (LamX.CodeO c q) ∧ G c = none ∧ ¬ P c
/-- the world is held: owned objects as told, private ones apart -/
structure Wo (K : PySem.W.Frag) (P : Addr → Prop) (G : Gp) (H : Hp) : Prop where
  own : ∀ a o, G a = some o → ∃ ho, H a = some ho ∧ RelO K H G P o ho
  prv : ∀ a, P a → G a = none ∧ ∃ ho, H a = some ho ∧ ∀ ys, ho ≠ .tup ys
/-- what a step keeps: what is not owned stands; what is owned stays owned -/
structure Step (G : Gp) (H : Hp) (G' : Gp) (H' : Hp) : Prop where
  keep : ∀ a o, H a = some o → G a = none → H' a = some o ∧ G' a = none
  own : ∀ a o, G a = some o → ∃ o', G' a = some o'
theorem Step.refl (G : Gp) (H : Hp) : Step G H G H := ⟨fun _ _ h g => ⟨h, g⟩, fun _ o h => ⟨o, h⟩⟩
theorem Step.trans {G G1 G2 : Gp} {H H1 H2 : Hp} (a : Step G H G1 H1) (b : Step G1 H1 G2 H2) : Step G H G2 H2 :=
  ⟨fun c o h g => let ⟨h1, g1⟩ := a.keep c o h g; b.keep c o h1 g1, fun c o h => let ⟨o1, h1⟩ := a.own c o h; b.own c o1 h1⟩
mutual
theorem Rep.mono {K : PySem.W.Frag} {P P' : Addr → Prop} {G G' : Gp} {H H' : Hp} (s : Step G H G' H') (hP : ∀ a, (∃ ho, H a = some ho) → P' a → P a) : ∀ {d : D} {v : V}, Rep K H G P d v → Rep K H' G' P' d v
  | .non, _, h => by unfold Rep at h ⊢; exact h
  | .bl _, _, h => by unfold Rep at h ⊢; exact h
  | .int _, _, h => by unfold Rep at h ⊢; exact h
  | .str _, _, h => by unfold Rep at h ⊢; exact h
  | .ty _, _, h => by unfold Rep at h ⊢; exact h
  | .cl _, _, h => by unfold Rep at h ⊢; exact h
  | .ref a, _, h => by
    unfold Rep at h ⊢
    obtain ⟨rfl, o, ho⟩ := h
    exact ⟨rfl, s.own _ _ ho⟩
  | .exc a dd f e, _, h => by
    unfold Rep at h ⊢
    obtain ⟨rfl, g, p, u, r, q⟩ := h
    exact ⟨rfl, (s.keep _ _ r g).2, fun x => p (hP dd ⟨_, r⟩ x), u, (s.keep _ _ r g).1, Rep.mono s hP q⟩
  | .scr ns, _, h => by
    unfold Rep at h ⊢
    obtain ⟨a, rfl, z, ⟨⟨o, h⟩, g⟩ | ⟨h, g, pp⟩ | h⟩ := h
    · exact ⟨a, rfl, z, .inl ⟨⟨o, (s.keep _ _ h g).1⟩, (s.keep _ _ h g).2⟩⟩
    · exact ⟨a, rfl, z, .inr (.inl ⟨(s.keep _ _ h g).1, (s.keep _ _ h g).2, fun x => pp (hP a ⟨_, h⟩ x)⟩)⟩
    · exact ⟨a, rfl, z, .inr (.inr h)⟩
  | .lst ds, _, h => by
    unfold Rep at h ⊢
    obtain ⟨a, xs, rfl, g, p, r, z, q⟩ := h
    exact ⟨a, xs, rfl, (s.keep _ _ r g).2, fun x => p (hP a ⟨_, r⟩ x), (s.keep _ _ r g).1, z, Reps.mono s hP q⟩
  | .tup ds, _, h => by
    unfold Rep at h ⊢
    obtain ⟨a, xs, rfl, g, p, r, z, q⟩ := h
    exact ⟨a, xs, rfl, (s.keep _ _ r g).2, fun x => p (hP a ⟨_, r⟩ x), (s.keep _ _ r g).1, z, Reps.mono s hP q⟩
  | .dct ks ds, _, h => by
    unfold Rep at h ⊢
    obtain ⟨a, xs, rfl, g, p, r, z, q⟩ := h
    exact ⟨a, xs, rfl, (s.keep _ _ r g).2, fun x => p (hP a ⟨_, r⟩ x), (s.keep _ _ r g).1, z, Reps.mono s hP q⟩
theorem Reps.mono {K : PySem.W.Frag} {P P' : Addr → Prop} {G G' : Gp} {H H' : Hp} (s : Step G H G' H') (hP : ∀ a, (∃ ho, H a = some ho) → P' a → P a) : ∀ {ds : List D} {vs : List V}, Reps K H G P ds vs → Reps K H' G' P' ds vs
  | [], _, h => by unfold Reps at h ⊢; exact h
  | d :: ds, _, h => by
    unfold Reps at h ⊢
    obtain ⟨x, r, rfl, h1, h2⟩ := h
    exact ⟨x, r, rfl, Rep.mono s hP h1, Reps.mono s hP h2⟩
end
section
variable {K : PySem.W.Frag} {P : Addr → Prop} {G G' : Gp} {H H' : Hp}
theorem Rep.step {d : D} {v : V} (s : Step G H G' H') (h : Rep K H G P d v) : Rep K H' G' P d v := Rep.mono s (fun _ _ x => x) h
theorem Reps.step {ds : List D} {vs : List V} (s : Step G H G' H') (h : Reps K H G P ds vs) : Reps K H' G' P ds vs := Reps.mono s (fun _ _ x => x) h
theorem reps_nil : Reps K H G P [] [] := by unfold Reps; rfl
theorem reps_cons {d : D} {ds : List D} {v : V} {vs : List V} (h : Rep K H G P d v) (t : Reps K H G P ds vs) : Reps K H G P (d :: ds) (v :: vs) := by
  rw [Reps]; exact ⟨v, vs, rfl, h, t⟩
theorem Reps.length : ∀ {ds : List D} {vs : List V}, Reps K H G P ds vs → ds.length = vs.length
  | [], _, h => by unfold Reps at h; subst h; rfl
  | d :: ds, _, h => by
    unfold Reps at h
    obtain ⟨x, r, rfl, _, h2⟩ := h
    simp [Reps.length h2]
theorem Reps.get : ∀ {ds : List D} {vs : List V} {i : Nat} {d : D}, Reps K H G P ds vs → ds[i]? = some d → ∃ v, vs[i]? = some v ∧ Rep K H G P d v
  | [], _, _, _, _, e => by simp at e
  | d :: ds, _, i, d', h, e => by
    unfold Reps at h
    obtain ⟨x, r, rfl, h1, h2⟩ := h
    cases i with
    | zero => simp at e; subst e; exact ⟨x, by simp, h1⟩
    | succ i =>
      obtain ⟨v, e1, e2⟩ := Reps.get (i := i) (d := d') h2 (by simpa using e)
      exact ⟨v, by simpa using e1, e2⟩
theorem Reps.append : ∀ {ds es : List D} {vs ws : List V}, Reps K H G P ds vs → Reps K H G P es ws → Reps K H G P (ds ++ es) (vs ++ ws)
  | [], es, _, ws, h, k => by unfold Reps at h; subst h; exact k
  | d :: ds, es, _, ws, h, k => by
    unfold Reps at h
    obtain ⟨x, r, rfl, h1, h2⟩ := h
    exact reps_cons h1 (Reps.append h2 k)
theorem Reps.set {d : D} {v : V} (hd : Rep K H G P d v) : ∀ {ds : List D} {vs : List V} (i : Nat), Reps K H G P ds vs → Reps K H G P (ds.set i d) (vs.set i v)
  | [], _, _, h => by unfold Reps at h; subst h; exact reps_nil
  | e :: ds, _, i, h => by
    unfold Reps at h
    obtain ⟨x, r, rfl, h1, h2⟩ := h
    cases i with
    | zero => exact reps_cons hd h2
    | succ i => exact reps_cons h1 (Reps.set hd i h2)
theorem Reps.drop : ∀ {ds : List D} {vs : List V} (n : Nat), Reps K H G P ds vs → Reps K H G P (ds.drop n) (vs.drop n)
  | _, _, 0, h => h
  | [], _, n + 1, h => by unfold Reps at h; subst h; exact reps_nil
  | e :: ds, _, n + 1, h => by
    unfold Reps at h
    obtain ⟨x, r, rfl, h1, h2⟩ := h
    exact Reps.drop n h2
theorem Reps.take : ∀ {ds : List D} {vs : List V} (n : Nat), Reps K H G P ds vs → Reps K H G P (ds.take n) (vs.take n)
  | _, _, 0, h => reps_nil
  | [], _, n + 1, h => by unfold Reps at h; subst h; exact reps_nil
  | e :: ds, _, n + 1, h => by
    unfold Reps at h
    obtain ⟨x, r, rfl, h1, h2⟩ := h
    exact reps_cons h1 (Reps.take n h2)
theorem reps_ints : ∀ {ns : List Int} {vs : List V}, Reps K H G P (ns.map D.int) vs → vs = ns.map V.int
  | [], _, h => by simp only [List.map_nil] at h; unfold Reps at h; exact h
  | n :: ns, _, h => by
    simp only [List.map_cons] at h
    unfold Reps at h
    obtain ⟨x, r, rfl, h1, h2⟩ := h
    unfold Rep at h1
    rw [h1, reps_ints h2]; rfl
theorem reps_of_ints : ∀ {ns : List Int}, Reps K H G P (ns.map D.int) (ns.map V.int)
  | [] => reps_nil
  | n :: ns => reps_cons (by unfold Rep; rfl) reps_of_ints
theorem rep_int {i : Int} : Rep K H G P (.int i) (.int i) := by unfold Rep; rfl
theorem rep_bl {i : Bool} : Rep K H G P (.bl i) (.bl i) := by unfold Rep; rfl
theorem rep_str {i : Str} : Rep K H G P (.str i) (.str i) := by unfold Rep; rfl
theorem rep_non : Rep K H G P .non .non := by unfold Rep; rfl
theorem rep_lst {a : Addr} {xs : List V} {ds : List D} (g : G a = none) (p : ¬ P a) (r : H a = some (.lst xs)) (z : ds.length ≤ sizeLine) (q : Reps K H G P ds xs) : Rep K H G P (.lst ds) (.ref a) := by
  unfold Rep; exact ⟨a, xs, rfl, g, p, r, z, q⟩
theorem rep_tup {a : Addr} {xs : List V} {ds : List D} (g : G a = none) (p : ¬ P a) (r : H a = some (.tup xs)) (z : ds.length ≤ sizeLine) (q : Reps K H G P ds xs) : Rep K H G P (.tup ds) (.ref a) := by
  unfold Rep; exact ⟨a, xs, rfl, g, p, r, z, q⟩
theorem RelO.step {P' : Addr → Prop} {o : GO} {ho : HO} (s : Step G H G' H') (hP : ∀ a, (∃ ho, H a = some ho) → P' a → P a) (h : RelO K H G P o ho) : RelO K H' G' P' o ho := by
  cases o with
  | lst ds => obtain ⟨xs, e, z, q⟩ := h; exact ⟨xs, e, z, q.mono s hP⟩
  | dct ks ds => obtain ⟨xs, e, z, q⟩ := h; exact ⟨xs, e, z, q.mono s hP⟩
  | ins C dx ks ds => obtain ⟨xs, e, z, q⟩ := h; exact ⟨xs, e, z, q.mono s hP⟩
  | own x => exact h
  | set S n => exact h
  | gen r ds => obtain ⟨xs, e, z, q⟩ := h; exact ⟨xs, e, z, q.mono s hP⟩
  | tbl f q a =>
    obtain ⟨ea, ps, e, z, q⟩ := h
    refine ⟨ea, ps, e, z, fun pos cv hc => ?_⟩
    obtain ⟨c, e1, e2, e3, e4⟩ := q pos cv hc
    exact ⟨c, e1, (s.keep c _ e2 e3).1, (s.keep c _ e2 e3).2, fun x => e4 (hP c ⟨_, e2⟩ x)⟩
theorem Wo.fresh (w : Wo K P G H) {p : Addr} (h : H p = none) : G p = none ∧ ¬ P p := by
  refine ⟨?_, fun q => ?_⟩
  · cases e : G p with
    | none => rfl
    | some o => obtain ⟨ho, q, _⟩ := w.own p o e; rw [h] at q; cases q
  · obtain ⟨_, ho, e, _⟩ := w.prv p q; rw [h] at e; cases e
/-- a new object, not owned -/
theorem Step.new {p : Addr} {o : HO} (h : H p = none) : Step G H G (upd H p o) :=
  ⟨fun a u e g => ⟨by rw [upd_ne (ne_of_none e h)]; exact e, g⟩, fun _ u e => ⟨u, e⟩⟩
theorem Wo.new (w : Wo K P G H) {p : Addr} {o : HO} (h : H p = none) : Wo K P G (upd H p o) := by
  refine ⟨fun a u e => ?_, fun a q => ?_⟩
  · obtain ⟨ho, e1, r⟩ := w.own a u e
    exact ⟨ho, by rw [upd_ne (ne_of_none e1 h)]; exact e1, r.step (Step.new h) fun _ _ x => x⟩
  · obtain ⟨g, ho, e, nt⟩ := w.prv a q
    exact ⟨g, ho, by rw [upd_ne (ne_of_none e h)]; exact e, nt⟩
/-- a new object, owned -/
theorem Step.newOwn {p : Addr} {o : HO} {g : GO} (w : Wo K P G H) (h : H p = none) : Step G H (gput G p g) (upd H p o) := by
  refine ⟨fun a u e q => ?_, fun a u e => ?_⟩
  · have ne : a ≠ p := ne_of_none e h
    exact ⟨by rw [upd_ne ne]; exact e, by rw [gput_ne ne]; exact q⟩
  · by_cases ne : a = p
    · subst ne; exact ⟨g, gput_same⟩
    · exact ⟨u, by rw [gput_ne ne]; exact e⟩
theorem Wo.newOwn (w : Wo K P G H) {p : Addr} {o : HO} {g : GO} (h : H p = none) (r : RelO K (upd H p o) (gput G p g) P g o) : Wo K P (gput G p g) (upd H p o) := by
  refine ⟨fun a u e => ?_, fun a q => ?_⟩
  · by_cases ne : a = p
    · subst ne; rw [gput_same] at e; cases e; exact ⟨o, upd_same, r⟩
    · rw [gput_ne ne] at e
      obtain ⟨ho, e1, r1⟩ := w.own a u e
      exact ⟨ho, by rw [upd_ne ne]; exact e1, r1.step (Step.newOwn w h) fun _ _ x => x⟩
  · obtain ⟨g1, ho, e, nt⟩ := w.prv a q
    have ne : a ≠ p := ne_of_none e h
    exact ⟨by rw [gput_ne ne]; exact g1, ho, by rw [upd_ne ne]; exact e, nt⟩
/-- an owned object changed -/
theorem Step.chg {p : Addr} {o : HO} {g g0 : GO} (h : G p = some g0) : Step G H (gput G p g) (upd H p o) := by
  refine ⟨fun a u e q => ?_, fun a u e => ?_⟩
  · have ne : a ≠ p := fun z => by subst z; rw [h] at q; cases q
    exact ⟨by rw [upd_ne ne]; exact e, by rw [gput_ne ne]; exact q⟩
  · by_cases ne : a = p
    · subst ne; exact ⟨g, gput_same⟩
    · exact ⟨u, by rw [gput_ne ne]; exact e⟩
theorem Wo.chg (w : Wo K P G H) {p : Addr} {o : HO} {g g0 : GO} (h : G p = some g0) (r : RelO K (upd H p o) (gput G p g) P g o) : Wo K P (gput G p g) (upd H p o) := by
  refine ⟨fun a u e => ?_, fun a q => ?_⟩
  · by_cases ne : a = p
    · subst ne; rw [gput_same] at e; cases e; exact ⟨o, upd_same, r⟩
    · rw [gput_ne ne] at e
      obtain ⟨ho, e1, r1⟩ := w.own a u e
      exact ⟨ho, by rw [upd_ne ne]; exact e1, r1.step (Step.chg h) fun _ _ x => x⟩
  · obtain ⟨g1, ho, e, nt⟩ := w.prv a q
    have ne : a ≠ p := fun z => by subst z; rw [h] at g1; cases g1
    exact ⟨by rw [gput_ne ne]; exact g1, ho, by rw [upd_ne ne]; exact e, nt⟩
end
end DL
set_option Elab.async false
set_option linter.all false
set_option maxRecDepth 100000
set_option maxHeartbeats 4000000
namespace DL
open PySem L2
abbrev DK := D → Gp → Prop
abbrev Sd := List (Option D)
abbrev EE := Sd → Gp → DK → Prop
abbrev ET := Sd → Gp → (Bool → Gp → Prop) → Prop
abbrev EA := Sd → Gp → (List D → Gp → Prop) → Prop
/-- an exception: its class by name, its field -/
structure Xd where
  c : Str
  f : Option (Str × D)
structure En where
  nx : Sd → Gp → Prop
  rt : DK
  bk : Sd → Gp → Prop := fun _ _ => False
  ct : Sd → Gp → Prop := fun _ _ => False
  xr : Xd → Sd → Gp → Prop := fun _ _ _ => False
abbrev ES := En → Sd → Gp → Prop
/-- the slots and the world told -/
structure Rl (K : PySem.W.Frag) (P : Addr → Prop) (s : Sd) (G : Gp) (σ : St) (H : Hp) : Prop where
  wo : Wo K P G H
  len : s.length = σ.length
  at_ : ∀ (i : Nat) (d : D), s[i]? = some (some d) → ∃ v, σ[i]? = some (some v) ∧ Rep K H G P d v
section
variable {K : PySem.W.Frag} {P : Addr → Prop} {s : Sd} {G G' : Gp} {σ : St} {H H' : Hp}
theorem Rl.step (r : Rl K P s G σ H) (st : Step G H G' H') (w : Wo K P G' H') : Rl K P s G' σ H' :=
  ⟨w, r.len, fun i d e => let ⟨v, e1, e2⟩ := r.at_ i d e; ⟨v, e1, e2.step st⟩⟩
theorem Rl.set (r : Rl K P s G σ H) {i : Nat} {d : D} {v : V} (h : Rep K H G P d v) : Rl K P (s.set i (some d)) G (σ.set i (some v)) H := by
  refine ⟨r.wo, by rw [List.length_set, List.length_set]; exact r.len, fun j e q => ?_⟩
  by_cases hj : i = j
  · subst hj
    by_cases hi : i < s.length
    · rw [List.getElem?_set_self hi] at q
      cases q
      exact ⟨v, List.getElem?_set_self (by rw [← r.len]; exact hi), h⟩
    · rw [List.getElem?_eq_none (by rw [List.length_set]; omega)] at q; cases q
  · rw [List.getElem?_set_ne hj] at q
    obtain ⟨w, e1, e2⟩ := r.at_ j e q
    exact ⟨w, by rw [List.getElem?_set_ne hj]; exact e1, e2⟩
end
/-- a reading over the heap keeps one over data -/
def LE (K : PySem.W.Frag) (te : TE) (t : EE) : Prop := ∀ (P : Addr → Prop) (s : Sd) (G : Gp) (Q : DK) (σ : St) (H : Hp) (R : VK), t s G Q → Rl K P s G σ H →
  (∀ d G' v H', Step G H G' H' → Wo K P G' H' → Rep K H' G' P d v → Q d G' → R v H') → te σ H R
def LT (K : PySem.W.Frag) (te : TT) (t : ET) : Prop := ∀ (P : Addr → Prop) (s : Sd) (G : Gp) (Q : Bool → Gp → Prop) (σ : St) (H : Hp) (R : Bool → Hp → Prop), t s G Q → Rl K P s G σ H →
  (∀ b G' H', Step G H G' H' → Wo K P G' H' → Q b G' → R b H') → te σ H R
def LA (K : PySem.W.Frag) (n : Nat) (te : TA) (t : EA) : Prop := ∀ (P : Addr → Prop) (s : Sd) (G : Gp) (Q : List D → Gp → Prop) (σ : St) (H : Hp) (R : List V → Hp → Prop), t s G Q → Rl K P s G σ H →
  (∀ ds G' vs H', Step G H G' H' → Wo K P G' H' → Reps K H' G' P ds vs → ds.length = n → Q ds G' → R vs H') → te σ H R
/-- what is raised, over the heap; the classes' addresses -/
structure Wx where
  w : WX
def RepX (K : PySem.W.Frag) (H : Hp) (G : Gp) (P : Addr → Prop) (x : Xd) (cls : Value) (d : Option Addr) : Prop := cls = .ref (He.ga K x.c) ∧ match x.f with
  | none => d = none
  | some (n, e) => ∃ a v, d = some a ∧ G a = none ∧ ¬ P a ∧ H a = some (.xd [(n, v)]) ∧ Rep K H G P e v
theorem RepX.step {K : PySem.W.Frag} {P : Addr → Prop} {G G' : Gp} {H H' : Hp} {x : Xd} {cls : Value} {d : Option Addr} (s : Step G H G' H') (h : RepX K H G P x cls d) : RepX K H' G' P x cls d := by
  obtain ⟨e, h⟩ := h
  refine ⟨e, ?_⟩
  split
  · rename_i q; rw [q] at h; exact h
  · rename_i n e q
    rw [q] at h
    obtain ⟨a, v, e1, g, p, e2, r⟩ := h
    exact ⟨a, v, e1, (s.keep a _ e2 g).2, p, (s.keep a _ e2 g).1, r.step s⟩
/-- what follows a statement, over the heap and over data -/
structure Co (K : PySem.W.Frag) (Y : Wx) (P : Addr → Prop) (G : Gp) (H : Hp) (N : En) (M : Ends) : Prop where
  nx : ∀ s' G' σ' H', Step G H G' H' → Rl K P s' G' σ' H' → N.nx s' G' → M.nx σ' H'
  rt : ∀ d G' v H', Step G H G' H' → Wo K P G' H' → Rep K H' G' P d v → N.rt d G' → M.rt v H'
  bk : ∀ s' G' σ' H', Step G H G' H' → Rl K P s' G' σ' H' → N.bk s' G' → M.bk σ' H'
  ct : ∀ s' G' σ' H', Step G H G' H' → Rl K P s' G' σ' H' → N.ct s' G' → M.ct σ' H'
  xr : ∀ x s' G' cls d σ' H', Step G H G' H' → Rl K P s' G' σ' H' → RepX K H' G' P x cls d → N.xr x s' G' → Y.w cls d σ' H'
theorem Co.step {K : PySem.W.Frag} {Y : Wx} {P : Addr → Prop} {G G' : Gp} {H H' : Hp} {N : En} {M : Ends} (c : Co K Y P G H N M) (st : Step G H G' H') : Co K Y P G' H' N M :=
  ⟨fun a b e d x y z => c.nx a b e d (st.trans x) y z, fun a b e d x y z w => c.rt a b e d (st.trans x) y z w, fun a b e d x y z => c.bk a b e d (st.trans x) y z, fun a b e d x y z => c.ct a b e d (st.trans x) y z, fun a b e d f g h x y z w => c.xr a b e d f g h (st.trans x) y z w⟩
def LS (K : PySem.W.Frag) (Y : Wx) (ts : TS) (t : ES) : Prop := ∀ (P : Addr → Prop) (s : Sd) (G : Gp) (N : En) (σ : St) (H : Hp) (M : Ends), t N s G → Rl K P s G σ H → Co K Y P G H N M → ts M σ H
def upE (K : PySem.W.Frag) (t : EE) : TE := fun σ H R => ∃ (P : Addr → Prop) (s : Sd) (G : Gp) (Q : DK), t s G Q ∧ Rl K P s G σ H ∧ ∀ d G' v H', Step G H G' H' → Wo K P G' H' → Rep K H' G' P d v → Q d G' → R v H'
def upT (K : PySem.W.Frag) (t : ET) : TT := fun σ H R => ∃ (P : Addr → Prop) (s : Sd) (G : Gp) (Q : Bool → Gp → Prop), t s G Q ∧ Rl K P s G σ H ∧ ∀ b G' H', Step G H G' H' → Wo K P G' H' → Q b G' → R b H'
def upA (K : PySem.W.Frag) (n : Nat) (t : EA) : TA := fun σ H R => ∃ (P : Addr → Prop) (s : Sd) (G : Gp) (Q : List D → Gp → Prop), t s G Q ∧ Rl K P s G σ H ∧ ∀ ds G' vs H', Step G H G' H' → Wo K P G' H' → Reps K H' G' P ds vs → ds.length = n → Q ds G' → R vs H'
def upS (K : PySem.W.Frag) (Y : Wx) (t : ES) : TS := fun M σ H => ∃ (P : Addr → Prop) (s : Sd) (G : Gp) (N : En), t N s G ∧ Rl K P s G σ H ∧ Co K Y P G H N M
inductive JE (X : Cx) (e : Expr) (t : EE) : Prop where
  | mk {te : TE} (a : PE X e te) (b : LE X.K te t) : JE X e t
inductive JT (X : Cx) (e : Expr) (t : ET) : Prop where
  | mk {te : TT} (a : PT X e te) (b : LT X.K te t) : JT X e t
inductive JW (X : Cx) (e : Expr) (t : ET) : Prop where
  | mk {te : TT} (a : PW X e te) (b : LT X.K te t) : JW X e t
inductive JA (X : Cx) (es : List Expr) (t : EA) : Prop where
  | mk {te : TA} (a : PA X es te) (b : LA X.K es.length te t) : JA X es t
inductive JS (X : Cx) (Y : Wx) (st : Stmt) (t : ES) : Prop where
  | mk {ts : TS} (a : PS X st ts) (b : LS X.K Y ts t) : JS X Y st t
inductive JSs (X : Cx) (Y : Wx) (st : List Stmt) (t : ES) : Prop where
  | mk {ts : TS} (a : PSs X st ts) (b : LS X.K Y ts t) : JSs X Y st t
section
variable {X : Cx} {e : Expr} {es : List Expr} {st : Stmt} {sts : List Stmt} {t : EE} {tt : ET} {ta : EA} {ts : ES}
theorem JE.pe (h : JE X e t) : PE X e (upE X.K t) := by
  obtain ⟨a, b⟩ := h
  exact ⟨fun pins s σ H Q I ⟨P, s', G, Q', h1, h2, h3⟩ => a.run pins s σ H Q I (b P s' G Q' σ H Q h1 h2 h3)⟩
theorem JE.le (h : JE X e t) : LE X.K (upE X.K t) t := fun P s G Q σ H R h1 h2 h3 => ⟨P, s, G, Q, h1, h2, h3⟩
theorem JT.pt (h : JT X e tt) : PT X e (upT X.K tt) := by
  obtain ⟨a, b⟩ := h
  exact ⟨fun pins s σ H Q I ⟨P, s', G, Q', h1, h2, h3⟩ => a.run pins s σ H Q I (b P s' G Q' σ H Q h1 h2 h3)⟩
theorem JT.lt (h : JT X e tt) : LT X.K (upT X.K tt) tt := fun P s G Q σ H R h1 h2 h3 => ⟨P, s, G, Q, h1, h2, h3⟩
theorem JW.pw (h : JW X e tt) : PW X e (upT X.K tt) := by
  obtain ⟨a, b⟩ := h
  exact ⟨fun wh pins s σ H Q I ⟨P, s', G, Q', h1, h2, h3⟩ => a.run wh pins s σ H Q I (b P s' G Q' σ H Q h1 h2 h3)⟩
theorem JW.lt (h : JW X e tt) : LT X.K (upT X.K tt) tt := fun P s G Q σ H R h1 h2 h3 => ⟨P, s, G, Q, h1, h2, h3⟩
theorem JA.pa (h : JA X es ta) : PA X es (upA X.K es.length ta) := by
  obtain ⟨a, b⟩ := h
  exact ⟨fun pos pins s σ H Q I ⟨P, s', G, Q', h1, h2, h3⟩ => a.run pos pins s σ H Q I (b P s' G Q' σ H Q h1 h2 h3)⟩
theorem JA.la (h : JA X es ta) : LA X.K es.length (upA X.K es.length ta) ta := fun P s G Q σ H R h1 h2 h3 => ⟨P, s, G, Q, h1, h2, h3⟩
theorem JS.ps {Y : Wx} (h : JS X Y st ts) : PS X st (upS X.K Y ts) := by
  obtain ⟨a, b⟩ := h
  exact ⟨fun pins s σ H M I ⟨P, s', G, N, h1, h2, h3⟩ => a.run pins s σ H M I (b P s' G N σ H M h1 h2 h3)⟩
theorem JS.ls {Y : Wx} (h : JS X Y st ts) : LS X.K Y (upS X.K Y ts) ts := fun P s G N σ H M h1 h2 h3 => ⟨P, s, G, N, h1, h2, h3⟩
theorem JSs.ps {Y : Wx} (h : JSs X Y sts ts) : PSs X sts (upS X.K Y ts) := by
  obtain ⟨a, b⟩ := h
  exact ⟨fun pins s σ H M I ⟨P, s', G, N, h1, h2, h3⟩ => a.run pins s σ H M I (b P s' G N σ H M h1 h2 h3)⟩
theorem JSs.ls {Y : Wx} (h : JSs X Y sts ts) : LS X.K Y (upS X.K Y ts) ts := fun P s G N σ H M h1 h2 h3 => ⟨P, s, G, N, h1, h2, h3⟩
end
@[simp] def eVar (i : Nat) : EE := fun s G Q => match s[i]? with
  | some (some d) => Q d G
  | _ => False
@[simp] def eC (d : D) : EE := fun _ G Q => Q d G
section
variable {X : Cx} {K : PySem.W.Frag}
theorem le_var {i : Nat} : LE K (tVar i) (eVar i) := fun P s G Q σ H R h r k => by
  unfold eVar at h
  split at h
  · rename_i d e
    obtain ⟨v, e1, e2⟩ := r.at_ i d e
    exact ⟨v, e1, k d G v H (Step.refl _ _) r.wo e2 h⟩
  · exact h.elim
theorem jv (i : Nat) {x : Str} {pos : Pos} (hN : X.N[i]? = some x := by rfl) (hv : Vis X.env.scope x := by first | exact Or.inl rfl | exact Or.inr (Or.inl rfl) | exact Or.inr (Or.inr rfl)) (hd : (x == ("__debug__" : Str)) = false := by decide)
    (hcd : (x == ("__classdict__" : Str)) = false := by decide) : JE X (.Name x pos) (eVar i) := ⟨pv i hN hv hd hcd, le_var⟩
theorem le_c {v : V} {d : D} (h : ∀ H G P, Rep K H G P d v) : LE K (tC v) (eC d) := fun P s G Q σ H R q r k => k d G v H (Step.refl _ _) r.wo (h _ _ _) q
theorem j_int {i j pos} : JE X (.Constant (.int i) j pos) (eC (.int i)) := ⟨pe_int, le_c fun _ _ _ => rep_int⟩
theorem j_bl {i j pos} : JE X (.Constant (.bool i) j pos) (eC (.bl i)) := ⟨pe_bl, le_c fun _ _ _ => rep_bl⟩
theorem j_non {j pos} : JE X (.Constant .none j pos) (eC .non) := ⟨pe_non, le_c fun _ _ _ => rep_non⟩
theorem j_str {i j pos} : JE X (.Constant (.str i) j pos) (eC (.str i)) := ⟨pe_str, le_c fun _ _ _ => rep_str⟩
/-- a module's int, text -/
theorem j_gint {x : Str} {i : Int} {pos : Pos} (hg : Gl X x) (hm : ∃ t, X.mg x = some (.int i t)) (hd : (x == ("__debug__" : Str)) = false := by decide) : JE X (.Name x pos) (eC (.int i)) :=
  let ⟨t, e⟩ := hm; ⟨pe_glob (v := .int i) hg e ⟨t, rfl⟩ hd, le_c fun _ _ _ => rep_int⟩
theorem j_ty {x : Str} {n : String} {pos : Pos} (hg : Gl X x) (hm : X.mg x = none) (hv : bootBuiltins x = some (.type n)) (hn : x ≠ "__name__" := by decide) (hd : (x == ("__debug__" : Str)) = false := by decide) : JE X (.Name x pos) (eC (.ty n)) :=
  ⟨pe_bltn (v := .ty n) hg hm hv rfl hn hd, le_c fun _ _ _ => by unfold Rep; rfl⟩
end
abbrev OD := D → D → Gp → DK → Prop
abbrev UD := D → Gp → DK → Prop
/-- an operator over the heap keeps one over data -/
def LO (K : PySem.W.Frag) (r : R2) (o : OD) : Prop := ∀ (P : Addr → Prop) (G : Gp) (H : Hp) (x y : D) (u v : V) (Q : DK) (R : VK), o x y G Q → Wo K P G H → Rep K H G P x u → Rep K H G P y v →
  (∀ d G' w H', Step G H G' H' → Wo K P G' H' → Rep K H' G' P d w → Q d G' → R w H') → r u v H R
def LU (K : PySem.W.Frag) (r : V → Hp → VK → Prop) (o : UD) : Prop := ∀ (P : Addr → Prop) (G : Gp) (H : Hp) (x : D) (u : V) (Q : DK) (R : VK), o x G Q → Wo K P G H → Rep K H G P x u →
  (∀ d G' w H', Step G H G' H' → Wo K P G' H' → Rep K H' G' P d w → Q d G' → R w H') → r u H R
@[simp] def eOp (r : OD) (ta tb : EE) : EE := fun s G Q => ta s G fun x G1 => tb s G1 fun y G2 => r x y G2 Q
@[simp] def eUn (r : UD) (ta : EE) : EE := fun s G Q => ta s G fun x G1 => r x G1 Q
section
variable {X : Cx} {K : PySem.W.Frag} {ta tb : TE} {a b : EE} {r : R2} {o : OD}
theorem le_op (lo : LO K r o) (la : LE K ta a) (lb : LE K tb b) : LE K (tOp r ta tb) (eOp o a b) := fun P s G Q σ H R h rl k => by
  refine la P s G _ σ H _ h rl fun x G1 u H1 s1 w1 r1 h1 => ?_
  refine lb P s G1 _ σ H1 _ h1 (rl.step s1 w1) fun y G2 v H2 s2 w2 r2 h2 => ?_
  exact lo P G2 H2 x y u v Q R h2 w2 (r1.step s2) r2 fun d G3 w H3 s3 w3 r3 q3 => k d G3 w H3 ((s1.trans s2).trans s3) w3 r3 q3
theorem le_un {r : V → Hp → VK → Prop} {o : UD} (lo : LU K r o) (la : LE K ta a) : LE K (tUn r ta) (eUn o a) := fun P s G Q σ H R h rl k => by
  refine la P s G _ σ H _ h rl fun x G1 u H1 s1 w1 r1 h1 => ?_
  exact lo P G1 H1 x u Q R h1 w1 r1 fun d G3 w H3 s3 w3 r3 q3 => k d G3 w H3 (s1.trans s3) w3 r3 q3
theorem LO.or {r r' : R2} {o : OD} (h : ∀ P G H x y u v Q R, o x y G Q → Wo K P G H → Rep K H G P x u → Rep K H G P y v → (∀ d G' w H', Step G H G' H' → Wo K P G' H' → Rep K H' G' P d w → Q d G' → R w H') → r u v H R ∨ r' u v H R) : LO K (fun x y H Q => r x y H Q ∨ r' x y H Q) o :=
  fun P G H x y u v Q R a b c d e => h P G H x y u v Q R a b c d e
end
/-- an index's ways: lists, tuples, the script -/
def lkL (G : Gp) : D → Option (List D)
  | .lst ds => some ds
  | .ref a => match G a with
    | some (.lst ds) => some ds
    | _ => none
  | .scr ns => some (ns.map D.int)
  | _ => none
@[simp] theorem lkL_lst {G : Gp} {ds : List D} : lkL G (.lst ds) = some ds := rfl
@[simp] theorem lkL_ref {G : Gp} {a : Addr} : lkL G (.ref a) = match G a with
    | some (.lst ds) => some ds
    | _ => none := rfl
@[simp] theorem lkL_scr {G : Gp} {ns : List Int} : lkL G (.scr ns) = some (ns.map D.int) := rfl
@[simp] theorem lkL_tup {G : Gp} {ds : List D} : lkL G (.tup ds) = none := rfl
@[simp] theorem lkL_int {G : Gp} {i : Int} : lkL G (.int i) = none := rfl
@[simp] theorem lkL_str {G : Gp} {i : Str} : lkL G (.str i) = none := rfl
@[simp] theorem lkL_non {G : Gp} : lkL G .non = none := rfl
@[simp] theorem lkL_bl {G : Gp} {b : Bool} : lkL G (.bl b) = none := rfl
@[simp] theorem lkL_dct {G : Gp} {k : List Key} {ds : List D} : lkL G (.dct k ds) = none := rfl
section
variable {K : PySem.W.Frag} {P : Addr → Prop} {G : Gp} {H : Hp}
theorem rep_i {i : Int} {v : V} (h : Rep K H G P (.int i) v) : v = .int i := by unfold Rep at h; exact h
theorem rep_b {i : Bool} {v : V} (h : Rep K H G P (.bl i) v) : v = .bl i := by unfold Rep at h; exact h
theorem rep_s {i : Str} {v : V} (h : Rep K H G P (.str i) v) : v = .str i := by unfold Rep at h; exact h
theorem rep_n {v : V} (h : Rep K H G P .non v) : v = .non := by unfold Rep at h; exact h
theorem rep_t {ds : List D} {v : V} (h : Rep K H G P (.tup ds) v) : ∃ a xs, v = .ref a ∧ G a = none ∧ ¬ P a ∧ H a = some (.tup xs) ∧ ds.length ≤ sizeLine ∧ Reps K H G P ds xs := by unfold Rep at h; exact h
theorem rep_l {ds : List D} {v : V} (h : Rep K H G P (.lst ds) v) : ∃ a xs, v = .ref a ∧ G a = none ∧ ¬ P a ∧ H a = some (.lst xs) ∧ ds.length ≤ sizeLine ∧ Reps K H G P ds xs := by unfold Rep at h; exact h
/-- what may be read as a list -/
theorem lk_sq (w : Wo K P G H) {d : D} {v : V} {ds : List D} (h : Rep K H G P d v) (e : lkL G d = some ds) : ∃ a xs, v = .ref a ∧ SqL K H a xs ∧ Reps K H G P ds xs ∧ ds.length ≤ sizeLine := by
  cases d with
  | lst es =>
    cases e
    obtain ⟨a, xs, rfl, g, p, r, z, q⟩ := rep_l h
    exact ⟨a, xs, rfl, SqL.of r, q, z⟩
  | ref a =>
    unfold Rep at h
    obtain ⟨rfl, o, ho⟩ := h
    simp only [lkL, ho] at e
    cases o with
    | lst es =>
      cases e
      obtain ⟨ho', e1, xs, rfl, z, q⟩ := w.own a _ ho
      exact ⟨a, xs, rfl, SqL.of e1, q, z⟩
    | _ => cases e
  | scr ns =>
    cases e
    unfold Rep at h
    obtain ⟨a, rfl, z, q⟩ := h
    exact ⟨a, _, rfl, q.sq, reps_of_ints, by simpa using z⟩
  | _ => cases e
/-- .. that is tracked plainly -/
theorem lk_hp (w : Wo K P G H) {d : D} {v : V} {ds : List D} (h : Rep K H G P d v) (e : lkL G d = some ds) (hs : ∀ ns, d ≠ .scr ns) : ∃ a xs, v = .ref a ∧ H a = some (.lst xs) ∧ Reps K H G P ds xs ∧ ds.length ≤ sizeLine := by
  cases d with
  | lst es =>
    cases e
    obtain ⟨a, xs, rfl, g, p, r, z, q⟩ := rep_l h
    exact ⟨a, xs, rfl, r, q, z⟩
  | ref a =>
    unfold Rep at h
    obtain ⟨rfl, o, ho⟩ := h
    simp only [lkL, ho] at e
    cases o with
    | lst es =>
      cases e
      obtain ⟨ho', e1, xs, rfl, z, q⟩ := w.own a _ ho
      exact ⟨a, xs, rfl, e1, q, z⟩
    | _ => cases e
  | scr ns => exact absurd rfl (hs ns)
  | _ => cases e
end
@[simp] def oI (C : Int → Int → Prop) (g : Int → Int → D) : OD := fun x y G Q => match x, y with
  | .int i, .int j => C i j ∧ Q (g i j) G
  | _, _ => False
@[simp] def oI0 (g : Int → Int → D) : OD := fun x y G Q => match x, y with
  | .int i, .int j => Q (g i j) G
  | _, _ => False
section
variable {K : PySem.W.Frag}
theorem lo_I {C : Int → Int → Prop} {g : Int → Int → V} {g' : Int → Int → D} (hg : ∀ i j H G P, Rep K H G P (g' i j) (g i j)) : LO K (rI C g) (oI C g') := fun P G H x y u v Q R h w rx ry k => by
  unfold oI at h
  split at h
  · rename_i i j
    rw [rep_i rx, rep_i ry]
    exact ⟨i, j, rfl, rfl, h.1, k _ G _ H (Step.refl _ _) w (hg i j H G P) h.2⟩
  · exact h.elim
theorem lo_I0 {g : Int → Int → V} {g' : Int → Int → D} (hg : ∀ i j H G P, Rep K H G P (g' i j) (g i j)) : LO K (rI0 g) (oI0 g') := fun P G H x y u v Q R h w rx ry k => by
  unfold oI0 at h
  split at h
  · rename_i i j
    rw [rep_i rx, rep_i ry]
    exact ⟨i, j, rfl, rfl, k _ G _ H (Step.refl _ _) w (hg i j H G P) h⟩
  · exact h.elim
end
/-- + : ints, texts, lists (a new one, frozen) -/
@[simp] def oAdd : OD := fun x y G Q => match x, y with
  | .int i, .int j => Q (.int (i + j)) G
  | .str i, .str j => i.length + j.length ≤ sizeLine ∧ Q (.str (i ++ j)) G
  | .scr _, _ => False
  | _, .scr _ => False
  | x, y => match lkL G x, lkL G y with
    | some ds, some es => ds.length + es.length ≤ sizeLine ∧ Q (.lst (ds ++ es)) G
    | _, _ => False
def rAddS' : R2 := fun x y H Q => ∃ i j, x = .str i ∧ y = .str j ∧ i.length + j.length ≤ sizeLine ∧ Q (.str (i ++ j)) H
def rAdd3 : R2 := fun x y H Q => (rI0 fun i j => .int (i + j)) x y H Q ∨ rAddS' x y H Q ∨ rCat x y H Q
theorem op_add3 {X : Cx} : OpR X (binaryOp .Add) rAdd3 := op_add.or (op_add_str.or op_cat)
theorem lo_add {K : PySem.W.Frag} : LO K rAdd3 oAdd := fun P G H x y u v Q R h w rx ry k => by
  have lists : ∀ ds es, lkL G x = some ds → lkL G y = some es → (∀ ns, x ≠ .scr ns) → (∀ ns, y ≠ .scr ns) → ds.length + es.length ≤ sizeLine ∧ Q (.lst (ds ++ es)) G → rAdd3 u v H R := fun ds es e1 e2 n1 n2 q => by
    obtain ⟨a, xs, rfl, r1, q1, z1⟩ := lk_hp w rx e1 n1
    obtain ⟨b, ys, rfl, r2, q2, z2⟩ := lk_hp w ry e2 n2
    refine .inr (.inr ⟨a, b, xs, ys, rfl, rfl, r1, r2, by rw [← q1.length, ← q2.length]; exact q.1, fun p hp => ?_⟩)
    have st : Step G H G (upd H p (.lst (xs ++ ys))) := Step.new hp
    obtain ⟨f1, f2⟩ := w.fresh hp
    exact k _ G _ _ st (w.new hp) (rep_lst f1 f2 upd_same (by rw [List.length_append]; exact q.1) ((q1.append q2).step st)) q.2
  unfold oAdd at h
  split at h
  · rw [rep_i rx, rep_i ry]
    exact .inl ⟨_, _, rfl, rfl, k _ G _ H (Step.refl _ _) w rep_int h⟩
  · rw [rep_s rx, rep_s ry]
    exact .inr (.inl ⟨_, _, rfl, rfl, h.1, k _ G _ H (Step.refl _ _) w rep_str h.2⟩)
  · exact h.elim
  · exact h.elim
  · have n3 : ∀ ns, x ≠ .scr ns := by assumption
    have n4 : ∀ ns, y ≠ .scr ns := by assumption
    split at h
    · rename_i ds es e1 e2
      exact lists ds es e1 e2 n3 n4 h
    · exact h.elim
@[simp] def oSub : OD := oI0 fun i j => .int (i - j)
@[simp] def oMul : OD := oI (fun i j => CMul i j) fun i j => .int (i * j)
@[simp] def oMod : OD := oI (fun _ j => 0 < j) fun i j => .int (i % j)
@[simp] def oDivW : OD := oI CDivW fun i j => .int (i / j)
@[simp] def oPow : OD := oI CPow fun i j => .int (i ^ j.toNat)
@[simp] def oLt : OD := oI0 fun i j => .bl (decide (i < j))
@[simp] def oLe : OD := oI0 fun i j => .bl (decide (i ≤ j))
@[simp] def oGt : OD := oI0 fun i j => .bl (decide (j < i))
@[simp] def oGe : OD := oI0 fun i j => .bl (decide (j ≤ i))
@[simp] def oNeg : UD := fun x G Q => match x with
  | .int i => Q (.int (-i)) G
  | _ => False
section
variable {X : Cx} {a b : Expr} {ta tb : TE} {ea eb : EE} {pos : Pos}
theorem j_bin {op : Operator} {r : R2} {o : OD} (ho : OpR X (binaryOp op) r) (lo : LO X.K r o) (ha : JE X a ea) (hb : JE X b eb) : JE X (.BinOp a op b pos) (eOp o ea eb) := ⟨pe_op ho ha.pe hb.pe, le_op lo ha.le hb.le⟩
theorem j_add (ha : JE X a ea) (hb : JE X b eb) : JE X (.BinOp a .Add b pos) (eOp oAdd ea eb) := j_bin op_add3 lo_add ha hb
theorem j_sub (ha : JE X a ea) (hb : JE X b eb) : JE X (.BinOp a .Sub b pos) (eOp oSub ea eb) := j_bin op_sub (lo_I0 fun _ _ _ _ _ => rep_int) ha hb
theorem j_mul (ha : JE X a ea) (hb : JE X b eb) : JE X (.BinOp a .Mult b pos) (eOp oMul ea eb) := j_bin op_mul (lo_I fun _ _ _ _ _ => rep_int) ha hb
theorem j_mod (ha : JE X a ea) (hb : JE X b eb) : JE X (.BinOp a .Mod b pos) (eOp oMod ea eb) := j_bin op_mod (lo_I fun _ _ _ _ _ => rep_int) ha hb
theorem j_div (ha : JE X a ea) (hb : JE X b eb) : JE X (.BinOp a .FloorDiv b pos) (eOp oDivW ea eb) := j_bin op_fdivW (lo_I fun _ _ _ _ _ => rep_int) ha hb
theorem j_pow (ha : JE X a ea) (hb : JE X b eb) : JE X (.BinOp a .Pow b pos) (eOp oPow ea eb) := j_bin op_pow (lo_I fun _ _ _ _ _ => rep_int) ha hb
theorem j_neg (ha : JE X a ea) : JE X (.UnaryOp .USub a pos) (eUn oNeg ea) := ⟨pe_un un_neg ha.pe, le_un (fun P G H x u Q R h w rx k => by
  unfold oNeg at h
  split at h
  · rw [rep_i rx]; exact ⟨_, rfl, k _ G _ H (Step.refl _ _) w rep_int h⟩
  · exact h.elim) ha.le⟩
end
end DL
set_option Elab.async false
set_option linter.all false
set_option maxRecDepth 100000
set_option maxHeartbeats 4000000
namespace DL
open PySem L2
mutual
@[simp] def toPy0 : D → Option PyData
  | .non => some .none
  | .bl b => some (.bool b)
  | .int i => some (.int i)
  | .str x => some (.str x)
  | .lst ds => (toPys0 ds).map .list
  | .tup ds => (toPys0 ds).map .tuple
  | .scr ns => some (.list (ns.map .int))
  | _ => none
@[simp] def toPys0 : List D → Option (List PyData)
  | [] => some []
  | d :: ds => match toPy0 d, toPys0 ds with
    | some a, some r => some (a :: r)
    | _, _ => none
end
mutual
@[simp] def toPy (G : Gp) : D → Option PyData
  | .non => some .none
  | .bl b => some (.bool b)
  | .int i => some (.int i)
  | .str x => some (.str x)
  | .lst ds => (toPys G ds).map .list
  | .tup ds => (toPys G ds).map .tuple
  | .scr ns => some (.list (ns.map .int))
  | .ref a => match G a with
    | some (.lst ds) => (toPys0 ds).map .list
    | _ => none
  | _ => none
@[simp] def toPys (G : Gp) : List D → Option (List PyData)
  | [] => some []
  | d :: ds => match toPy G d, toPys G ds with
    | some a, some r => some (a :: r)
    | _, _ => none
end
section
variable {K : PySem.W.Frag} {P : Addr → Prop} {G : Gp} {H : Hp}
theorem dpAll_ints : ∀ ns : List Int, DpAll K H (ns.map V.int) (ns.map PyData.int)
  | [] => .nil
  | n :: ns => .cons (.int n) (dpAll_ints ns)
theorem opt_map {α β : Type} {f : α → β} {o : Option α} {b : β} (h : o.map f = some b) : ∃ a, o = some a ∧ f a = b := by
  cases o with
  | none => cases h
  | some a => exact ⟨a, rfl, Option.some.inj h⟩
mutual
theorem dp_of0 : ∀ (d : D) {v : V} {p : PyData}, Rep K H G P d v → toPy0 d = some p → Dp K H v p
  | .non, v, p, h, e => by rw [toPy0] at e; cases e; rw [rep_n h]; exact .non
  | .bl b, v, p, h, e => by rw [toPy0] at e; cases e; rw [rep_b h]; exact .bl b
  | .int b, v, p, h, e => by rw [toPy0] at e; cases e; rw [rep_i h]; exact .int b
  | .str b, v, p, h, e => by rw [toPy0] at e; cases e; rw [rep_s h]; exact .str b
  | .lst ds, v, p, h, e => by
    rw [toPy0] at e
    obtain ⟨r, e1, rfl⟩ := opt_map e
    obtain ⟨a, xs, rfl, g, q, r1, z, q1⟩ := rep_l h
    exact .lst (SqL.of r1) (dps_of0 ds q1 e1)
  | .tup ds, v, p, h, e => by
    rw [toPy0] at e
    obtain ⟨r, e1, rfl⟩ := opt_map e
    obtain ⟨a, xs, rfl, g, q, r1, z, q1⟩ := rep_t h
    exact .tup (SqT.of r1) (dps_of0 ds q1 e1)
  | .exc a dd f x, v, p, h, e => by simp [toPy0] at e
  | .scr ns, v, p, h, e => by
    rw [toPy0] at e; cases e
    unfold Rep at h
    obtain ⟨a, rfl, z, q⟩ := h
    exact .lst q.sq (dpAll_ints ns)
  | .ty _, _, _, _, e => by rw [toPy0] at e <;> first | cases e | simp
  | .ref _, _, _, _, e => by rw [toPy0] at e <;> first | cases e | simp
  | .cl _, _, _, _, e => by rw [toPy0] at e <;> first | cases e | simp
  | .dct _ _, _, _, _, e => by rw [toPy0] at e <;> first | cases e | simp
theorem dps_of0 : ∀ (ds : List D) {vs : List V} {ps : List PyData}, Reps K H G P ds vs → toPys0 ds = some ps → DpAll K H vs ps
  | [], vs, ps, h, e => by rw [toPys0] at e; cases e; unfold Reps at h; subst h; exact .nil
  | d :: ds, vs, ps, h, e => by
    rw [toPys0] at e
    unfold Reps at h
    obtain ⟨x, r, rfl, h1, h2⟩ := h
    cases e1 : toPy0 d with
    | none => rw [e1] at e; simp at e
    | some a =>
      cases e2 : toPys0 ds with
      | none => rw [e1, e2] at e; simp at e
      | some q =>
        rw [e1, e2] at e
        cases e
        exact .cons (dp_of0 d h1 e1) (dps_of0 ds h2 e2)
end
mutual
theorem dp_of (w : Wo K P G H) : ∀ (d : D) {v : V} {p : PyData}, Rep K H G P d v → toPy G d = some p → Dp K H v p
  | .non, v, p, h, e => by rw [toPy] at e; cases e; rw [rep_n h]; exact .non
  | .bl b, v, p, h, e => by rw [toPy] at e; cases e; rw [rep_b h]; exact .bl b
  | .int b, v, p, h, e => by rw [toPy] at e; cases e; rw [rep_i h]; exact .int b
  | .str b, v, p, h, e => by rw [toPy] at e; cases e; rw [rep_s h]; exact .str b
  | .lst ds, v, p, h, e => by
    rw [toPy] at e
    obtain ⟨r, e1, rfl⟩ := opt_map e
    obtain ⟨a, xs, rfl, g, q, r1, z, q1⟩ := rep_l h
    exact .lst (SqL.of r1) (dps_of w ds q1 e1)
  | .tup ds, v, p, h, e => by
    rw [toPy] at e
    obtain ⟨r, e1, rfl⟩ := opt_map e
    obtain ⟨a, xs, rfl, g, q, r1, z, q1⟩ := rep_t h
    exact .tup (SqT.of r1) (dps_of w ds q1 e1)
  | .exc a dd f x, v, p, h, e => by simp [toPy] at e
  | .scr ns, v, p, h, e => by
    rw [toPy] at e; cases e
    unfold Rep at h
    obtain ⟨a, rfl, z, q⟩ := h
    exact .lst q.sq (dpAll_ints ns)
  | .ref a, v, p, h, e => by
    rw [toPy] at e
    unfold Rep at h
    obtain ⟨rfl, o, ho⟩ := h
    rw [ho] at e
    cases o with
    | lst ds =>
      obtain ⟨r, e1, rfl⟩ := opt_map e
      obtain ⟨ho', e2, xs, rfl, z, q⟩ := w.own a _ ho
      exact .lst (SqL.of e2) (dps_of0 ds q e1)
    | _ => cases e
  | .ty _, _, _, _, e => by rw [toPy] at e <;> first | cases e | simp
  | .cl _, _, _, _, e => by rw [toPy] at e <;> first | cases e | simp
  | .dct _ _, _, _, _, e => by rw [toPy] at e <;> first | cases e | simp
theorem dps_of (w : Wo K P G H) : ∀ (ds : List D) {vs : List V} {ps : List PyData}, Reps K H G P ds vs → toPys G ds = some ps → DpAll K H vs ps
  | [], vs, ps, h, e => by rw [toPys] at e; cases e; unfold Reps at h; subst h; exact .nil
  | d :: ds, vs, ps, h, e => by
    rw [toPys] at e
    unfold Reps at h
    obtain ⟨x, r, rfl, h1, h2⟩ := h
    cases e1 : toPy G d with
    | none => rw [e1] at e; simp at e
    | some a =>
      cases e2 : toPys G ds with
      | none => rw [e1, e2] at e; simp at e
      | some q =>
        rw [e1, e2] at e
        cases e
        exact .cons (dp_of w d h1 e1) (dps_of w ds h2 e2)
end
end
@[simp] def oEq : OD := fun x y G Q => match toPy G x, toPy G y with
  | some a, some b => SeqAt.shaped a = true ∧ SeqAt.shaped b = true ∧ Q (.bl (PyData.eqv a b)) G
  | _, _ => False
@[simp] def oNe : OD := fun x y G Q => match toPy G x, toPy G y with
  | some a, some b => SeqAt.shaped a = true ∧ SeqAt.shaped b = true ∧ Q (.bl (!PyData.eqv a b)) G
  | _, _ => False
@[simp] def oIsN : OD := fun x y G Q => match y with
  | .non => match x with
    | .non => Q (.bl true) G
    | _ => Q (.bl false) G
  | _ => False
@[simp] def oNotN : OD := fun x y G Q => match y with
  | .non => match x with
    | .non => Q (.bl false) G
    | _ => Q (.bl true) G
  | _ => False
/-- flat data -/
@[simp] def flD : D → Option V
  | .non => some .non
  | .bl b => some (.bl b)
  | .int i => some (.int i)
  | .str x => some (.str x)
  | _ => none
@[simp] def flDs : List D → Option (List V)
  | [] => some []
  | d :: ds => match flD d, flDs ds with
    | some a, some r => some (a :: r)
    | _, _ => none
/-- a list's or a tuple's items -/
def lkQ (G : Gp) : D → Option (List D)
  | .tup ds => some ds
  | d => lkL G d
@[simp] theorem lkQ_lst {G : Gp} {ds : List D} : lkQ G (.lst ds) = some ds := rfl
@[simp] theorem lkQ_tup {G : Gp} {ds : List D} : lkQ G (.tup ds) = some ds := rfl
@[simp] theorem lkQ_ref {G : Gp} {a : Addr} : lkQ G (.ref a) = lkL G (.ref a) := rfl
@[simp] theorem lkQ_scr {G : Gp} {ns : List Int} : lkQ G (.scr ns) = some (ns.map D.int) := rfl
@[simp] theorem lkQ_int {G : Gp} {i : Int} : lkQ G (.int i) = none := rfl
@[simp] theorem lkQ_str {G : Gp} {i : Str} : lkQ G (.str i) = none := rfl
@[simp] theorem lkQ_non {G : Gp} : lkQ G .non = none := rfl
@[simp] theorem lkQ_bl {G : Gp} {b : Bool} : lkQ G (.bl b) = none := rfl
@[simp] theorem lkQ_dct {G : Gp} {k : List Key} {ds : List D} : lkQ G (.dct k ds) = none := rfl
@[simp] def oIn (neg : Bool) : OD := fun x y G Q => match flD x, (lkQ G y).bind flDs with
  | some a, some r => Q (.bl (if neg then !inV a r else inV a r)) G
  | _, _ => False
/-- one sign in a text -/
@[simp] def oInS : OD := fun x y G Q => match x, y with
  | .str a, .str z => (match a.cps.toList with
    | [c] => Q (.bl (decide (c ∈ z.cps.toList))) G
    | _ => False)
  | _, _ => False
@[simp] def oNotInS : OD := fun x y G Q => match x, y with
  | .str a, .str z => (match a.cps.toList with
    | [c] => Q (.bl (!decide (c ∈ z.cps.toList))) G
    | _ => False)
  | _, _ => False
section
variable {K : PySem.W.Frag}
theorem lo_eq : LO K (rEqD K) oEq := fun P G H x y u v Q R h w rx ry k => by
  unfold oEq at h
  split at h
  · rename_i a b e1 e2
    exact ⟨a, b, dp_of w x rx e1, dp_of w y ry e2, h.1, h.2.1, k _ G _ H (Step.refl _ _) w rep_bl h.2.2⟩
  · exact h.elim
theorem lo_ne : LO K (rNeD K) oNe := fun P G H x y u v Q R h w rx ry k => by
  unfold oNe at h
  split at h
  · rename_i a b e1 e2
    exact ⟨a, b, dp_of w x rx e1, dp_of w y ry e2, h.1, h.2.1, k _ G _ H (Step.refl _ _) w rep_bl h.2.2⟩
  · exact h.elim
def rIsN' : R2 := fun x y H Q => y = .non ∧ Q (.bl (decide (x = .non))) H
def rNotN' : R2 := fun x y H Q => y = .non ∧ Q (.bl (!decide (x = .non))) H
theorem rep_nn {P : Addr → Prop} {G : Gp} {H : Hp} {d : D} {v : V} (h : Rep K H G P d v) (n : d ≠ .non) : v ≠ .non := by
  intro e; subst e
  cases d with
  | non => exact n rfl
  | bl b => cases rep_b h
  | int b => cases rep_i h
  | str b => cases rep_s h
  | ty _ => unfold Rep at h; cases h
  | cl _ => unfold Rep at h; cases h
  | exc _ _ _ _ => unfold Rep at h; cases h.1
  | ref _ => unfold Rep at h; cases h.1
  | lst _ => obtain ⟨_, _, e, _⟩ := rep_l h; cases e
  | tup _ => obtain ⟨_, _, e, _⟩ := rep_t h; cases e
  | dct _ _ => unfold Rep at h; obtain ⟨_, _, e, _⟩ := h; cases e
  | scr _ => unfold Rep at h; obtain ⟨_, e, _⟩ := h; cases e
theorem lo_isN : LO K rIsN' oIsN := fun P G H x y u v Q R h w rx ry k => by
  unfold oIsN at h
  split at h
  · refine ⟨rep_n ry, ?_⟩
    split at h
    · rw [rep_n rx]; exact k _ G _ H (Step.refl _ _) w rep_bl h
    · rename_i n
      have e : decide (u = .non) = false := decide_eq_false (rep_nn rx n)
      rw [e]; exact k _ G _ H (Step.refl _ _) w rep_bl h
  · exact h.elim
theorem lo_notN : LO K rNotN' oNotN := fun P G H x y u v Q R h w rx ry k => by
  unfold oNotN at h
  split at h
  · refine ⟨rep_n ry, ?_⟩
    split at h
    · rw [rep_n rx]; exact k _ G _ H (Step.refl _ _) w rep_bl h
    · rename_i n
      have e : decide (u = .non) = false := decide_eq_false (rep_nn rx n)
      rw [e]; exact k _ G _ H (Step.refl _ _) w rep_bl h
  · exact h.elim
theorem rep_fl {P : Addr → Prop} {G : Gp} {H : Hp} {d : D} {v a : V} (h : Rep K H G P d v) (e : flD d = some a) : v = a ∧ flatV a = true := by
  cases d with
  | non => cases e; exact ⟨rep_n h, rfl⟩
  | bl b => cases e; exact ⟨rep_b h, rfl⟩
  | int b => cases e; exact ⟨rep_i h, rfl⟩
  | str b => cases e; exact ⟨rep_s h, rfl⟩
  | _ => cases e
theorem reps_fl {P : Addr → Prop} {G : Gp} {H : Hp} : ∀ {ds : List D} {vs r : List V}, Reps K H G P ds vs → flDs ds = some r → vs = r ∧ r.all flatV = true
  | [], vs, r, h, e => by cases e; unfold Reps at h; exact ⟨h, rfl⟩
  | d :: ds, vs, r, h, e => by
    unfold Reps at h
    obtain ⟨x, xs, rfl, h1, h2⟩ := h
    rw [flDs] at e
    cases e1 : flD d with
    | none => rw [e1] at e; simp at e
    | some a =>
      cases e2 : flDs ds with
      | none => rw [e1, e2] at e; simp at e
      | some q =>
        rw [e1, e2] at e
        cases e
        obtain ⟨rfl, f1⟩ := rep_fl h1 e1
        obtain ⟨rfl, f2⟩ := reps_fl h2 e2
        exact ⟨rfl, by rw [List.all_cons, f1, f2]; rfl⟩
/-- what may be read as a list or a tuple -/
theorem lkQ_sq {P : Addr → Prop} {G : Gp} {H : Hp} (w : Wo K P G H) {d : D} {v : V} {ds : List D} (h : Rep K H G P d v) (e : lkQ G d = some ds) : ∃ a xs, v = .ref a ∧ (SqL K H a xs ∨ SqT K H a xs) ∧ Reps K H G P ds xs ∧ ds.length ≤ sizeLine := by
  by_cases t : ∃ es, d = .tup es
  · obtain ⟨es, rfl⟩ := t
    cases e
    obtain ⟨a, xs, rfl, g, q, r1, z, q1⟩ := rep_t h
    exact ⟨a, xs, rfl, .inr (SqT.of r1), q1, z⟩
  · have e' : lkL G d = some ds := by
      cases d with
      | tup es => exact absurd ⟨es, rfl⟩ t
      | _ => exact e
    obtain ⟨a, xs, rfl, r, q, z⟩ := lk_sq w h e'
    exact ⟨a, xs, rfl, .inl r, q, z⟩
theorem lo_in {neg : Bool} : LO K (rIn K neg) (oIn neg) := fun P G H x y u v Q R h w rx ry k => by
  unfold oIn at h
  split at h
  · rename_i a r e1 e2
    obtain ⟨rfl, f1⟩ := rep_fl rx e1
    cases e3 : lkQ G y with
    | none => rw [e3] at e2; cases e2
    | some ds =>
      rw [e3] at e2
      obtain ⟨b, xs, rfl, s, q, z⟩ := lkQ_sq w ry e3
      obtain ⟨rfl, f2⟩ := reps_fl q e2
      exact ⟨b, _, rfl, s, f1, f2, k _ G _ H (Step.refl _ _) w rep_bl h⟩
  · exact h.elim
end
@[simp] def eT (t : EE) : ET := fun s G Q => t s G fun x G1 => match x with
  | .bl b => Q b G1
  | _ => False
theorem lt_test {K : PySem.W.Frag} {te : TE} {t : EE} (h : LE K te t) : LT K (tTest te) (eT t) := fun P s G Q σ H R q r k => by
  refine h P s G _ σ H _ q r fun d G' v H' st w rp q' => ?_
  cases d with
  | bl b => rw [rep_b rp]; exact ⟨b, rfl, k b G' H' st w q'⟩
  | _ => exact q'.elim
/-- a op b op' c -/
@[simp] def eChain (r r' : OD) (ta tb tc : EE) : EE := fun s G Q => ta s G fun x G1 => tb s G1 fun y G2 => r x y G2 fun z G3 => match z with
  | .bl k => if k = true then tc s G3 fun w G4 => r' y w G4 Q else Q (.bl false) G3
  | _ => False
theorem le_chain {K : PySem.W.Frag} {r r' : R2} {o o' : OD} {ta tb tc : TE} {a b c : EE} (lo : LO K r o) (lo' : LO K r' o') (la : LE K ta a) (lb : LE K tb b) (lc : LE K tc c) : LE K (tChain r r' ta tb tc) (eChain o o' a b c) := fun P s G Q σ H R h rl k => by
  refine la P s G _ σ H _ h rl fun x G1 u H1 s1 w1 r1 h1 => ?_
  refine lb P s G1 _ σ H1 _ h1 (rl.step s1 w1) fun y G2 v H2 s2 w2 r2 h2 => ?_
  refine lo P G2 H2 x y u v _ _ h2 w2 (r1.step s2) r2 fun z G3 vz H3 s3 w3 r3 h3 => ?_
  cases z with
  | bl bz =>
    rw [rep_b r3]
    refine ⟨bz, rfl, ?_⟩
    cases bz with
    | true =>
      refine lc P s G3 _ σ H3 _ h3 (rl.step ((s1.trans s2).trans s3) w3) fun z G4 vz H4 s4 w4 r4 h4 => ?_
      exact lo' P G4 H4 y z v vz Q R h4 w4 ((r2.step s3).step s4) r4 fun d G5 w H5 s5 w5 r5 q5 => k d G5 w H5 ((((s1.trans s2).trans s3).trans s4).trans s5) w5 r5 q5
    | false =>
      exact k _ G3 _ H3 ((s1.trans s2).trans s3) w3 rep_bl h3
  | _ => exact h3.elim
section
variable {X : Cx} {a b c : Expr} {ta tb tc : TE} {ea eb ec : EE} {pos : Pos}
theorem j_cmp {op : CmpOp} {r : R2} {o : OD} (ho : OpR X (compareOp op) r) (lo : LO X.K r o) (ha : JE X a ea) (hb : JE X b eb) (hm : behindInMarks op b = false) : JE X (.Compare a [op] [b] pos) (eOp o ea eb) := ⟨pe_cmpR ho ha.pe hb.pe hm, le_op lo ha.le hb.le⟩
theorem jt_cmp {op : CmpOp} {r : R2} {o : OD} (ho : OpR X (compareOp op) r) (lo : LO X.K r o) (ha : JE X a ea) (hb : JE X b eb) (hm : behindInMarks op b = false) : JT X (.Compare a [op] [b] pos) (eT (eOp o ea eb)) := ⟨pt_cmpR ho ha.pe hb.pe hm, lt_test (le_op lo ha.le hb.le)⟩
theorem j_chain {op op' : CmpOp} {r r' : R2} {o o' : OD} (ho : OpR X (compareOp op) r) (lo : LO X.K r o) (ho' : OpR X (compareOp op') r') (lo' : LO X.K r' o') (ha : JE X a ea) (hb : JE X b eb) (hc : JE X c ec)
    (hm : lastMarks [op, op'] [b, c] = false := by with_unfolding_all rfl) : JE X (.Compare a [op, op'] [b, c] pos) (eChain o o' ea eb ec) := ⟨pe_chain ho ho' ha.pe hb.pe hc.pe hm, le_chain lo lo' ha.le hb.le hc.le⟩
theorem jt_chain {op op' : CmpOp} {r r' : R2} {o o' : OD} (ho : OpR X (compareOp op) r) (lo : LO X.K r o) (ho' : OpR X (compareOp op') r') (lo' : LO X.K r' o') (ha : JE X a ea) (hb : JE X b eb) (hc : JE X c ec)
    (hm : lastMarks [op, op'] [b, c] = false := by with_unfolding_all rfl) : JT X (.Compare a [op, op'] [b, c] pos) (eT (eChain o o' ea eb ec)) := ⟨pt_chain ho ho' ha.pe hb.pe hc.pe hm, lt_test (le_chain lo lo' ha.le hb.le hc.le)⟩
theorem lo_lt {K : PySem.W.Frag} : LO K (rI0 fun i j => .bl (decide (i < j))) oLt := lo_I0 fun _ _ _ _ _ => rep_bl
theorem lo_le {K : PySem.W.Frag} : LO K (rI0 fun i j => .bl (decide (i ≤ j))) oLe := lo_I0 fun _ _ _ _ _ => rep_bl
theorem lo_gt {K : PySem.W.Frag} : LO K (rI0 fun i j => .bl (decide (j < i))) oGt := lo_I0 fun _ _ _ _ _ => rep_bl
theorem lo_ge {K : PySem.W.Frag} : LO K (rI0 fun i j => .bl (decide (j ≤ i))) oGe := lo_I0 fun _ _ _ _ _ => rep_bl
end
def truD (G : Gp) : D → Option Bool
  | .non => some false
  | .bl b => some b
  | .int i => some (i != 0)
  | .str y => if y.length ≤ sizeLine then some ((y.length : Int) != 0) else none
  | .tup ds => some (!ds.isEmpty)
  | .lst ds => some (!ds.isEmpty)
  | .ref a => match G a with
    | some (.lst ds) => some (!ds.isEmpty)
    | some (.dct ks _) => some (!ks.isEmpty)
    | _ => none
  | .dct ks _ => some (!ks.isEmpty)
  | _ => none
@[simp] theorem truD_non {G : Gp} : truD G .non = some false := rfl
@[simp] theorem truD_bl {G : Gp} {b : Bool} : truD G (.bl b) = some b := rfl
@[simp] theorem truD_int {G : Gp} {i : Int} : truD G (.int i) = some (i != 0) := rfl
@[simp] theorem truD_str {G : Gp} {y : Str} : truD G (.str y) = if y.length ≤ sizeLine then some ((y.length : Int) != 0) else none := rfl
@[simp] theorem truD_tup {G : Gp} {ds : List D} : truD G (.tup ds) = some (!ds.isEmpty) := rfl
@[simp] theorem truD_lst {G : Gp} {ds : List D} : truD G (.lst ds) = some (!ds.isEmpty) := rfl
@[simp] theorem truD_dct {G : Gp} {ks : List Key} {ds : List D} : truD G (.dct ks ds) = some (!ks.isEmpty) := rfl
@[simp] theorem truD_ref {G : Gp} {a : Addr} : truD G (.ref a) = match G a with
    | some (.lst ds) => some (!ds.isEmpty)
    | some (.dct ks _) => some (!ks.isEmpty)
    | _ => none := rfl
theorem reps_empty {K : PySem.W.Frag} {P : Addr → Prop} {G : Gp} {H : Hp} {ds : List D} {xs : List V} (h : Reps K H G P ds xs) : (!ds.isEmpty) = !xs.isEmpty := by
  have l := h.length
  cases ds <;> cases xs <;> first | rfl | simp at l
theorem zip_empty {ks : List Key} {xs : List V} {n : Nat} (h : ks.length = n) (h2 : n = xs.length) : (!ks.isEmpty) = !(ks.zip xs).isEmpty := by
  cases ks <;> cases xs <;> first | rfl | (simp at h h2; omega)
theorem tru_of {K : PySem.W.Frag} {P : Addr → Prop} {G : Gp} {H : Hp} (w : Wo K P G H) {d : D} {v : V} {b : Bool} (h : Rep K H G P d v) (e : truD G d = some b) : TruV K v H b := by
  cases d with
  | non => cases e; rw [rep_n h]; rfl
  | bl c => cases e; rw [rep_b h]; rfl
  | int c => cases e; rw [rep_i h]; rfl
  | str c =>
    rw [rep_s h]
    simp only [truD] at e
    split at e
    · cases e; rename_i z; exact ⟨z, rfl⟩
    · cases e
  | tup ds =>
    cases e
    obtain ⟨a, xs, rfl, g, q, r1, z, q1⟩ := rep_t h
    exact .inr (.inl ⟨xs, SqT.of r1, reps_empty q1⟩)
  | lst ds =>
    cases e
    obtain ⟨a, xs, rfl, g, q, r1, z, q1⟩ := rep_l h
    exact .inl ⟨xs, SqL.of r1, reps_empty q1⟩
  | ref a =>
    unfold Rep at h
    obtain ⟨rfl, o, ho⟩ := h
    simp only [truD, ho] at e
    obtain ⟨u, e1, r⟩ := w.own a o ho
    cases o with
    | lst ds => cases e; obtain ⟨xs, rfl, z, q⟩ := r; exact .inl ⟨xs, SqL.of e1, reps_empty q⟩
    | dct ks ds => cases e; obtain ⟨xs, rfl, z, q⟩ := r; exact .inr (.inr ⟨_, e1, zip_empty z q.length⟩)
    | _ => cases e
  | dct ks ds =>
    cases e
    unfold Rep at h
    obtain ⟨a, xs, rfl, g, p, r, z, q⟩ := h
    exact .inr (.inr ⟨_, r, zip_empty z q.length⟩)
  | _ => cases e
@[simp] def eTru (t : EE) : ET := fun s G Q => t s G fun x G1 => match truD G1 x with
  | some b => Q b G1
  | none => False
@[simp] def eAndT (ta tb : EE) : EE := fun s G Q => ta s G fun x G1 => match truD G1 x with
  | some k => if k = true then tb s G1 Q else Q x G1
  | none => False
@[simp] def eOrT (ta tb : EE) : EE := fun s G Q => ta s G fun x G1 => match truD G1 x with
  | some k => if k = true then Q x G1 else tb s G1 Q
  | none => False
@[simp] def eNotT (ta : EE) : EE := fun s G Q => ta s G fun x G1 => match truD G1 x with
  | some k => Q (.bl (!k)) G1
  | none => False
@[simp] def eAnd (t u : ET) : ET := fun s G Q => t s G fun c G1 => if c = true then u s G1 Q else Q false G1
@[simp] def eOr (t u : ET) : ET := fun s G Q => t s G fun c G1 => if c = true then Q true G1 else u s G1 Q
@[simp] def eNot (t : ET) : ET := fun s G Q => t s G fun c G1 => Q (!c) G1
@[simp] def eIf (t : ET) (ta tb : EE) : EE := fun s G Q => t s G fun c G1 => if c = true then ta s G1 Q else tb s G1 Q
section
variable {K : PySem.W.Frag} {te tu : TE} {a b : EE} {tt tv : TT} {t u : ET}
theorem lt_tru (h : LE K te a) : LT K (fun σ H Q => te σ H fun x H' => ∃ k, TruV K x H' k ∧ Q k H') (eTru a) := fun P s G Q σ H R q r k => by
  refine h P s G _ σ H _ q r fun d G' v H' st w rp q' => ?_
  cases e : truD G' d with
  | none => rw [e] at q'; exact q'.elim
  | some b => rw [e] at q'; exact ⟨b, tru_of w rp e, k b G' H' st w q'⟩
theorem le_andT (ha : LE K te a) (hb : LE K tu b) : LE K (tAndT K te tu) (eAndT a b) := fun P s G Q σ H R q r k => by
  refine ha P s G _ σ H _ q r fun d G' v H' st w rp q' => ?_
  cases e : truD G' d with
  | none => rw [e] at q'; exact q'.elim
  | some c =>
    rw [e] at q'
    refine ⟨c, tru_of w rp e, ?_⟩
    cases c with
    | true => exact hb P s G' Q σ H' R q' (r.step st w) fun d G2 v H2 s2 w2 r2 q2 => k d G2 v H2 (st.trans s2) w2 r2 q2
    | false => exact k d G' v H' st w rp q'
theorem le_notT (ha : LE K te a) : LE K (tNotT K te) (eNotT a) := fun P s G Q σ H R q r k => by
  refine ha P s G _ σ H _ q r fun d G' v H' st w rp q' => ?_
  cases e : truD G' d with
  | none => rw [e] at q'; exact q'.elim
  | some c => rw [e] at q'; exact ⟨c, tru_of w rp e, k _ G' _ H' st w rep_bl q'⟩
theorem lt_and (ha : LT K tt t) (hb : LT K tv u) : LT K (tAnd tt tv) (eAnd t u) := fun P s G Q σ H R q r k => by
  refine ha P s G _ σ H _ q r fun c G' H' st w q' => ?_
  cases c with
  | true => exact hb P s G' Q σ H' R q' (r.step st w) fun b G2 H2 s2 w2 q2 => k b G2 H2 (st.trans s2) w2 q2
  | false => exact k false G' H' st w q'
theorem lt_or (ha : LT K tt t) (hb : LT K tv u) : LT K (tOr tt tv) (eOr t u) := fun P s G Q σ H R q r k => by
  refine ha P s G _ σ H _ q r fun c G' H' st w q' => ?_
  cases c with
  | false => exact hb P s G' Q σ H' R q' (r.step st w) fun b G2 H2 s2 w2 q2 => k b G2 H2 (st.trans s2) w2 q2
  | true => exact k true G' H' st w q'
theorem lt_not (ha : LT K tt t) : LT K (tNot tt) (eNot t) := fun P s G Q σ H R q r k => ha P s G _ σ H _ q r fun c G' H' st w q' => k _ G' H' st w q'
end
section
variable {X : Cx} {a b c : Expr} {rest : List Expr} {ta tb : TE} {ea eb : EE} {tt tv : TT} {et eu : ET} {pos : Pos}
theorem jt_tru (ha : JE X a ea) (he : ∀ whole, isTrue a X.env whole = (do let v ← whole; standAt a.pos; holding [v] (truthy v)) := by intro _; rfl) : JT X a (eTru ea) := ⟨pt_truth ha.pe he, lt_tru ha.le⟩
theorem JW.jt (h : JW X a et) : JT X a et := ⟨h.pw.pt, h.lt⟩
theorem jw_and1 (ha : JT X a et) : JW X (.BoolOp .And [a] pos) et := ⟨pw_and1 ha.pt, ha.lt⟩
theorem jw_or1 (ha : JT X a et) : JW X (.BoolOp .Or [a] pos) et := ⟨pw_or1 ha.pt, ha.lt⟩
theorem jw_and (ha : JT X a et) (hb : JW X (.BoolOp .And (b :: rest) pos) eu) : JW X (.BoolOp .And (a :: b :: rest) pos) (eAnd et eu) := ⟨pw_and ha.pt hb.pw, lt_and ha.lt hb.lt⟩
theorem jw_or (ha : JT X a et) (hb : JW X (.BoolOp .Or (b :: rest) pos) eu) : JW X (.BoolOp .Or (a :: b :: rest) pos) (eOr et eu) := ⟨pw_or ha.pt hb.pw, lt_or ha.lt hb.lt⟩
theorem jt_not (ha : JT X a et) : JT X (.UnaryOp .Not a pos) (eNot et) := ⟨pt_not ha.pt, lt_not ha.lt⟩
theorem j_one {op} (h : JE X a ea) : JE X (.BoolOp op [a] pos) ea := ⟨pe_one h.pe, h.le⟩
theorem j_and (ha : JE X a ea) (hb : JE X (.BoolOp .And (b :: rest) pos) eb) : JE X (.BoolOp .And (a :: b :: rest) pos) (eAndT ea eb) := ⟨pe_andT ha.pe hb.pe, le_andT ha.le hb.le⟩
theorem j_not (ha : JE X a ea) : JE X (.UnaryOp .Not a pos) (eNotT ea) := ⟨pe_notT ha.pe, le_notT ha.le⟩
end
end DL
set_option Elab.async false
set_option linter.all false
set_option maxRecDepth 100000
set_option maxHeartbeats 4000000
namespace DL
open PySem L2
@[simp] def oIx : OD := fun x y G Q => match y with
  | .int i => (match x with
    | .str z => z.length ≤ sizeLine ∧ (match atI z.cps.toList i with
      | some c => Q (.str ⟨#[c]⟩) G
      | none => False)
    | x => (match lkQ G x with
      | some ds => (match atI ds i with
        | some d => Q d G
        | none => False)
      | none => False))
  | _ => False
section
variable {K : PySem.W.Frag} {P : Addr → Prop} {G : Gp} {H : Hp}
theorem reps_at {ds : List D} {xs : List V} {i : Int} {d : D} (q : Reps K H G P ds xs) (h : atI ds i = some d) : ∃ v, atI xs i = some v ∧ Rep K H G P d v := by
  unfold atI at h ⊢
  rw [← q.length]
  cases e : ixN ds.length i with
  | none => rw [e] at h; cases h
  | some j =>
    rw [e] at h
    obtain ⟨v, e1, e2⟩ := q.get (show ds[j]? = some d from h)
    exact ⟨v, e1, e2⟩
theorem lo_ix : LO K (rIx K) oIx := fun P G H x y u v Q R h w rx ry k => by
  unfold oIx at h
  split at h
  · rename_i i
    rw [rep_i ry]
    split at h
    · rename_i z
      rw [rep_s rx]
      obtain ⟨hz, h⟩ := h
      split at h
      · rename_i c e
        exact .inr (.inr ⟨z, i, c, rfl, rfl, hz, e, k _ G _ H (Step.refl _ _) w rep_str h⟩)
      · exact h.elim
    · split at h
      · rename_i ds e
        split at h
        · rename_i d e2
          obtain ⟨a, xs, rfl, s, q, z⟩ := lkQ_sq w rx e
          obtain ⟨v', e3, r3⟩ := reps_at q e2
          have q' := k _ G _ H (Step.refl _ _) w r3 h
          rcases s with s | s
          · exact .inl ⟨a, xs, i, v', rfl, rfl, s, e3, q'⟩
          · exact .inr (.inl ⟨a, xs, i, v', rfl, rfl, s, e3, q'⟩)
        · exact h.elim
      · exact h.elim
  · exact h.elim
end
abbrev EO := Sd → Gp → (Option Int → Gp → Prop) → Prop
def LPo (K : PySem.W.Frag) (te : TO) (t : EO) : Prop := ∀ (P : Addr → Prop) (s : Sd) (G : Gp) (Q : Option Int → Gp → Prop) (σ : St) (H : Hp) (R : Option Int → Hp → Prop), t s G Q → Rl K P s G σ H →
  (∀ b G' H', Step G H G' H' → Wo K P G' H' → Q b G' → R b H') → te σ H R
def upO (K : PySem.W.Frag) (t : EO) : TO := fun σ H R => ∃ (P : Addr → Prop) (s : Sd) (G : Gp) (Q : Option Int → Gp → Prop), t s G Q ∧ Rl K P s G σ H ∧ ∀ b G' H', Step G H G' H' → Wo K P G' H' → Q b G' → R b H'
inductive JO (X : Cx) (e : Option Expr) (t : EO) : Prop where
  | mk {te : TO} (a : PO X e te) (b : LPo X.K te t) : JO X e t
theorem JO.po {X : Cx} {e : Option Expr} {t : EO} (h : JO X e t) : PO X e (upO X.K t) := by
  obtain ⟨a, b⟩ := h
  exact ⟨fun pins s σ H Q I ⟨P, s', G, Q', h1, h2, h3⟩ => a.run pins s σ H Q I (b P s' G Q' σ H Q h1 h2 h3)⟩
theorem JO.lp {X : Cx} {e : Option Expr} {t : EO} (h : JO X e t) : LPo X.K (upO X.K t) t := fun P s G Q σ H R h1 h2 h3 => ⟨P, s, G, Q, h1, h2, h3⟩
@[simp] def eNoPart : EO := fun _ G Q => Q none G
@[simp] def ePart (t : EE) : EO := fun s G Q => t s G fun x G1 => match x with
  | .int i => Q (some i) G1
  | _ => False
def cutD (xs : List D) (lo hi : Option Int) : List D := (xs.drop (HT.sIx xs.length 0 lo)).take (HT.sIx xs.length xs.length hi - HT.sIx xs.length 0 lo)
theorem cut_reps {K : PySem.W.Frag} {P : Addr → Prop} {G : Gp} {H : Hp} {ds : List D} {xs : List V} {lo hi : Option Int} (q : Reps K H G P ds xs) : Reps K H G P (cutD ds lo hi) (cutV xs lo hi) := by
  unfold cutD cutV
  rw [q.length]
  exact (q.drop _).take _
theorem cutD_length (xs : List D) (lo hi : Option Int) : (cutD xs lo hi).length ≤ xs.length := by
  unfold cutD; rw [List.length_take, List.length_drop]; omega
section
variable {X : Cx} {K : PySem.W.Frag}
theorem jo_none : JO X none eNoPart := ⟨po_none, fun P s G Q σ H R h r k => k _ G H (Step.refl _ _) r.wo h⟩
theorem jo_some {e : Expr} {t : EE} (h : JE X e t) : JO X (some e) (ePart t) := ⟨po_some h.pe, fun P s G Q σ H R q r k => by
  refine h.le P s G _ σ H _ q r fun d G' v H' st w rp q' => ?_
  cases d with
  | int i => rw [rep_i rp]; exact ⟨i, rfl, k _ G' H' st w q'⟩
  | _ => exact q'.elim⟩
/-- a list's slice -/
@[simp] def eSlL (te : EE) (tl th : EO) : EE := fun s G Q => te s G fun x G1 => tl s G1 fun l G2 => th s G2 fun u G3 => match lkL G3 x with
  | some ds => Q (.lst (cutD ds l u)) G3
  | none => False
/-- a tuple's slice that is not the whole -/
@[simp] def eSlT (te : EE) (tl th : EO) : EE := fun s G Q => te s G fun x G1 => tl s G1 fun l G2 => th s G2 fun u G3 => match x with
  | .tup ds => ¬ (HT.sIx ds.length 0 l = 0 ∧ HT.sIx ds.length ds.length u = ds.length) ∧ Q (.tup (cutD ds l u)) G3
  | _ => False
theorem j_slT {e : Expr} {lo hi : Option Expr} {t : EE} {el eh : EO} {pos p2 : Pos} (he : JE X e t) (hl : JO X lo el) (hu : JO X hi eh) : JE X (.Subscript e (.Slice lo hi none p2) pos) (eSlT t el eh) :=
  ⟨pe_slice sl_tup he.pe hl.po hu.po, fun P s G Q σ H R h r k => by
    refine he.le P s G _ σ H _ h r fun x G1 u H1 s1 w1 r1 h1 => ?_
    refine hl.lp P s G1 _ σ H1 _ h1 (r.step s1 w1) fun l G2 H2 s2 w2 h2 => ?_
    refine hu.lp P s G2 _ σ H2 _ h2 (r.step (s1.trans s2) w2) fun m G3 H3 s3 w3 h3 => ?_
    have r3 := (r1.step s2).step s3
    cases x with
    | tup ds =>
      obtain ⟨a, xs, rfl, g, p, rr, z, q⟩ := rep_t r3
      refine ⟨a, xs, rfl, SqT.of rr, by rw [← q.length]; exact h3.1, fun p hp => ?_⟩
      obtain ⟨f1, f2⟩ := w3.fresh hp
      have st : Step G3 H3 G3 (upd H3 p (.tup (cutV xs l m))) := Step.new hp
      exact k _ G3 _ _ (((s1.trans s2).trans s3).trans st) (w3.new hp) (rep_tup f1 f2 upd_same (Nat.le_trans (cutD_length _ _ _) z) ((cut_reps q).step st)) h3.2
    | _ => exact h3.elim⟩
theorem j_ix {a b : Expr} {ea eb : EE} {pos : Pos} (ha : JE X a ea) (hb : JE X b eb) (hs : PlainIx b := by intro _ _; rfl) : JE X (.Subscript a b pos) (eOp oIx ea eb) := ⟨pe_ix ix_seq ha.pe hb.pe hs, le_op lo_ix ha.le hb.le⟩
@[simp] def eNil : EA := fun _ G Q => Q [] G
@[simp] def eCons (ta : EE) (tr : EA) : EA := fun s G Q => ta s G fun x G1 => tr s G1 fun xs G2 => Q (x :: xs) G2
theorem la_nil : LA K 0 tNil eNil := fun P s G Q σ H R h r k => k [] G [] H (Step.refl _ _) r.wo reps_nil rfl h
theorem la_cons {n : Nat} {ta : TE} {tr : TA} {ea : EE} {er : EA} (ha : LE K ta ea) (hr : LA K n tr er) : LA K (n + 1) (tCons ta tr) (eCons ea er) := fun P s G Q σ H R h r k => by
  refine ha P s G _ σ H _ h r fun x G1 u H1 s1 w1 r1 h1 => ?_
  exact hr P s G1 _ σ H1 _ h1 (r.step s1 w1) fun xs G2 us H2 s2 w2 r2 l2 h2 => k _ G2 _ H2 (s1.trans s2) w2 (reps_cons (r1.step s2) r2) (by rw [List.length_cons, l2]) h2
theorem ja_nil : JA X [] eNil := ⟨pa_nil, la_nil⟩
theorem ja_cons {e : Expr} {es : List Expr} {ee : EE} {ea : EA} (ha : JE X e ee) (hr : JA X es ea) (hs : starEach (e :: es) X.env = (false, eval e X.env) :: starEach es X.env := by rfl) : JA X (e :: es) (eCons ee ea) := ⟨pa_cons ha.pe hr.pa hs, la_cons ha.le hr.la⟩
/-- a tuple; a list, frozen; a list, owned -/
@[simp] def eTup (t : EA) : EE := fun s G Q => t s G fun xs G1 => xs.length ≤ sizeLine ∧ Q (.tup xs) G1
@[simp] def eLst (t : EA) : EE := fun s G Q => t s G fun xs G1 => xs.length ≤ sizeLine ∧ Q (.lst xs) G1
@[simp] def eLstO (t : EA) : EE := fun s G Q => t s G fun xs G1 => xs.length ≤ sizeLine ∧ ∀ p, G1 p = none → Q (.ref p) (gput G1 p (.lst xs))
theorem j_tup {es : List Expr} {ea : EA} {x1 : Nat} {pos : Pos} (h : JA X es ea) : JE X (.Tuple es x1 pos) (eTup ea) := ⟨pe_tup h.pa, fun P s G Q σ H R q r k => by
  refine h.la P s G _ σ H _ q r fun xs G1 us H1 s1 w1 r1 _ h1 => ?_
  refine ⟨by rw [← r1.length]; exact h1.1, fun p hp => ?_⟩
  obtain ⟨f1, f2⟩ := w1.fresh hp
  have st : Step G1 H1 G1 (upd H1 p (.tup us)) := Step.new hp
  exact k _ G1 _ _ (s1.trans st) (w1.new hp) (rep_tup f1 f2 upd_same h1.1 (r1.step st)) h1.2⟩
theorem j_lst {es : List Expr} {ea : EA} {pos : Pos} (h : JA X es ea) : JE X (.List es pos) (eLst ea) := ⟨pe_lst h.pa, fun P s G Q σ H R q r k => by
  refine h.la P s G _ σ H _ q r fun xs G1 us H1 s1 w1 r1 _ h1 => ?_
  refine ⟨by rw [← r1.length]; exact h1.1, fun p hp => ?_⟩
  obtain ⟨f1, f2⟩ := w1.fresh hp
  have st : Step G1 H1 G1 (upd H1 p (.lst us)) := Step.new hp
  exact k _ G1 _ _ (s1.trans st) (w1.new hp) (rep_lst f1 f2 upd_same h1.1 (r1.step st)) h1.2⟩
/-- a new owned list -/
theorem own_lst {P : Addr → Prop} {G : Gp} {H : Hp} {ds : List D} {xs : List V} {p : Addr} (w : Wo K P G H) (hp : H p = none) (q : Reps K H G P ds xs) (z : ds.length ≤ sizeLine) : Step G H (gput G p (.lst ds)) (upd H p (.lst xs)) ∧ Wo K P (gput G p (.lst ds)) (upd H p (.lst xs)) ∧ Rep K (upd H p (.lst xs)) (gput G p (.lst ds)) P (.ref p) (.ref p) := by
  have st : Step G H (gput G p (.lst ds)) (upd H p (.lst xs)) := Step.newOwn w hp
  refine ⟨st, w.newOwn hp ⟨xs, rfl, z, q.step st⟩, ?_⟩
  unfold Rep
  exact ⟨rfl, _, gput_same⟩
theorem j_lstO {es : List Expr} {ea : EA} {pos : Pos} (h : JA X es ea) : JE X (.List es pos) (eLstO ea) := ⟨pe_lst h.pa, fun P s G Q σ H R q r k => by
  refine h.la P s G _ σ H _ q r fun xs G1 us H1 s1 w1 r1 _ h1 => ?_
  refine ⟨by rw [← r1.length]; exact h1.1, fun p hp => ?_⟩
  obtain ⟨a, b, c⟩ := own_lst w1 hp r1 h1.1
  exact k _ _ _ _ (s1.trans a) b c (h1.2 p (w1.fresh hp).1)⟩
abbrev CD := List D → Gp → DK → Prop
def LC (K : PySem.W.Frag) (r : List V → Hp → VK → Prop) (c : CD) : Prop := ∀ (P : Addr → Prop) (G : Gp) (H : Hp) (xs : List D) (us : List V) (Q : DK) (R : VK), c xs G Q → Wo K P G H → Reps K H G P xs us →
  (∀ d G' w H', Step G H G' H' → Wo K P G' H' → Rep K H' G' P d w → Q d G' → R w H') → r us H R
@[simp] def eCB (c : CD) (t : EA) : EE := fun s G Q => t s G fun xs G1 => c xs G1 Q
theorem le_cb {n : Nat} {r : List V → Hp → VK → Prop} {c : CD} {t : TA} {ea : EA} (hc : LC K r c) (ha : LA K n t ea) : LE K (tCB r t) (eCB c ea) := fun P s G Q σ H R h rl k => by
  refine ha P s G _ σ H _ h rl fun xs G1 us H1 s1 w1 r1 _ h1 => ?_
  exact hc P G1 H1 xs us Q R h1 w1 r1 fun d G' w H' st w' r' q' => k d G' w H' (s1.trans st) w' r' q'
theorem j_cb {x : Str} {p pos : Pos} {e : Expr} {es : List Expr} {ea : EA} {id : String} {r : List V → Hp → VK → Prop} {c : CD} (hc : CallR X (.builtin id) r) (lc : LC X.K r c) (hg : Gl X x) (hm : X.mg x = none) (hv : bootBuiltins x = some (.builtin id)) (ha : JA X (e :: es) ea)
    (hn : x ≠ "__name__" := by decide) (hdb : (x == ("__debug__" : Str)) = false := by decide) (he : starEach (e :: es) X.env = (false, eval e X.env) :: starEach es X.env := by rfl) (hpl : (backTo pos (starEach es X.env)).any (·.1) = false := by rfl) : JE X (.Call (.Name x p) (e :: es) [] pos) (eCB c ea) :=
  ⟨pe_callB hc hg hm hv ha.pa hn hdb he hpl, le_cb lc ha.la⟩
theorem j_ct {x : Str} {p pos : Pos} {e : Expr} {es : List Expr} {ea : EA} {T : String} {r : List V → Hp → VK → Prop} {c : CD} (hc : CallR X (.type T) r) (lc : LC X.K r c) (hg : Gl X x) (hm : X.mg x = none) (hv : bootBuiltins x = some (.type T)) (ha : JA X (e :: es) ea)
    (hn : x ≠ "__name__" := by decide) (hdb : (x == ("__debug__" : Str)) = false := by decide) (he : starEach (e :: es) X.env = (false, eval e X.env) :: starEach es X.env := by rfl) (hpl : (backTo pos (starEach es X.env)).any (·.1) = false := by rfl) : JE X (.Call (.Name x p) (e :: es) [] pos) (eCB c ea) :=
  ⟨pe_callTy hc hg hm hv ha.pa hn hdb he hpl, le_cb lc ha.la⟩
theorem reps1 {P : Addr → Prop} {G : Gp} {H : Hp} {d : D} {us : List V} (h : Reps K H G P [d] us) : ∃ u, us = [u] ∧ Rep K H G P d u := by
  unfold Reps at h
  obtain ⟨x, r, rfl, h1, h2⟩ := h
  unfold Reps at h2
  subst h2
  exact ⟨x, rfl, h1⟩
theorem reps2 {P : Addr → Prop} {G : Gp} {H : Hp} {d e : D} {us : List V} (h : Reps K H G P [d, e] us) : ∃ u v, us = [u, v] ∧ Rep K H G P d u ∧ Rep K H G P e v := by
  unfold Reps at h
  obtain ⟨x, r, rfl, h1, h2⟩ := h
  obtain ⟨v, rfl, h3⟩ := reps1 h2
  exact ⟨x, v, rfl, h1, h3⟩
/-- len -/
@[simp] def cLen : CD := fun xs G Q => match xs with
  | [.str z] => z.length ≤ sizeLine ∧ Q (.int z.length) G
  | [x] => (match lkQ G x with
    | some ds => Q (.int ds.length) G
    | none => False)
  | _ => False
theorem lc_len : LC K (fun xs H Q => ∃ x n, xs = [x] ∧ LenV K x H n ∧ Q (.int n) H) cLen := fun P G H xs us Q R h w r k => by
  unfold cLen at h
  split at h
  · rename_i z
    obtain ⟨u, rfl, r1⟩ := reps1 r
    rw [rep_s r1]
    exact ⟨_, _, rfl, ⟨h.1, rfl⟩, k _ G _ H (Step.refl _ _) w rep_int h.2⟩
  · rename_i x _
    obtain ⟨u, rfl, r1⟩ := reps1 r
    split at h
    · rename_i ds e
      obtain ⟨a, ys, rfl, s, q, z⟩ := lkQ_sq w r1 e
      refine ⟨_, ys.length, rfl, ?_, k _ G _ H (Step.refl _ _) w rep_int (by rw [← q.length]; exact h)⟩
      rcases s with s | s
      · exact .inl ⟨ys, s, rfl⟩
      · exact .inr ⟨ys, s, rfl⟩
    · exact h.elim
  · exact h.elim
@[simp] def cMax2 : CD := fun xs G Q => match xs with
  | [.int i, .int j] => Q (.int (if j > i then j else i)) G
  | _ => False
@[simp] def cMin2 : CD := fun xs G Q => match xs with
  | [.int i, .int j] => Q (.int (if j < i then j else i)) G
  | _ => False
theorem lc_max2 : LC K (fun xs H Q => ∃ i j, xs = [.int i, .int j] ∧ Q (.int (if j > i then j else i)) H) cMax2 := fun P G H xs us Q R h w r k => by
  unfold cMax2 at h
  split at h
  · obtain ⟨u, v, rfl, r1, r2⟩ := reps2 r
    rw [rep_i r1, rep_i r2]
    exact ⟨_, _, rfl, k _ G _ H (Step.refl _ _) w rep_int h⟩
  · exact h.elim
theorem lc_min2 : LC K (fun xs H Q => ∃ i j, xs = [.int i, .int j] ∧ Q (.int (if j < i then j else i)) H) cMin2 := fun P G H xs us Q R h w r k => by
  unfold cMin2 at h
  split at h
  · obtain ⟨u, v, rfl, r1, r2⟩ := reps2 r
    rw [rep_i r1, rep_i r2]
    exact ⟨_, _, rfl, k _ G _ H (Step.refl _ _) w rep_int h⟩
  · exact h.elim
@[simp] def cInt1 : CD := fun xs G Q => match xs with
  | [.int i] => Q (.int i) G
  | [.bl b] => Q (.int (if b then 1 else 0)) G
  | _ => False
theorem lc_int1 : LC K (fun xs H Q => (∃ i, xs = [.int i] ∧ Q (.int i) H) ∨ ∃ k, xs = [.bl k] ∧ Q (.int (if k then 1 else 0)) H) cInt1 := fun P G H xs us Q R h w r k => by
  unfold cInt1 at h
  split at h
  · obtain ⟨u, rfl, r1⟩ := reps1 r
    rw [rep_i r1]
    exact .inl ⟨_, rfl, k _ G _ H (Step.refl _ _) w rep_int h⟩
  · obtain ⟨u, rfl, r1⟩ := reps1 r
    rw [rep_b r1]
    exact .inr ⟨_, rfl, k _ G _ H (Step.refl _ _) w rep_int h⟩
  · exact h.elim
/-- list(x) of a list or tuple: new, frozen; owned -/
@[simp] def cList : CD := fun xs G Q => match xs with
  | [x] => (match lkQ G x with
    | some ds => Q (.lst ds) G
    | none => False)
  | _ => False
@[simp] def cListO : CD := fun xs G Q => match xs with
  | [x] => (match lkQ G x with
    | some ds => ∀ p, G p = none → Q (.ref p) (gput G p (.lst ds))
    | none => False)
  | _ => False
theorem lc_list : LC K (fun xs H Q => ∃ p ys, xs = [.ref p] ∧ (SqL K H p ys ∨ SqT K H p ys) ∧ ∀ l, H l = none → Q (.ref l) (upd H l (.lst ys))) cList := fun P G H xs us Q R h w r k => by
  unfold cList at h
  split at h
  · obtain ⟨u, rfl, r1⟩ := reps1 r
    split at h
    · rename_i ds e
      obtain ⟨a, ys, rfl, s, q, z⟩ := lkQ_sq w r1 e
      refine ⟨a, ys, rfl, s, fun p hp => ?_⟩
      obtain ⟨f1, f2⟩ := w.fresh hp
      have st : Step G H G (upd H p (.lst ys)) := Step.new hp
      exact k _ G _ _ st (w.new hp) (rep_lst f1 f2 upd_same z (q.step st)) h
    · exact h.elim
  · exact h.elim
/-- ints of a list of data -/
def intsD : List D → Option (List Int)
  | [] => some []
  | .int i :: ds => (intsD ds).map (i :: ·)
  | _ :: _ => none
theorem intsD_map : ∀ ns : List Int, intsD (ns.map D.int) = some ns
  | [] => rfl
  | n :: ns => by rw [List.map_cons, intsD, intsD_map ns]; rfl
theorem intsD_eq : ∀ {ds : List D} {ns : List Int}, intsD ds = some ns → ds = ns.map D.int
  | [], ns, e => by cases e; rfl
  | .int i :: ds, ns, e => by
    rw [intsD] at e
    obtain ⟨r, e1, rfl⟩ := opt_map e
    rw [intsD_eq e1]; rfl
  | .non :: _, _, e => by cases e
  | .bl _ :: _, _, e => by cases e
  | .str _ :: _, _, e => by cases e
  | .ty _ :: _, _, e => by cases e
  | .ref _ :: _, _, e => by cases e
  | .cl _ :: _, _, e => by cases e
  | .lst _ :: _, _, e => by cases e
  | .tup _ :: _, _, e => by cases e
  | .dct _ _ :: _, _, e => by cases e
  | .exc _ _ _ _ :: _, _, e => by cases e
  | .scr _ :: _, _, e => by cases e
@[simp] def cSum : CD := fun xs G Q => match xs with
  | [x] => (match (lkL G x).bind intsD with
    | some ns => Q (.int ns.sum) G
    | none => False)
  | _ => False
theorem lk_ints {P : Addr → Prop} {G : Gp} {H : Hp} (w : Wo K P G H) {x : D} {u : V} {ns : List Int} (r : Rep K H G P x u) (e : (lkL G x).bind intsD = some ns) : ∃ a, u = .ref a ∧ SqL K H a (ns.map V.int) ∧ ns.length ≤ sizeLine := by
  cases e1 : lkL G x with
  | none => rw [e1] at e; cases e
  | some ds =>
    rw [e1] at e
    have e2 := intsD_eq e
    obtain ⟨a, ys, rfl, s, q, z⟩ := lk_sq w r e1
    rw [e2] at q z
    rw [reps_ints q] at s
    exact ⟨a, rfl, s, by simpa using z⟩
theorem lc_sum : LC K (rSum K) cSum := fun P G H xs us Q R h w r k => by
  unfold cSum at h
  split at h
  · obtain ⟨u, rfl, r1⟩ := reps1 r
    split at h
    · rename_i ns e
      obtain ⟨a, rfl, s, z⟩ := lk_ints w r1 e
      exact ⟨a, ns, rfl, s, k _ G _ H (Step.refl _ _) w rep_int h⟩
    · exact h.elim
  · exact h.elim
/-- max, min of a list of ints -/
@[simp] def cMax : CD := fun xs G Q => match xs with
  | [x] => (match (lkL G x).bind intsD with
    | some ns => 0 < ns.length ∧ ∀ m, m ∈ ns → (∀ y, y ∈ ns → y ≤ m) → Q (.int m) G
    | none => False)
  | _ => False
@[simp] def cMin : CD := fun xs G Q => match xs with
  | [x] => (match (lkL G x).bind intsD with
    | some ns => 0 < ns.length ∧ ∀ m, m ∈ ns → (∀ y, y ∈ ns → m ≤ y) → Q (.int m) G
    | none => False)
  | _ => False
theorem lc_max : LC K (rMax K) cMax := fun P G H xs us Q R h w r k => by
  unfold cMax at h
  split at h
  · obtain ⟨u, rfl, r1⟩ := reps1 r
    split at h
    · rename_i ns e
      obtain ⟨a, rfl, s, z⟩ := lk_ints w r1 e
      exact ⟨a, ns, rfl, s, h.1, fun m hm hy => k _ G _ H (Step.refl _ _) w rep_int (h.2 m hm hy)⟩
    · exact h.elim
  · exact h.elim
theorem lc_min : LC K (rMin K) cMin := fun P G H xs us Q R h w r k => by
  unfold cMin at h
  split at h
  · obtain ⟨u, rfl, r1⟩ := reps1 r
    split at h
    · rename_i ns e
      obtain ⟨a, rfl, s, z⟩ := lk_ints w r1 e
      exact ⟨a, ns, rfl, s, h.1, fun m hm hy => k _ G _ H (Step.refl _ _) w rep_int (h.2 m hm hy)⟩
    · exact h.elim
  · exact h.elim
/-- all, any of a list of truths -/
def blsD : List D → Option (List Bool)
  | [] => some []
  | .bl i :: ds => (blsD ds).map (i :: ·)
  | _ :: _ => none
@[simp] def cAll : CD := fun xs G Q => match xs with
  | [x] => (match (lkL G x).bind blsD with
    | some ns => Q (.bl (ns.all id)) G
    | none => False)
  | _ => False
@[simp] def cAny : CD := fun xs G Q => match xs with
  | [x] => (match (lkL G x).bind blsD with
    | some ns => Q (.bl (ns.any id)) G
    | none => False)
  | _ => False
/-- isinstance(x, T), T a built-in type -/
def tyD (G : Gp) : D → Option String
  | .non => some "NoneType"
  | .bl _ => some "bool"
  | .int _ => some "int"
  | .str _ => some "str"
  | .lst _ => some "list"
  | .tup _ => some "tuple"
  | .dct _ _ => some "dict"
  | .ref a => match G a with
    | some (.lst _) => some "list"
    | some (.dct _ _) => some "dict"
    | _ => none
  | _ => none
@[simp] theorem tyD_non {G : Gp} : tyD G .non = some "NoneType" := rfl
@[simp] theorem tyD_bl {G : Gp} {b : Bool} : tyD G (.bl b) = some "bool" := rfl
@[simp] theorem tyD_int {G : Gp} {i : Int} : tyD G (.int i) = some "int" := rfl
@[simp] theorem tyD_str {G : Gp} {y : Str} : tyD G (.str y) = some "str" := rfl
@[simp] theorem tyD_lst {G : Gp} {ds : List D} : tyD G (.lst ds) = some "list" := rfl
@[simp] theorem tyD_tup {G : Gp} {ds : List D} : tyD G (.tup ds) = some "tuple" := rfl
@[simp] theorem tyD_dct {G : Gp} {ks : List Key} {ds : List D} : tyD G (.dct ks ds) = some "dict" := rfl
@[simp] theorem tyD_ref {G : Gp} {a : Addr} : tyD G (.ref a) = match G a with
    | some (.lst _) => some "list"
    | some (.dct _ _) => some "dict"
    | _ => none := rfl
theorem ty_of {P : Addr → Prop} {G : Gp} {H : Hp} (w : Wo K P G H) {d : D} {v : V} {n : String} (h : Rep K H G P d v) (e : tyD G d = some n) : TyX K H v (.type n) := by
  refine .base ?_
  cases d with
  | non => cases e; rw [rep_n h]; exact .non
  | bl b => cases e; rw [rep_b h]; exact .bl b
  | int b => cases e; rw [rep_i h]; exact .int b
  | str b => cases e; rw [rep_s h]; exact .str b
  | lst ds => cases e; obtain ⟨a, xs, rfl, g, p, r, z, q⟩ := rep_l h; exact .lst r
  | tup ds => cases e; obtain ⟨a, xs, rfl, g, p, r, z, q⟩ := rep_t h; exact .tup r
  | dct ks ds => cases e; unfold Rep at h; obtain ⟨a, xs, rfl, g, p, r, z, q⟩ := h; exact .dK r
  | ref a =>
    unfold Rep at h
    obtain ⟨rfl, o, ho⟩ := h
    simp only [tyD, ho] at e
    obtain ⟨u, e1, r⟩ := w.own a o ho
    cases o with
    | lst ds => cases e; obtain ⟨xs, rfl, z, q⟩ := r; exact .lst e1
    | dct ks ds => cases e; obtain ⟨xs, rfl, z, q⟩ := r; exact .dK e1
    | _ => cases e
  | _ => cases e
@[simp] def cIsi : CD := fun xs G Q => match xs with
  | [x, .ty n] => (match (tyD G x).bind fun m => kitB m n with
    | some b => Q (.bl b) G
    | none => False)
  | _ => False
theorem lc_isi : LC K (rIsi K) cIsi := fun P G H xs us Q R h w r k => by
  unfold cIsi at h
  split at h
  · rename_i x n
    obtain ⟨u, v, rfl, r1, r2⟩ := reps2 r
    have e2 : v = .ty n := by unfold Rep at r2; exact r2
    split at h
    · rename_i b e
      cases e1 : tyD G x with
      | none => rw [e1] at e; cases e
      | some m =>
        rw [e1] at e
        exact ⟨u, v, .type m, .type n, b, rfl, by rw [e2]; exact .ty n, ty_of w r1 e1, kit_ty e, k _ G _ H (Step.refl _ _) w rep_bl h⟩
    · exact h.elim
  · exact h.elim
end
end DL
set_option Elab.async false
set_option linter.all false
set_option maxRecDepth 100000
set_option maxHeartbeats 4000000
namespace DL
open PySem L2
mutual
theorem Rep.prv {K : PySem.W.Frag} {P : Addr → Prop} {G : Gp} {H : Hp} {p : Addr} {o : HO} (hp : P p) (hf : ∀ o' xs, H p ≠ some (.frz o' xs)) : ∀ {d : D} {v : V}, Rep K H G P d v → Rep K (upd H p o) G P d v
  | .non, _, h => by unfold Rep at h ⊢; exact h
  | .bl _, _, h => by unfold Rep at h ⊢; exact h
  | .int _, _, h => by unfold Rep at h ⊢; exact h
  | .str _, _, h => by unfold Rep at h ⊢; exact h
  | .ty _, _, h => by unfold Rep at h ⊢; exact h
  | .cl _, _, h => by unfold Rep at h ⊢; exact h
  | .ref a, _, h => by unfold Rep at h ⊢; exact h
  | .exc a dd f e, _, h => by
    unfold Rep at h ⊢
    obtain ⟨rfl, g, pp, u, r, t⟩ := h
    exact ⟨rfl, g, pp, u, by rw [upd_ne (fun e => by subst e; exact pp hp)]; exact r, Rep.prv hp hf t⟩
  | .scr ns, _, h => by
    unfold Rep at h ⊢
    obtain ⟨a, rfl, z, ⟨⟨o, h⟩, g⟩ | ⟨h, g, pp⟩ | h⟩ := h
    · exact ⟨a, rfl, z, .inl ⟨⟨o, by rw [upd_ne (fun e => by subst e; exact hf _ _ h)]; exact h⟩, g⟩⟩
    · exact ⟨a, rfl, z, .inr (.inl ⟨by rw [upd_ne (fun e => by subst e; exact pp hp)]; exact h, g, pp⟩)⟩
    · exact ⟨a, rfl, z, .inr (.inr h)⟩
  | .lst ds, _, h => by
    unfold Rep at h ⊢
    obtain ⟨a, xs, rfl, g, q, r, z, t⟩ := h
    exact ⟨a, xs, rfl, g, q, by rw [upd_ne (fun e => by subst e; exact q hp)]; exact r, z, Reps.prv hp hf t⟩
  | .tup ds, _, h => by
    unfold Rep at h ⊢
    obtain ⟨a, xs, rfl, g, q, r, z, t⟩ := h
    exact ⟨a, xs, rfl, g, q, by rw [upd_ne (fun e => by subst e; exact q hp)]; exact r, z, Reps.prv hp hf t⟩
  | .dct ks ds, _, h => by
    unfold Rep at h ⊢
    obtain ⟨a, xs, rfl, g, q, r, z, t⟩ := h
    exact ⟨a, xs, rfl, g, q, by rw [upd_ne (fun e => by subst e; exact q hp)]; exact r, z, Reps.prv hp hf t⟩
theorem Reps.prv {K : PySem.W.Frag} {P : Addr → Prop} {G : Gp} {H : Hp} {p : Addr} {o : HO} (hp : P p) (hf : ∀ o' xs, H p ≠ some (.frz o' xs)) : ∀ {ds : List D} {vs : List V}, Reps K H G P ds vs → Reps K (upd H p o) G P ds vs
  | [], _, h => by unfold Reps at h ⊢; exact h
  | d :: ds, _, h => by
    unfold Reps at h ⊢
    obtain ⟨x, r, rfl, h1, h2⟩ := h
    exact ⟨x, r, rfl, Rep.prv hp hf h1, Reps.prv hp hf h2⟩
end
section
variable {K : PySem.W.Frag} {P : Addr → Prop} {G G' : Gp} {H H' : Hp} {p : Addr}
theorem RelO.prv {o : GO} {ho u : HO} (hp : P p) (hf : ∀ o' xs, H p ≠ some (.frz o' xs)) (h : RelO K H G P o ho) : RelO K (upd H p u) G P o ho := by
  cases o with
  | lst ds => obtain ⟨xs, e, z, q⟩ := h; exact ⟨xs, e, z, q.prv hp hf⟩
  | dct ks ds => obtain ⟨xs, e, z, q⟩ := h; exact ⟨xs, e, z, q.prv hp hf⟩
  | ins C dx ks ds => obtain ⟨xs, e, z, q⟩ := h; exact ⟨xs, e, z, q.prv hp hf⟩
  | own x => exact h
  | set S n => exact h
  | gen r ds => obtain ⟨xs, e, z, q⟩ := h; exact ⟨xs, e, z, q.prv hp hf⟩
  | tbl f q a =>
    obtain ⟨ea, ps, e, z, q⟩ := h
    refine ⟨ea, ps, e, z, fun pos cv hc => ?_⟩
    obtain ⟨c, e1, e2, e3, e4⟩ := q pos cv hc
    exact ⟨c, e1, by rw [upd_ne (fun z => e4 (by rw [z]; exact hp))]; exact e2, e3, e4⟩
theorem Wo.prvUpd (w : Wo K P G H) {u : HO} (hp : P p) (hf : ∀ o' xs, H p ≠ some (.frz o' xs)) (nt : ∀ ys, u ≠ .tup ys := by intro _ h; cases h) : Wo K P G (upd H p u) := by
  refine ⟨fun a o e => ?_, fun a q => ?_⟩
  · obtain ⟨ho, e1, r⟩ := w.own a o e
    have ne : a ≠ p := fun z => by subst z; rw [(w.prv a hp).1] at e; cases e
    exact ⟨ho, by rw [upd_ne ne]; exact e1, r.prv hp hf⟩
  · obtain ⟨g, ho, e, n2⟩ := w.prv a q
    by_cases ne : a = p
    · subst ne; exact ⟨g, u, upd_same, nt⟩
    · exact ⟨g, ho, by rw [upd_ne ne]; exact e, n2⟩
/-- what was not there may change -/
theorem Step.out (s : Step G H G' H') {o : HO} (h : H p = none) : Step G H G' (upd H' p o) :=
  ⟨fun a u e g => ⟨by rw [upd_ne (ne_of_none e h)]; exact (s.keep a u e g).1, (s.keep a u e g).2⟩, s.own⟩
/-- one more private address -/
def prvAdd (P : Addr → Prop) (p : Addr) : Addr → Prop := fun a => P a ∨ a = p
theorem Wo.add (w : Wo K P G H) {o : HO} (h : H p = none) (nt : ∀ ys, o ≠ .tup ys := by intro _ h; cases h) : Wo K (prvAdd P p) G (upd H p o) := by
  have w1 := w.new (o := o) h
  obtain ⟨f1, f2⟩ := w.fresh h
  refine ⟨fun a u e => ?_, fun a q => ?_⟩
  · obtain ⟨ho, e1, r⟩ := w.own a u e
    refine ⟨ho, by rw [upd_ne (ne_of_none e1 h)]; exact e1, r.step (Step.new h) fun b hb q => ?_⟩
    rcases q with q | q
    · exact q
    · subst q; obtain ⟨x, e⟩ := hb; rw [h] at e; cases e
  · rcases q with q | q
    · exact w1.prv a q
    · subst q; exact ⟨f1, o, upd_same, nt⟩
theorem Wo.sub (w : Wo K (prvAdd P p) G H) : Wo K P G H :=
  ⟨fun a o e => let ⟨ho, e1, r⟩ := w.own a o e; ⟨ho, e1, r.step (Step.refl _ _) fun _ _ q => .inl q⟩, fun a q => w.prv a (.inl q)⟩
theorem Rep.sub {d : D} {v : V} (h : Rep K H G (prvAdd P p) d v) : Rep K H G P d v := h.mono (Step.refl _ _) fun _ _ q => .inl q
theorem Reps.sub {d : List D} {v : List V} (h : Reps K H G (prvAdd P p) d v) : Reps K H G P d v := h.mono (Step.refl _ _) fun _ _ q => .inl q
end
mutual
theorem Rep.toOwn {K : PySem.W.Frag} {P : Addr → Prop} {G : Gp} {H : Hp} {p : Addr} {o : GO} (hf : ∀ o' xs, H p ≠ some (.frz o' xs)) : ∀ {d : D} {v : V}, Rep K H G (prvAdd P p) d v → Rep K H (gput G p o) P d v
  | .non, _, h => by unfold Rep at h ⊢; exact h
  | .bl _, _, h => by unfold Rep at h ⊢; exact h
  | .int _, _, h => by unfold Rep at h ⊢; exact h
  | .str _, _, h => by unfold Rep at h ⊢; exact h
  | .ty _, _, h => by unfold Rep at h ⊢; exact h
  | .cl _, _, h => by unfold Rep at h ⊢; exact h
  | .ref a, _, h => by
    unfold Rep at h ⊢
    obtain ⟨rfl, u, hu⟩ := h
    by_cases ne : a = p
    · subst ne; exact ⟨rfl, _, gput_same⟩
    · exact ⟨rfl, u, by rw [gput_ne ne]; exact hu⟩
  | .exc a dd f e, _, h => by
    unfold Rep at h ⊢
    obtain ⟨rfl, g, pp, u, r, t⟩ := h
    exact ⟨rfl, by rw [gput_ne (fun e => pp (.inr e))]; exact g, fun x => pp (.inl x), u, r, Rep.toOwn hf t⟩
  | .scr ns, _, h => by
    unfold Rep at h ⊢
    obtain ⟨a, rfl, z, ⟨⟨u, h⟩, g⟩ | ⟨h, g, pp⟩ | h⟩ := h
    · exact ⟨a, rfl, z, .inl ⟨⟨u, h⟩, by rw [gput_ne (fun e => by subst e; exact hf _ _ h)]; exact g⟩⟩
    · exact ⟨a, rfl, z, .inr (.inl ⟨h, by rw [gput_ne (fun e => pp (.inr e))]; exact g, fun x => pp (.inl x)⟩)⟩
    · exact ⟨a, rfl, z, .inr (.inr h)⟩
  | .lst ds, _, h => by
    unfold Rep at h ⊢
    obtain ⟨a, xs, rfl, g, q, r, z, t⟩ := h
    exact ⟨a, xs, rfl, by rw [gput_ne (fun e => q (.inr e))]; exact g, fun x => q (.inl x), r, z, Reps.toOwn hf t⟩
  | .tup ds, _, h => by
    unfold Rep at h ⊢
    obtain ⟨a, xs, rfl, g, q, r, z, t⟩ := h
    exact ⟨a, xs, rfl, by rw [gput_ne (fun e => q (.inr e))]; exact g, fun x => q (.inl x), r, z, Reps.toOwn hf t⟩
  | .dct ks ds, _, h => by
    unfold Rep at h ⊢
    obtain ⟨a, xs, rfl, g, q, r, z, t⟩ := h
    exact ⟨a, xs, rfl, by rw [gput_ne (fun e => q (.inr e))]; exact g, fun x => q (.inl x), r, z, Reps.toOwn hf t⟩
theorem Reps.toOwn {K : PySem.W.Frag} {P : Addr → Prop} {G : Gp} {H : Hp} {p : Addr} {o : GO} (hf : ∀ o' xs, H p ≠ some (.frz o' xs)) : ∀ {ds : List D} {vs : List V}, Reps K H G (prvAdd P p) ds vs → Reps K H (gput G p o) P ds vs
  | [], _, h => by unfold Reps at h ⊢; exact h
  | d :: ds, _, h => by
    unfold Reps at h ⊢
    obtain ⟨x, r, rfl, h1, h2⟩ := h
    exact ⟨x, r, rfl, Rep.toOwn hf h1, Reps.toOwn hf h2⟩
end
theorem Wo.toOwn {K : PySem.W.Frag} {P : Addr → Prop} {G : Gp} {H : Hp} {p : Addr} {o : GO} {ho : HO} (w : Wo K (prvAdd P p) G H) (np : ¬ P p) (e : H p = some ho) (r : RelO K H (gput G p o) P o ho) (hf : ∀ o' xs, H p ≠ some (.frz o' xs)) : Wo K P (gput G p o) H := by
  refine ⟨fun a u eu => ?_, fun a q => ?_⟩
  · by_cases ne : a = p
    · subst ne; rw [gput_same] at eu; cases eu; exact ⟨ho, e, r⟩
    · rw [gput_ne ne] at eu
      obtain ⟨hu, e1, r1⟩ := w.own a u eu
      refine ⟨hu, e1, ?_⟩
      cases u with
      | lst ds => obtain ⟨xs, e, z, q⟩ := r1; exact ⟨xs, e, z, q.toOwn hf⟩
      | dct ks ds => obtain ⟨xs, e, z, q⟩ := r1; exact ⟨xs, e, z, q.toOwn hf⟩
      | ins C dx ks ds => obtain ⟨xs, e, z, q⟩ := r1; exact ⟨xs, e, z, q.toOwn hf⟩
      | own x => exact r1
      | set S n => exact r1
      | gen r ds => obtain ⟨xs, e, z, q⟩ := r1; exact ⟨xs, e, z, q.toOwn hf⟩
      | tbl f q a =>
        obtain ⟨ea, ps, e, z, q⟩ := r1
        refine ⟨ea, ps, e, z, fun pos cv hc => ?_⟩
        obtain ⟨c, e1, e2, e3, e4⟩ := q pos cv hc
        exact ⟨c, e1, e2, by rw [gput_ne (fun z => e4 (.inr z))]; exact e3, fun x => e4 (.inl x)⟩
  · obtain ⟨g, hu, e1, nt⟩ := w.prv a (.inl q)
    exact ⟨by rw [gput_ne (fun z => by subst z; exact np q)]; exact g, hu, e1, nt⟩
def Wk (K : PySem.W.Frag) (P : Addr → Prop) (G0 : Gp) (H0 : Hp) (Kp : Gp → Prop) (J : It) (ds : List D) : Prop := ds.length ≤ sizeLine ∧ ∀ (P' : Addr → Prop) (G : Gp) (H : Hp) (i : Nat), (∀ a, (∃ ho, H0 a = some ho) → P' a → P a) → Step G0 H0 G H → Wo K P' G H → Kp G →
  (∀ d, ds[i]? = some d → J.go i H ∧ ∀ x H', J.yld i H x H' → Step G H G H' ∧ Wo K P' G H' ∧ Rep K H' G P' d x) ∧ (ds.length ≤ i → J.stop i H)
abbrev EI := Sd → Gp → (List D → (Gp → Prop) → Gp → Prop) → Prop
def LI (K : PySem.W.Frag) (wi : TI) (t : EI) : Prop := ∀ (P : Addr → Prop) (s : Sd) (G : Gp) (Q : List D → (Gp → Prop) → Gp → Prop) (σ : St) (H : Hp) (R : It → Hp → Prop), t s G Q → Rl K P s G σ H →
  (∀ ds Kp G' J H', Step G H G' H' → Wo K P G' H' → Wk K P G' H' Kp J ds → Q ds Kp G' → R J H') → wi σ H R
def upI (K : PySem.W.Frag) (t : EI) : TI := fun σ H R => ∃ (P : Addr → Prop) (s : Sd) (G : Gp) (Q : List D → (Gp → Prop) → Gp → Prop), t s G Q ∧ Rl K P s G σ H ∧ ∀ ds Kp G' J H', Step G H G' H' → Wo K P G' H' → Wk K P G' H' Kp J ds → Q ds Kp G' → R J H'
inductive JI (X : Cx) (tg iter : Expr) (t : EI) : Prop where
  | mk {wi : TI} (a : PI X tg iter wi) (b : LI X.K wi t) : JI X tg iter t
theorem JI.pi {X : Cx} {tg iter : Expr} {t : EI} (h : JI X tg iter t) : PI X tg iter (upI X.K t) := by
  obtain ⟨a, b⟩ := h
  exact ⟨fun pins s σ H R I ⟨P, s', G, Q', h1, h2, h3⟩ => a.run pins s σ H R I (b P s' G Q' σ H R h1 h2 h3)⟩
theorem JI.li {X : Cx} {tg iter : Expr} {t : EI} (h : JI X tg iter t) : LI X.K (upI X.K t) t := fun P s G Q σ H R h1 h2 h3 => ⟨P, s, G, Q, h1, h2, h3⟩
/-- what must stay of what is walked -/
@[simp] def stays (x : D) (ds : List D) : Gp → Prop := match x with
  | .ref a => fun G => G a = some (.lst ds)
  | _ => fun _ => True
@[simp] def iL (t : EE) : EI := fun s G Q => t s G fun x G1 => match lkL G1 x with
  | some ds => Q ds (stays x ds) G1
  | none => False
/-- a list read now is read later -/
theorem lk_later {K : PySem.W.Frag} {P P' : Addr → Prop} {G0 G : Gp} {H0 H : Hp} {x : D} {a : Addr} {ds : List D} (r0 : Rep K H0 G0 P x (.ref a)) (e : lkL G0 x = some ds) (hP : ∀ a, (∃ ho, H0 a = some ho) → P' a → P a) (st : Step G0 H0 G H) (w : Wo K P' G H) (kp : stays x ds G) :
    ∃ xs, SqL K H a xs ∧ Reps K H G P' ds xs := by
  have r1 := r0.mono st hP
  have e1 : lkL G x = some ds := by
    cases x with
    | ref b => simp only [stays] at kp; simp only [lkL, kp]
    | _ => exact e
  obtain ⟨b, xs, eb, s, q, z⟩ := lk_sq w r1 e1
  cases eb
  exact ⟨xs, s, q⟩
section
variable {X : Cx} {K : PySem.W.Frag} {tg : Expr}
theorem wk_list {P : Addr → Prop} {G0 : Gp} {H0 : Hp} {x : D} {a : Addr} {ds : List D} (w0 : Wo K P G0 H0) (r0 : Rep K H0 G0 P x (.ref a)) (e : lkL G0 x = some ds) : Wk K P G0 H0 (stays x ds) (Itl K a) ds := by
  obtain ⟨b, xs0, eb, s0, q0, z0⟩ := lk_sq w0 r0 e
  refine ⟨z0, fun P' G H i hP st w kp => ?_⟩
  obtain ⟨xs, s, q⟩ := lk_later r0 e hP st w kp
  refine ⟨fun d hd => ?_, fun hi => ⟨xs, s, by rw [← q.length]; exact hi⟩⟩
  obtain ⟨v, e1, r1⟩ := q.get hd
  refine ⟨⟨xs, v, s, e1⟩, fun y H' hy => ?_⟩
  obtain ⟨rfl, f⟩ := hy
  have := f xs s
  rw [e1] at this
  cases this
  exact ⟨Step.refl _ _, w, r1⟩
theorem ji_list {l : Expr} {el : EE} (hl : JE X l el) : JI X tg l (iL el) := ⟨pi_list hl.pe, fun P s G Q σ H R h r k => by
  refine hl.le P s G _ σ H _ h r fun x G1 u H1 s1 w1 r1 h1 => ?_
  cases e : lkL G1 x with
  | none => rw [e] at h1; exact h1.elim
  | some ds =>
    rw [e] at h1
    obtain ⟨a, xs, rfl, s, q, z⟩ := lk_sq w1 r1 e
    exact ⟨a, rfl, ⟨xs, s⟩, k ds _ G1 _ H1 s1 w1 (wk_list w1 r1 e) h1⟩⟩
/-- range -/
def rngD (lo : Int) (n : Nat) : List D := (List.range n).map fun i => .int (lo + (i : Nat))
@[simp] def iR1 (ta : EA) : EI := fun s G Q => ta s G fun xs G1 => match xs with
  | [.int j] => j ≤ 16000000 ∧ -(2 ^ 62) ≤ j ∧ Q (rngD 0 j.toNat) (fun _ => True) G1
  | _ => False
@[simp] def iR2 (ta : EA) : EI := fun s G Q => ta s G fun xs G1 => match xs with
  | [.int i, .int j] => (-16000000 ≤ i ∧ i ≤ 16000000 ∧ -16000000 ≤ j ∧ j ≤ 16000000 ∧ j - i ≤ 16000000) ∧ Q (rngD i (j - i).toNat) (fun _ => True) G1
  | _ => False
theorem rngD_get {lo : Int} {n i : Nat} {d : D} (h : (rngD lo n)[i]? = some d) : i < n ∧ d = .int (lo + (i : Nat)) := by
  unfold rngD at h
  rw [List.getElem?_map] at h
  obtain ⟨j, e1, e2⟩ := opt_map h
  have hi : i < n := by
    rcases Nat.lt_or_ge i n with q | q
    · exact q
    · rw [List.getElem?_eq_none (by simpa using q)] at e1; cases e1
  rw [List.getElem?_range hi] at e1
  cases e1
  exact ⟨hi, e2.symm⟩
theorem rngD_length (lo : Int) (n : Nat) : (rngD lo n).length = n := by unfold rngD; simp
theorem line_ge : 16000000 ≤ sizeLine := by decide
theorem wk_range {P : Addr → Prop} {G0 : Gp} {H0 : Hp} {lo : Int} {n : Nat} (hn : n ≤ 16000000) : Wk K P G0 H0 (fun _ => True) (Itr lo n) (rngD lo n) := by
  refine ⟨by rw [rngD_length]; exact Nat.le_trans hn line_ge, fun P' G H i hP st w _ => ⟨fun d hd => ?_, fun hi => by rw [rngD_length] at hi; exact hi⟩⟩
  obtain ⟨hi, rfl⟩ := rngD_get hd
  refine ⟨hi, fun x H' hy => ?_⟩
  obtain ⟨rfl, rfl⟩ := hy
  exact ⟨Step.refl _ _, w, rep_int⟩
theorem ji_range1 {a : Expr} {ea : EA} {p pos : Pos} (hg : Gl X "range") (hm : X.mg "range" = none) (ha : JA X [a] ea) (hs : starEach [a] X.env = [(false, eval a X.env)] := by rfl) : JI X tg (.Call (.Name "range" p) [a] [] pos) (iR1 ea) :=
  ⟨pi_range1 hg hm ha.pa hs, fun P s G Q σ H R h r k => by
    refine ha.la P s G _ σ H _ h r fun xs G1 us H1 s1 w1 r1 ll h1 => ?_
    clear ll
    split at h1
    · rename_i j
      obtain ⟨u, rfl, r2⟩ := reps1 r1
      rw [rep_i r2]
      obtain ⟨h2, h3, h4⟩ := h1
      refine ⟨j, rfl, h3, by omega, k _ _ G1 _ H1 s1 w1 (wk_range (by omega)) h4⟩
    · exact h1.elim⟩
/-- enumerate(list) -/
def enumD (ds : List D) : List D := (List.range ds.length).zipWith (fun i d => .tup [.int ((i : Nat) : Int), d]) ds
@[simp] def iE (ta : EA) : EI := fun s G Q => ta s G fun xs G1 => match xs with
  | [x] => (match lkL G1 x with
    | some ds => Q (enumD ds) (stays x ds) G1
    | none => False)
  | _ => False
/-- zip(list, list) -/
@[simp] def iZ (ta : EA) : EI := fun s G Q => ta s G fun xs G1 => match xs with
  | [x, y] => (match lkL G1 x, lkL G1 y with
    | some ds, some es => Q (ds.zipWith (fun d e => .tup [d, e]) es) (fun G => stays x ds G ∧ stays y es G) G1
    | _, _ => False)
  | _ => False
/-- a text's signs -/
def sgnD (z : Str) : List D := z.cps.toList.map fun c => .str ⟨#[c]⟩
@[simp] def iS (t : EE) : EI := fun s G Q => t s G fun x G1 => match x with
  | .str z => z.length ≤ sizeLine ∧ Q (sgnD z) (fun _ => True) G1
  | _ => False
end
inductive Tg where
  | nm (i : Nat) | tp (is : List Nat)
def Tg.ix : Tg → List Nat
  | .nm i => [i]
  | .tp is => is
@[simp] def setAll : Sd → List Nat → List D → Option Sd
  | s, [], [] => some s
  | s, i :: is, d :: ds => setAll (s.set i (some d)) is ds
  | _, _, _ => none
@[simp] def asg (t : Tg) (d : D) (s : Sd) : Option Sd := match t with
  | .nm i => some (s.set i (some d))
  | .tp is => match d with
    | .tup ds => setAll s is ds
    | _ => none
def LG (K : PySem.W.Frag) (g : TG) (t : Tg) : Prop := ∀ (P : Addr → Prop) (s s' : Sd) (G : Gp) (σ : St) (H : Hp) (d : D) (v : V) (R : St → Hp → Prop), asg t d s = some s' → Rl K P s G σ H → Rep K H G P d v →
  (∀ σ', Rl K P s' G σ' H → (∀ vs, (∀ i ∈ t.ix, i ∈ vs) → wipe σ' vs = wipe σ vs) → R σ' H) → g v σ H R
def upG (K : PySem.W.Frag) (t : Tg) : TG := fun v σ H R => ∃ (P : Addr → Prop) (s s' : Sd) (G : Gp) (d : D), asg t d s = some s' ∧ Rl K P s G σ H ∧ Rep K H G P d v ∧ ∀ σ', Rl K P s' G σ' H → (∀ vs, (∀ i ∈ t.ix, i ∈ vs) → wipe σ' vs = wipe σ vs) → R σ' H
inductive JG (X : Cx) (tg : Expr) (t : Tg) : Prop where
  | mk {g : TG} (a : PG X tg g) (b : LG X.K g t) : JG X tg t
theorem JG.pg {X : Cx} {tg : Expr} {t : Tg} (h : JG X tg t) : PG X tg (upG X.K t) := by
  obtain ⟨a, b⟩ := h
  exact ⟨fun pins s σ H v u R I r ⟨P, s1, s2, G, d, h1, h2, h3, h4⟩ => a.run pins s σ H v u R I r (b P s1 s2 G σ H d v R h1 h2 h3 h4)⟩
theorem JG.lg {X : Cx} {tg : Expr} {t : Tg} (h : JG X tg t) : LG X.K (upG X.K t) t := fun P s s' G σ H d v R h1 h2 h3 h4 => ⟨P, s, s', G, d, h1, h2, h3, h4⟩
def LGs (K : PySem.W.Frag) (g : TGs) (is : List Nat) : Prop := ∀ (P : Addr → Prop) (s s' : Sd) (G : Gp) (σ : St) (H : Hp) (ds : List D) (vs : List V) (R : St → Hp → Prop), setAll s is ds = some s' → Rl K P s G σ H → Reps K H G P ds vs →
  (∀ σ', Rl K P s' G σ' H → (∀ vs, (∀ i ∈ is, i ∈ vs) → wipe σ' vs = wipe σ vs) → R σ' H) → g vs σ H R
def upGs (K : PySem.W.Frag) (is : List Nat) : TGs := fun vs σ H R => ∃ (P : Addr → Prop) (s s' : Sd) (G : Gp) (ds : List D), setAll s is ds = some s' ∧ Rl K P s G σ H ∧ Reps K H G P ds vs ∧ ∀ σ', Rl K P s' G σ' H → (∀ vs, (∀ i ∈ is, i ∈ vs) → wipe σ' vs = wipe σ vs) → R σ' H
inductive JGs (X : Cx) (tgs : List Expr) (is : List Nat) : Prop where
  | mk {g : TGs} (a : PGs X tgs g) (b : LGs X.K g is) : JGs X tgs is
theorem JGs.pg {X : Cx} {tgs : List Expr} {is : List Nat} (h : JGs X tgs is) : PGs X tgs (upGs X.K is) := by
  obtain ⟨a, b⟩ := h
  exact ⟨fun pins s σ H v u R I r ⟨P, s1, s2, G, d, h1, h2, h3, h4⟩ => a.run pins s σ H v u R I r (b P s1 s2 G σ H d v R h1 h2 h3 h4)⟩
theorem JGs.lg {X : Cx} {tgs : List Expr} {is : List Nat} (h : JGs X tgs is) : LGs X.K (upGs X.K is) is := fun P s s' G σ H d v R h1 h2 h3 h4 => ⟨P, s, s', G, d, h1, h2, h3, h4⟩
theorem wipe_get (σ : St) (j : Nat) : ∀ vs : List Nat, (wipe σ vs)[j]? = if j ∈ vs then (σ[j]?).map (fun _ => none) else σ[j]?
  | [] => by simp [wipe]
  | v :: vs => by
    rw [wipe]
    by_cases h : v = j
    · subst h
      rw [if_pos (List.mem_cons_self)]
      by_cases hl : v < σ.length
      · rw [List.getElem?_set_self (by rw [wipe_length]; exact hl), List.getElem?_eq_getElem hl]; rfl
      · rw [List.getElem?_eq_none (by rw [List.length_set, wipe_length]; omega), List.getElem?_eq_none (by omega)]; rfl
    · rw [List.getElem?_set_ne h, wipe_get σ j vs]
      have e : (j ∈ v :: vs) ↔ j ∈ vs := by simp [Ne.symm h]
      by_cases hj : j ∈ vs
      · rw [if_pos hj, if_pos (e.mpr hj)]
      · rw [if_neg hj, if_neg (fun q => hj (e.mp q))]
theorem wipe_set {σ : St} {vs : List Nat} {i : Nat} {x : Option V} (h : i ∈ vs) : wipe (σ.set i x) vs = wipe σ vs := by
  apply List.ext_getElem?
  intro j
  rw [wipe_get, wipe_get]
  by_cases e : i = j
  · subst e
    rw [if_pos h, if_pos h]
    by_cases hl : i < σ.length
    · rw [List.getElem?_set_self hl, List.getElem?_eq_getElem hl]; rfl
    · rw [List.getElem?_eq_none (by rw [List.length_set]; omega), List.getElem?_eq_none (by omega)]
  · rw [List.getElem?_set_ne e]
theorem wipe_wipe {σ : St} {vs : List Nat} : wipe (wipe σ vs) vs = wipe σ vs := by
  apply List.ext_getElem?
  intro j
  rw [wipe_get, wipe_get]
  by_cases h : j ∈ vs
  · rw [if_pos h, if_pos h]; cases σ[j]? <;> rfl
  · rw [if_neg h, if_neg h]
@[simp] def wipeD (s : Sd) : List Nat → Sd
  | [] => s
  | v :: vs => (wipeD s vs).set v none
theorem wipeD_length (s : Sd) : ∀ vs, (wipeD s vs).length = s.length
  | [] => rfl
  | v :: vs => by rw [wipeD, List.length_set, wipeD_length s vs]
theorem wipeD_some {s : Sd} {i : Nat} {d : D} : ∀ {vs : List Nat}, (wipeD s vs)[i]? = some (some d) → s[i]? = some (some d) ∧ i ∉ vs
  | [], h => ⟨h, by simp⟩
  | v :: vs, h => by
    rw [wipeD] at h
    by_cases e : v = i
    · subst e
      by_cases hl : v < (wipeD s vs).length
      · rw [List.getElem?_set_self hl] at h; cases h
      · rw [List.getElem?_eq_none (by rw [List.length_set]; omega)] at h; cases h
    · rw [List.getElem?_set_ne e] at h
      obtain ⟨h1, h2⟩ := wipeD_some h
      exact ⟨h1, by simp [Ne.symm e, h2]⟩
theorem Rl.wipe {K : PySem.W.Frag} {P : Addr → Prop} {s : Sd} {G : Gp} {σ : St} {H : Hp} (r : Rl K P s G σ H) (vs : List Nat) : Rl K P (wipeD s vs) G (wipe σ vs) H := by
  refine ⟨r.wo, by rw [wipeD_length, wipe_length]; exact r.len, fun i d e => ?_⟩
  obtain ⟨h1, h2⟩ := wipeD_some e
  obtain ⟨v, e1, e2⟩ := r.at_ i d h1
  exact ⟨v, by rw [wipe_get, if_neg h2]; exact e1, e2⟩
section
variable {X : Cx} {K : PySem.W.Frag} {pos : Pos}
theorem lg_nm {i : Nat} : LG K (gName i) (.nm i) := fun P s s' G σ H d v R e r rp k => by
  cases e
  exact k _ (r.set rp) fun vs hv => wipe_set (hv i (by simp [Tg.ix]))
theorem jg_name {i : Nat} {x : Str} (hN : X.N.Nodup) (hi : X.N[i]? = some x) (hx : Loc X.env.scope x) (hf : X.fn x = true ∨ X.env.scope.names.lookup x = some .local := by first | exact .inl rfl | exact .inr rfl | assumption) : JG X (.Name x pos) (.nm i) := ⟨pg_name hN hi hx hf, lg_nm⟩
theorem jgs_nil : JGs X [] [] := ⟨pgs_nil, fun P s s' G σ H ds vs R e r rp k => by
  cases ds with
  | nil =>
    unfold Reps at rp
    subst rp
    cases e
    exact ⟨rfl, k σ r fun _ _ => rfl⟩
  | cons d ds => cases e⟩
theorem jgs_cons {e : Expr} {es : List Expr} {i : Nat} {is : List Nat} (h1 : JG X e (.nm i)) (h2 : JGs X es is) (hs : (assignEach (e :: es) X.env).map (·.2) = assign e X.env :: (assignEach es X.env).map (·.2) := by rfl) : JGs X (e :: es) (i :: is) :=
  ⟨pgs_cons h1.pg h2.pg hs, fun P s s' G σ H ds vs R e r rp k => by
    cases ds with
    | nil => cases e
    | cons d ds =>
      unfold Reps at rp
      obtain ⟨x, xs, rfl, p1, p2⟩ := rp
      refine ⟨x, xs, rfl, ?_⟩
      exact h1.lg P s (s.set i (some d)) G σ H d x _ rfl r p1 fun σ1 r1 w1 => h2.lg P (s.set i (some d)) s' G σ1 H ds xs R e r1 p2 fun σ' r' w' => k σ' r' fun vs hv => (w' vs fun j hj => hv j (List.mem_cons_of_mem _ hj)).trans (w1 vs fun j hj => by
        have : j = i := by simpa [Tg.ix] using hj
        rw [this]; exact hv i List.mem_cons_self)⟩
theorem jg_tup {es : List Expr} {k : Nat} {is : List Nat} {n : Nat} (hc : X.calm = true) (h : JGs X es is) (hl : is.length = n := by rfl) (hn : (assignEach es X.env).length = n := by rfl) (hst : (assignEach es X.env).findIdx? (·.1) = none := by rfl) : JG X (.Tuple es k pos) (.tp is) :=
  ⟨pg_tup hc h.pg hn hst, fun P s s' G σ H d v R e r rp k => by
    cases d with
    | tup ds =>
      obtain ⟨a, xs, rfl, g, p, rr, z, q⟩ := rep_t rp
      have e' : setAll s is ds = some s' := e
      have hlen : ∀ (is : List Nat) (ds : List D) (s s' : Sd), setAll s is ds = some s' → ds.length = is.length := by
        intro is
        induction is with
        | nil => intro ds s s' e; cases ds with
          | nil => rfl
          | cons => cases e
        | cons i is ih => intro ds s s' e; cases ds with
          | nil => cases e
          | cons d ds => rw [List.length_cons, List.length_cons, ih ds _ _ e]
      refine ⟨a, xs, rfl, SqT.of rr, by rw [← q.length, hlen _ _ _ _ e', hl], ?_⟩
      exact h.lg P s s' G σ H ds xs R e' r q k
    | _ => cases e⟩
end
def compW (s0 : Sd) (t : Tg) (tt : ET) (te : EE) (Kp : Gp → Prop) : List D → List D → Gp → (List D → Gp → Prop) → Prop
  | [], acc, G, Q => Kp G ∧ Q acc G
  | d :: ds, acc, G, Q => Kp G ∧ match asg t d s0 with
    | none => False
    | some s => tt s G fun b G1 => if b = true then te s G1 fun y G2 => compW s0 t tt te Kp ds (acc ++ [y]) G2 Q else compW s0 t tt te Kp ds acc G1 Q
@[simp] def eLc (ti : EI) (t : Tg) (tt : ET) (te : EE) (vs : List Nat) : EE := fun s G Q => ti s G fun ds Kp G1 => compW (wipeD s vs) t tt te Kp ds [] G1 fun acc G2 => Q (.lst acc) G2
@[simp] def eLcO (ti : EI) (t : Tg) (tt : ET) (te : EE) (vs : List Nat) : EE := fun s G Q => ti s G fun ds Kp G1 => compW (wipeD s vs) t tt te Kp ds [] G1 fun acc G2 => ∀ p, G2 p = none → Q (.ref p) (gput G2 p (.lst acc))
@[simp] def eYes : ET := fun _ G Q => Q true G
inductive JTs (X : Cx) (ifs : List Expr) (t : ET) : Prop where
  | mk {te : TT} (a : PTs X ifs te) (b : LT X.K te t) : JTs X ifs t
theorem JTs.pt {X : Cx} {ifs : List Expr} {t : ET} (h : JTs X ifs t) : PTs X ifs (upT X.K t) := by
  obtain ⟨a, b⟩ := h
  exact ⟨fun pins s σ H Q I ⟨P, s', G, Q', h1, h2, h3⟩ => a.run pins s σ H Q I (b P s' G Q' σ H Q h1 h2 h3)⟩
theorem JTs.lt {X : Cx} {ifs : List Expr} {t : ET} (h : JTs X ifs t) : LT X.K (upT X.K t) t := fun P s G Q σ H R h1 h2 h3 => ⟨P, s, G, Q, h1, h2, h3⟩
theorem jts_nil {X : Cx} : JTs X [] eYes := ⟨pts_nil, fun P s G Q σ H R h r k => k true G H (Step.refl _ _) r.wo h⟩
theorem jts_one {X : Cx} {c : Expr} {t : ET} (h : JT X c t) : JTs X [c] t := ⟨pts_one h.pt, h.lt⟩
theorem Rl.addP {K : PySem.W.Frag} {P : Addr → Prop} {s : Sd} {G : Gp} {σ : St} {H : Hp} {p : Addr} {o : HO} (r : Rl K P s G σ H) (h : H p = none) (nt : ∀ ys, o ≠ .tup ys := by intro _ h; cases h) : Rl K (prvAdd P p) s G σ (upd H p o) := by
  refine ⟨r.wo.add h nt, r.len, fun i d e => ?_⟩
  obtain ⟨v, e1, e2⟩ := r.at_ i d e
  refine ⟨v, e1, e2.mono (Step.new h) fun b hb q => ?_⟩
  rcases q with q | q
  · exact q
  · subst q; obtain ⟨x, e⟩ := hb; rw [h] at e; cases e
/-- the loop of a comprehension -/
theorem lc_loop {K : PySem.W.Frag} {P : Addr → Prop} {s : Sd} {σ : St} {g : TG} {tt : TT} {te : TE} {t : Tg} {et : ET} {ee : EE} {vs : List Nat} {Kp : Gp → Prop} {J : It} {ds : List D} {G1 : Gp} {H1 : Hp} {Dl : Addr} {Q : List D → Gp → Prop} {R : Hp → Prop}
    (hg : LG K g t) (ht : LT K tt et) (he : LE K te ee) (hv : ∀ i ∈ t.ix, i ∈ vs) (wk : Wk K P G1 H1 Kp J ds) (r : Rl K P s G1 σ H1) (hD : H1 Dl = none) (h : compW (wipeD s vs) t et ee Kp ds [] G1 Q)
    (k : ∀ acc xs G H, Step G1 H1 G H → Wo K (prvAdd P Dl) G H → H Dl = some (.lst xs) → Reps K H G (prvAdd P Dl) acc xs → acc.length ≤ sizeLine → Q acc G → R H) :
    ∃ W : Nat → Nat → Hp → Prop, (∃ m, W 0 m (upd H1 Dl (.lst []))) ∧ ∀ i m H, W i m H → (J.stop i H ∧ R H) ∨ (J.go i H ∧ ∃ Nx : Hp → Prop, (∀ H', Nx H' → ∃ m', m' < m ∧ W (i + 1) m' H') ∧ ∀ x H', J.yld i H x H' → g x (wipe σ vs) H' fun σ2 H2 => wipe σ2 vs = wipe σ vs ∧ tt σ2 H2 fun b H3 =>
      if b = true then te σ2 H3 fun y H4 => ∃ acc, H4 Dl = some (.lst acc) ∧ acc.length < sizeLine ∧ Nx (upd H4 Dl (.lst (acc ++ [y]))) else Nx H3) := by
  obtain ⟨hz, wk⟩ := wk
  have hPP : ∀ a, (∃ ho, H1 a = some ho) → prvAdd P Dl a → P a := fun a ha q => by
    rcases q with q | q
    · exact q
    · subst q; obtain ⟨x, e⟩ := ha; rw [hD] at e; cases e
  let Pp := prvAdd P Dl
  let W : Nat → Nat → Hp → Prop := fun i m H => ∃ G acc xs, Step G1 H1 G H ∧ Wo K Pp G H ∧ H Dl = some (.lst xs) ∧ Reps K H G Pp acc xs ∧ acc.length ≤ i ∧ i ≤ ds.length ∧ m = ds.length - i ∧ compW (wipeD s vs) t et ee Kp (ds.drop i) acc G Q
  have r1 : Rl K Pp s G1 σ (upd H1 Dl (.lst [])) := r.addP hD
  refine ⟨W, ⟨ds.length, G1, [], [], Step.new hD, r1.wo, upd_same, reps_nil, Nat.le_refl _, Nat.zero_le _, rfl, h⟩, fun i m H hW => ?_⟩
  obtain ⟨G, acc, xs, st, w, eD, q, z, hi, rfl, hc⟩ := hW
  have rr : Rl K Pp s G σ H := by
    refine ⟨w, r.len, fun i d e => ?_⟩
    obtain ⟨v, e1, e2⟩ := r.at_ i d e
    exact ⟨v, e1, e2.mono st hPP⟩
  by_cases hlt : i < ds.length
  · have hd : ds[i]? = some ds[i] := List.getElem?_eq_getElem hlt
    have edrop : ds.drop i = ds[i] :: ds.drop (i + 1) := List.drop_eq_getElem_cons hlt
    rw [edrop, compW] at hc
    obtain ⟨kp, hc⟩ := hc
    obtain ⟨go, yl⟩ := (wk Pp G H i hPP st w kp).1 _ hd
    refine .inr ⟨go, fun H' => ∃ G acc xs, Step G1 H1 G H' ∧ Wo K Pp G H' ∧ H' Dl = some (.lst xs) ∧ Reps K H' G Pp acc xs ∧ acc.length ≤ i + 1 ∧ compW (wipeD s vs) t et ee Kp (ds.drop (i + 1)) acc G Q, fun H' hN => ?_, fun x H' hy => ?_⟩
    · obtain ⟨G, acc, xs, a1, a2, a3, a4, a5, a6⟩ := hN
      exact ⟨ds.length - (i + 1), by omega, G, acc, xs, a1, a2, a3, a4, a5, hlt, rfl, a6⟩
    · obtain ⟨s1, w1, rx⟩ := yl x H' hy
      cases ea : asg t ds[i] (wipeD s vs) with
      | none => rw [ea] at hc; exact hc.elim
      | some s' =>
        rw [ea] at hc
        refine hg Pp (wipeD s vs) s' G (wipe σ vs) H' _ x _ ea ((rr.step s1 w1).wipe vs) rx fun σ2 r2 hw => ⟨(hw vs hv).trans wipe_wipe, ?_⟩
        have gD : G Dl = none := (w.prv Dl (.inr rfl)).1
        have eD1 := s1.keep Dl _ eD gD
        refine ht Pp s' G _ σ2 H' _ hc r2 fun b G2 H3 s2 w2 h2 => ?_
        have eD2 := s2.keep Dl _ eD1.1 eD1.2
        cases b with
        | false =>
          exact ⟨G2, acc, xs, (st.trans s1).trans s2, w2, eD2.1, (q.step s1).step s2, Nat.le_succ_of_le z, h2⟩
        | true =>
          refine he Pp s' G2 _ σ2 H3 _ h2 (r2.step s2 w2) fun y G3 v H4 s3 w3 r3 h3 => ?_
          have eD3 := s3.keep Dl _ eD2.1 eD2.2
          have q3 := ((q.step s1).step s2).step s3
          have hf : ∀ o' ys, H4 Dl ≠ some (.frz o' ys) := fun o' ys e => by rw [eD3.1] at e; cases e
          refine ⟨xs, eD3.1, by rw [← q3.length]; omega, G3, acc ++ [y], xs ++ [v], (((st.trans s1).trans s2).trans s3).out hD, w3.prvUpd (.inr rfl) hf, upd_same, ?_, by rw [List.length_append]; simp; omega, h3⟩
          exact (q3.append (reps_cons r3 reps_nil)).prv (.inr rfl) hf
  · have hi2 : ds.length ≤ i := by omega
    have edrop : ds.drop i = [] := List.drop_eq_nil_of_le hi2
    rw [edrop, compW] at hc
    exact .inl ⟨(wk Pp G H i hPP st w hc.1).2 hi2, k acc xs G H st w eD q (by omega) hc.2⟩
section
variable {X : Cx} {elt tg iter : Expr} {ifs : List Expr} {scope : Scope} {own : List (Str × Nat)} {pos : Pos} {wi : TI} {ei : EI} {g : TG} {t : Tg} {tt : TT} {et : ET} {te : TE} {ee : EE}
theorem le_lc {K : PySem.W.Frag} {vs : List Nat} (hi : LI K wi ei) (hg : LG K g t) (ht : LT K tt et) (he : LE K te ee) (hv : ∀ i ∈ t.ix, i ∈ vs) : LE K (tLc wi g tt te vs) (eLc ei t et ee vs) := fun P s G Q σ H R h r k => by
  refine hi P s G _ σ H _ h r fun ds Kp G1 J H1 s1 w1 wk h1 => ?_
  intro Dl hD
  refine lc_loop hg ht he hv wk (r.step s1 w1) hD h1 fun acc xs G2 H2 st w2 eD q z hQ => ?_
  exact k _ G2 _ H2 (s1.trans st) w2.sub (rep_lst (w2.prv Dl (.inr rfl)).1 (fun p => (w1.fresh hD).2 p) eD z q.sub) hQ
theorem le_lcO {K : PySem.W.Frag} {vs : List Nat} (hi : LI K wi ei) (hg : LG K g t) (ht : LT K tt et) (he : LE K te ee) (hv : ∀ i ∈ t.ix, i ∈ vs) : LE K (tLc wi g tt te vs) (eLcO ei t et ee vs) := fun P s G Q σ H R h r k => by
  refine hi P s G _ σ H _ h r fun ds Kp G1 J H1 s1 w1 wk h1 => ?_
  intro Dl hD
  refine lc_loop hg ht he hv wk (r.step s1 w1) hD h1 fun acc xs G2 H2 st w2 eD q z hQ => ?_
  have gD : G2 Dl = none := (w2.prv Dl (.inr rfl)).1
  have hf : ∀ o' ys, H2 Dl ≠ some (.frz o' ys) := fun o' ys e => by rw [eD] at e; cases e
  have step1 : Step G1 H1 (gput G2 Dl (.lst acc)) H2 := by
    refine ⟨fun a o e g1 => ?_, fun a o e => ?_⟩
    · have ne : a ≠ Dl := ne_of_none e hD
      exact ⟨(st.keep a o e g1).1, by rw [gput_ne ne]; exact (st.keep a o e g1).2⟩
    · by_cases ne : a = Dl
      · subst ne; exact ⟨_, gput_same⟩
      · obtain ⟨o', e'⟩ := st.own a o e
        exact ⟨o', by rw [gput_ne ne]; exact e'⟩
  refine k _ _ _ H2 (s1.trans step1) (w2.toOwn (w1.fresh hD).2 eD ⟨xs, rfl, z, q.toOwn hf⟩ hf) ?_ (hQ Dl gD)
  unfold Rep
  exact ⟨rfl, _, gput_same⟩
theorem j_lc (hc : X.calm = true) (hN : X.N.Nodup) (hi : JI X tg iter ei) (ok : BlkOk X.N X.env.scope scope own) (hg : ∀ (s : Shared) (H : Hp) (C : Addr) (cl : List (Str × Addr)) (fp : List Addr), JG (X.blk s H scope (compEnvC scope cl C X.env) fp) tg t)
    (ht : ∀ (s : Shared) (H : Hp) (C : Addr) (cl : List (Str × Addr)) (fp : List Addr), JTs (X.blk s H scope (compEnvC scope cl C X.env) fp) ifs et) (he : ∀ (s : Shared) (H : Hp) (C : Addr) (cl : List (Str × Addr)) (fp : List Addr), JE (X.blk s H scope (compEnvC scope cl C X.env) fp) elt ee)
    (hv : ∀ i ∈ t.ix, i ∈ own.map (·.2) := by decide) (hs : ∀ x, foldedSetIterable iter X.env x = pure x := by intro _; rfl) : JE X (.ListComp elt [⟨tg, iter, ifs, 0⟩] scope pos) (eLc ei t et ee (own.map (·.2))) :=
  ⟨pe_lc hc hN hi.pi ok (fun s H C cl fp => (hg s H C cl fp).pg) (fun s H C cl fp => (ht s H C cl fp).pt) (fun s H C cl fp => (he s H C cl fp).pe) hs, le_lc hi.li (hg X.s_0 X.H_0 0 [] []).lg (ht X.s_0 X.H_0 0 [] []).lt (he X.s_0 X.H_0 0 [] []).le hv⟩
theorem j_lcO (hc : X.calm = true) (hN : X.N.Nodup) (hi : JI X tg iter ei) (ok : BlkOk X.N X.env.scope scope own) (hg : ∀ (s : Shared) (H : Hp) (C : Addr) (cl : List (Str × Addr)) (fp : List Addr), JG (X.blk s H scope (compEnvC scope cl C X.env) fp) tg t)
    (ht : ∀ (s : Shared) (H : Hp) (C : Addr) (cl : List (Str × Addr)) (fp : List Addr), JTs (X.blk s H scope (compEnvC scope cl C X.env) fp) ifs et) (he : ∀ (s : Shared) (H : Hp) (C : Addr) (cl : List (Str × Addr)) (fp : List Addr), JE (X.blk s H scope (compEnvC scope cl C X.env) fp) elt ee)
    (hv : ∀ i ∈ t.ix, i ∈ own.map (·.2) := by decide) (hs : ∀ x, foldedSetIterable iter X.env x = pure x := by intro _; rfl) : JE X (.ListComp elt [⟨tg, iter, ifs, 0⟩] scope pos) (eLcO ei t et ee (own.map (·.2))) :=
  ⟨pe_lc hc hN hi.pi ok (fun s H C cl fp => (hg s H C cl fp).pg) (fun s H C cl fp => (ht s H C cl fp).pt) (fun s H C cl fp => (he s H C cl fp).pe) hs, le_lcO hi.li (hg X.s_0 X.H_0 0 [] []).lg (ht X.s_0 X.H_0 0 [] []).lt (he X.s_0 X.H_0 0 [] []).le hv⟩
end
end DL
set_option Elab.async false
set_option linter.all false
set_option maxRecDepth 100000
set_option maxHeartbeats 4000000
namespace DL
open PySem L2
@[simp] def sNext : ES := fun N s G => N.nx s G
def sSeq (t u : ES) : ES := fun N s G => t { N with nx := u N } s G
@[simp] def sBreak : ES := fun N s G => N.bk s G
@[simp] def sCont : ES := fun N s G => N.ct s G
@[simp] def sDrop (te : EE) : ES := fun N s G => te s G fun _ G1 => N.nx s G1
@[simp] def sRet (te : EE) : ES := fun N s G => te s G N.rt
@[simp] def sRetN : ES := fun N _ G => N.rt .non G
@[simp] def sIf (c : ET) (t u : ES) : ES := fun N s G => c s G fun b G1 => if b = true then t N s G1 else u N s G1
@[simp] def sNever : ES := fun _ _ _ => False
@[simp] def sAsg (te : EE) (t : Tg) : ES := fun N s G => te s G fun d G1 => match asg t d s with
  | some s' => N.nx s' G1
  | none => False
/-- one statement, then the rest: what follows is a letter -/
theorem seq_gen {t u : ES} {N : En} {s : Sd} {G : Gp} (h : ∀ W : Sd → Gp → Prop, (∀ s' G', u N s' G' → W s' G') → t { N with nx := W } s G) : sSeq t u N s G := h (u N) fun _ _ x => x
section
variable {X : Cx} {Y : Wx} {K : PySem.W.Frag} {st : Stmt} {rest : List Stmt} {t u : TS} {et eu : ES} {e : Expr} {te : TE} {ee : EE} {pos : Pos}
theorem ls_next : LS K Y tNext sNext := fun P s G N σ H M h r k => k.nx s G σ H (Step.refl _ _) r h
theorem ls_seq (h1 : LS K Y t et) (h2 : LS K Y u eu) : LS K Y (tSeq t u) (sSeq et eu) := fun P s G N σ H M h r k =>
  h1 P s G _ σ H _ h r ⟨fun s' G' σ' H' st r' h' => h2 P s' G' N σ' H' M h' r' (k.step st), k.rt, k.bk, k.ct, k.xr⟩
theorem jss_nil : JSs X Y [] sNext := ⟨pss_nil, ls_next⟩
theorem jss_cons (h1 : JS X Y st et) (h2 : JSs X Y rest eu) : JSs X Y (st :: rest) (sSeq et eu) := ⟨pss_cons h1.ps h2.ps, ls_seq h1.ls h2.ls⟩
theorem jss_one (h1 : JS X Y st et) : JSs X Y [st] et := ⟨pss_one h1.ps, h1.ls⟩
theorem js_expr (he : JE X e ee) (hs : swapsWith e none pos.line X.env = pure false := by rfl) : JS X Y (.Expr e pos) (sDrop ee) := ⟨ps_expr he.pe hs, fun P s G N σ H M h r k => he.le P s G _ σ H _ h r fun d G' v H' st w rp q => k.nx s G' σ H' st (r.step st w) q⟩
theorem js_ret (he : JE X e ee) : JS X Y (.Return (some e) pos) (sRet ee) := ⟨ps_ret he.pe, fun P s G N σ H M h r k => he.le P s G _ σ H _ h r fun d G' v H' st w rp q => k.rt d G' v H' st w rp q⟩
theorem js_if {c : Expr} {a b : List Stmt} {ec : ET} (hc : JT X c ec) (ha : JSs X Y a et) (hb : JSs X Y b eu) : JS X Y (.If c a b pos) (sIf ec et eu) := ⟨ps_if hc.pt ha.ps hb.ps, fun P s G N σ H M h r k => by
  refine hc.lt P s G _ σ H _ h r fun b G' H' st w q => ?_
  cases b with
  | true => exact ha.ls P s G' N σ H' M q (r.step st w) (k.step st)
  | false => exact hb.ls P s G' N σ H' M q (r.step st w) (k.step st)⟩
theorem ls_asg {g : TG} {tg : Tg} (he : LE K te ee) (hg : LG K g tg) : LS K Y (tAsg te g) (sAsg ee tg) := fun P s G N σ H M h r k => by
  refine he P s G _ σ H _ h r fun d G' v H' st w rp q => ?_
  cases ea : asg tg d s with
  | none => rw [ea] at q; exact q.elim
  | some s' =>
    rw [ea] at q
    exact hg P s s' G' σ H' d v _ ea (r.step st w) rp fun σ' r' _ => k.nx s' G' σ' H' st r' q
theorem js_set {i : Nat} {x : Str} {pos' : Pos} (hN : X.N.Nodup) (hi : X.N[i]? = some x) (hx : Loc X.env.scope x) (he : JE X e ee) (hs : swapsWith e (some (.Name x pos')) pos.line X.env = pure false := by rfl)
    (hf : X.fn x = true ∨ X.env.scope.names.lookup x = some .local := by first | exact .inl rfl | exact .inr rfl | assumption) : JS X Y (.Assign [.Name x pos'] e pos) (sAsg ee (.nm i)) := ⟨ps_set hN hi hx he.pe hs hf, ls_asg he.le lg_nm⟩
/-- name = [..] on one line -/
theorem js_setLc {i : Nat} {y : Str} {py : Pos} {elt tg iter : Expr} {ifs : List Expr} {scope : Scope} {own : List (Str × Nat)} {pos spos : Pos} {ei : EI} {t : Tg} {et : ET} {ee : EE} (hc : X.calm = true) (hN : X.N.Nodup) (hy : X.N[i]? = some y) (hyl : X.env.scope.names.lookup y = some .local)
    (hsw : swapsWith (.ListComp elt [⟨tg, iter, ifs, 0⟩] scope pos) (some (.Name y py)) spos.line X.env = pure true) (hi : JI X tg iter ei) (ok : BlkOk X.N X.env.scope scope own)
    (hg : ∀ (s : Shared) (H : Hp) (C : Addr) (cl : List (Str × Addr)) (fp : List Addr), JG (X.blk s H scope (compEnvC scope cl C X.env) fp) tg t) (ht : ∀ (s : Shared) (H : Hp) (C : Addr) (cl : List (Str × Addr)) (fp : List Addr), JTs (X.blk s H scope (compEnvC scope cl C X.env) fp) ifs et)
    (he : ∀ (s : Shared) (H : Hp) (C : Addr) (cl : List (Str × Addr)) (fp : List Addr), JE (X.blk s H scope (compEnvC scope cl C X.env) fp) elt ee) (hv : ∀ i ∈ t.ix, i ∈ own.map (·.2) := by decide) (hs : ∀ x, foldedSetIterable iter X.env x = pure x := by intro _; rfl) :
    JS X Y (.Assign [.Name y py] (.ListComp elt [⟨tg, iter, ifs, 0⟩] scope pos) spos) (sAsg (eLc ei t et ee (own.map (·.2))) (.nm i)) :=
  ⟨ps_setLc hc hN hy hyl hsw hi.pi ok (fun s H C cl fp => (hg s H C cl fp).pg) (fun s H C cl fp => (ht s H C cl fp).pt) (fun s H C cl fp => (he s H C cl fp).pe) hs, ls_asg (le_lc hi.li (hg X.s_0 X.H_0 0 [] []).lg (ht X.s_0 X.H_0 0 [] []).lt (he X.s_0 X.H_0 0 [] []).le hv) lg_nm⟩
theorem js_setLcO {i : Nat} {y : Str} {py : Pos} {elt tg iter : Expr} {ifs : List Expr} {scope : Scope} {own : List (Str × Nat)} {pos spos : Pos} {ei : EI} {t : Tg} {et : ET} {ee : EE} (hc : X.calm = true) (hN : X.N.Nodup) (hy : X.N[i]? = some y) (hyl : X.env.scope.names.lookup y = some .local)
    (hsw : swapsWith (.ListComp elt [⟨tg, iter, ifs, 0⟩] scope pos) (some (.Name y py)) spos.line X.env = pure true) (hi : JI X tg iter ei) (ok : BlkOk X.N X.env.scope scope own)
    (hg : ∀ (s : Shared) (H : Hp) (C : Addr) (cl : List (Str × Addr)) (fp : List Addr), JG (X.blk s H scope (compEnvC scope cl C X.env) fp) tg t) (ht : ∀ (s : Shared) (H : Hp) (C : Addr) (cl : List (Str × Addr)) (fp : List Addr), JTs (X.blk s H scope (compEnvC scope cl C X.env) fp) ifs et)
    (he : ∀ (s : Shared) (H : Hp) (C : Addr) (cl : List (Str × Addr)) (fp : List Addr), JE (X.blk s H scope (compEnvC scope cl C X.env) fp) elt ee) (hv : ∀ i ∈ t.ix, i ∈ own.map (·.2) := by decide) (hs : ∀ x, foldedSetIterable iter X.env x = pure x := by intro _; rfl) :
    JS X Y (.Assign [.Name y py] (.ListComp elt [⟨tg, iter, ifs, 0⟩] scope pos) spos) (sAsg (eLcO ei t et ee (own.map (·.2))) (.nm i)) :=
  ⟨ps_setLc hc hN hy hyl hsw hi.pi ok (fun s H C cl fp => (hg s H C cl fp).pg) (fun s H C cl fp => (ht s H C cl fp).pt) (fun s H C cl fp => (he s H C cl fp).pe) hs, ls_asg (le_lcO hi.li (hg X.s_0 X.H_0 0 [] []).lg (ht X.s_0 X.H_0 0 [] []).lt (he X.s_0 X.H_0 0 [] []).le hv) lg_nm⟩
/-- a, b = e -/
theorem js_asgT {tg : Expr} {t : Tg} (he : JE X e ee) (hg : JG X tg t) (hp : PS X (.Assign [tg] e pos) (tAsg (upE X.K ee) (upG X.K t))) : JS X Y (.Assign [tg] e pos) (sAsg ee t) := ⟨hp, ls_asg he.le hg.lg⟩
/-- name += e, name -= e -/
@[simp] def sAug (i : Nat) (te : EE) (f : Int → Int → Int) : ES := fun N s G => match s[i]? with
  | some (some (.int a)) => te s G fun y G1 => (match y with
    | .int b => N.nx (s.set i (some (.int (f a b)))) G1
    | _ => False)
  | _ => False
def forW (t : Tg) (tb : ES) (Kp : Gp → Prop) (N : En) : List D → Sd → Gp → Prop
  | [], s, G => Kp G ∧ N.nx s G
  | d :: ds, s, G => Kp G ∧ match asg t d s with
    | some s' => tb { N with nx := forW t tb Kp N ds, ct := forW t tb Kp N ds, bk := N.nx } s' G
    | none => False
@[simp] def sFor (ti : EI) (t : Tg) (tb : ES) : ES := fun N s G => ti s G fun ds Kp G1 => forW t tb Kp N ds s G1
theorem ls_for {wi : TI} {ei : EI} {g : TG} {tg : Tg} {tb : TS} {eb : ES} (hi : LI K wi ei) (hg : LG K g tg) (hb : LS K Y tb eb) : LS K Y (tFor wi g tb) (sFor ei tg eb) := fun P s G N σ H M h r k => by
  refine hi P s G _ σ H _ h r fun ds Kp G1 J H1 s1 w1 wk h1 => ?_
  obtain ⟨hz, wk⟩ := wk
  refine ⟨fun i m σ H => ∃ s G, Step G1 H1 G H ∧ Rl K P s G σ H ∧ i ≤ ds.length ∧ m = ds.length - i ∧ forW tg eb Kp N (ds.drop i) s G, ⟨_, s, G1, Step.refl _ _, r.step s1 w1, Nat.zero_le _, rfl, h1⟩, fun i m σ H hW => ?_⟩
  obtain ⟨s, G, st, rl, hi, rfl, hc⟩ := hW
  by_cases hlt : i < ds.length
  · have hd : ds[i]? = some ds[i] := List.getElem?_eq_getElem hlt
    rw [List.drop_eq_getElem_cons hlt, forW] at hc
    obtain ⟨kp, hc⟩ := hc
    obtain ⟨go, yl⟩ := (wk P G H i (fun _ _ q => q) st rl.wo kp).1 _ hd
    refine .inr ⟨go, fun σ' H' => ∃ s G, Step G1 H1 G H' ∧ Rl K P s G σ' H' ∧ forW tg eb Kp N (ds.drop (i + 1)) s G, fun σ' H' hN => ?_, fun x H' hy => ?_⟩
    · obtain ⟨s, G, a1, a2, a3⟩ := hN
      exact ⟨ds.length - (i + 1), by omega, s, G, a1, a2, hlt, rfl, a3⟩
    · obtain ⟨s2, w2, rx⟩ := yl x H' hy
      cases ea : asg tg ds[i] s with
      | none => rw [ea] at hc; exact hc.elim
      | some s' =>
        rw [ea] at hc
        refine hg P s s' G σ H' _ x _ ea (rl.step s2 w2) rx fun σ2 r2 _ => ?_
        have sA := st.trans s2
        exact hb P s' G _ σ2 H' _ hc r2 ⟨fun a b c d x y z => ⟨a, b, sA.trans x, y, z⟩, fun a b c d x y z w => k.rt a b c d ((s1.trans sA).trans x) y z w, fun a b c d x y z => k.nx a b c d ((s1.trans sA).trans x) y z, fun a b c d x y z => ⟨a, b, sA.trans x, y, z⟩, (k.step (s1.trans sA)).xr⟩
  · have hi2 : ds.length ≤ i := by omega
    rw [List.drop_eq_nil_of_le hi2, forW] at hc
    exact .inl ⟨(wk P G H i (fun _ _ q => q) st rl.wo hc.1).2 hi2, k.nx s G σ H (s1.trans st) rl hc.2⟩
theorem js_for {tg iter : Expr} {body : List Stmt} {ei : EI} {t : Tg} {eb : ES} (hp : PassesOwn (model X.prog X.w) X.A X.env X.xe) (hc : X.calm = true) (hi : JI X tg iter ei) (hg : JG X tg t) (hb : JSs X Y body eb) (hs : ∀ x, foldedSetIterable iter X.env x = pure x := by intro _; rfl) :
    JS X Y (.For tg iter body [] pos) (sFor ei t eb) := ⟨ps_for hp hc hi.pi hg.pg hb.ps hs, ls_for hi.li hg.lg hb.ls⟩
def whW (c : ET) (tb : ES) (N : En) : Nat → Sd → Gp → Prop
  | 0, _, _ => False
  | n + 1, s, G => c s G fun b G1 => if b = true then tb { N with nx := whW c tb N n, ct := whW c tb N n, bk := N.nx } s G1 else N.nx s G1
def sWhile (c : ET) (tb : ES) : ES := fun N s G => ∃ n, whW c tb N n s G
theorem ls_while {tc : TT} {ec : ET} {tb : TS} {eb : ES} (hc : LT K tc ec) (hb : LS K Y tb eb) : LS K Y (tWhile tc tb) (sWhile ec eb) := fun P s G N σ H M h r k => by
  obtain ⟨n, h⟩ := h
  refine ⟨fun m σ' H' => ∃ s' G', Step G H G' H' ∧ Rl K P s' G' σ' H' ∧ whW ec eb N m s' G', ⟨n, s, G, Step.refl _ _, r, h⟩, fun m σ' H' hW => ?_⟩
  obtain ⟨s', G', st, rl, hw⟩ := hW
  cases m with
  | zero => exact hw.elim
  | succ m =>
    refine hc P s' G' _ σ' H' _ hw rl fun b G2 H2 s2 w2 q => ?_
    cases b with
    | false => exact k.nx s' G2 σ' H2 (st.trans s2) (rl.step s2 w2) q
    | true =>
      have sA := st.trans s2
      refine ⟨fun σ3 H3 => ∃ s3 G3, Step G H G3 H3 ∧ Rl K P s3 G3 σ3 H3 ∧ whW ec eb N m s3 G3, fun σ3 H3 hN => ⟨m, Nat.lt_succ_self m, hN⟩, ?_⟩
      exact hb P s' G2 _ σ' H2 _ q (rl.step s2 w2) ⟨fun a b c d x y z => ⟨a, b, sA.trans x, y, z⟩, fun a b c d x y z w => k.rt a b c d (sA.trans x) y z w, fun a b c d x y z => k.nx a b c d (sA.trans x) y z, fun a b c d x y z => ⟨a, b, sA.trans x, y, z⟩, (k.step sA).xr⟩
theorem js_while {c : Expr} {body : List Stmt} {ec : ET} {eb : ES} (hp : PassesOwn (model X.prog X.w) X.A X.env X.xe) (hc : JT X c ec) (hb : JSs X Y body eb) : JS X Y (.While c body [] pos) (sWhile ec eb) := ⟨ps_while hp hc.pt hb.ps, ls_while hc.lt hb.ls⟩
/-- o[i] = e, o an owned list -/
@[simp] def sSetIx (te to ti : EE) : ES := fun N s G => te s G fun v G1 => to s G1 fun o G2 => ti s G2 fun i G3 => match o, i with
  | .ref p, .int k => (match G3 p with
    | some (.lst ds) => (match ixN ds.length k with
      | some j => N.nx s (gput G3 p (.lst (ds.set j v)))
      | none => False)
    | _ => False)
  | _, _ => False
theorem js_setIx {o i : Expr} {eo ei : EE} {p' : Pos} (he : JE X e ee) (ho : JE X o eo) (hi : JE X i ei) (hp : PS X (.Assign [.Subscript o i p'] e pos) (tAsg (upE X.K ee) (gSub (upE X.K eo) (upE X.K ei) rSetL))) : JS X Y (.Assign [.Subscript o i p'] e pos) (sSetIx ee eo ei) :=
  ⟨hp, fun P s G N σ H M h r k => by
    refine he.le P s G _ σ H _ h r fun v G1 u H1 s1 w1 r1 h1 => ?_
    refine ho.le P s G1 _ σ H1 _ h1 (r.step s1 w1) fun od G2 ov H2 s2 w2 r2 h2 => ?_
    refine hi.le P s G2 _ σ H2 _ h2 (r.step (s1.trans s2) w2) fun id G3 iv H3 s3 w3 r3 h3 => ?_
    split at h3
    · rename_i p kk
      split at h3
      · rename_i ds e1
        split at h3
        · rename_i j e2
          have r2' := r2.step s3
          unfold Rep at r2'
          obtain ⟨rfl, _⟩ := r2'
          rw [rep_i r3]
          obtain ⟨ho', e3, xs, rfl, z, q⟩ := w3.own p _ e1
          refine ⟨p, xs, kk, j, rfl, rfl, e3, by rw [← q.length]; exact e2, ?_⟩
          have st : Step G3 H3 (gput G3 p (.lst (ds.set j v))) (upd H3 p (.lst (xs.set j u))) := Step.chg e1
          have sA := (((s1.trans s2).trans s3).trans st)
          have rv := (r1.step s2).step s3
          exact k.nx s _ σ _ sA (r.step sA (w3.chg e1 ⟨_, rfl, by rw [List.length_set]; exact z, (q.set rv j).step st⟩)) h3
        · exact h3.elim
      · exact h3.elim
    · exact h3.elim⟩
/-- methods of built-in types on owned lists, by values -/
abbrev MD := D → List D → Gp → DK → Prop
def LM (K : PySem.W.Frag) (r : V → List V → Hp → VK → Prop) (c : MD) : Prop := ∀ (P : Addr → Prop) (G : Gp) (H : Hp) (x : D) (u : V) (xs : List D) (us : List V) (Q : DK) (R : VK), c x xs G Q → Wo K P G H → Rep K H G P x u → Reps K H G P xs us →
  (∀ d G' w H', Step G H G' H' → Wo K P G' H' → Rep K H' G' P d w → Q d G' → R w H') → r u us H R
@[simp] def isLst (G : Gp) : D → Prop
  | .lst _ => True
  | .ref a => ∃ ds, G a = some (.lst ds)
  | _ => False
/-- o.m(..), o a list -/
@[simp] def eBm (c : MD) (to : EE) (t : EA) : EE := fun s G Q => to s G fun x G1 => isLst G1 x ∧ t s G1 fun xs G2 => c x xs G2 Q
theorem ty_lst {P : Addr → Prop} {G : Gp} {H : Hp} (w : Wo K P G H) {x : D} {u : V} (r : Rep K H G P x u) (h : isLst G x) : tyV K "list" u H := by
  cases x with
  | lst ds => obtain ⟨a, xs, rfl, g, p, rr, z, q⟩ := rep_l r; exact .inl ⟨rfl, xs, SqL.of rr⟩
  | ref a =>
    obtain ⟨ds, e⟩ := h
    unfold Rep at r
    obtain ⟨rfl, _⟩ := r
    obtain ⟨ho, e1, xs, rfl, z, q⟩ := w.own a _ e
    exact .inl ⟨rfl, xs, SqL.of e1⟩
  | _ => exact h.elim
theorem le_bm {n : Nat} {r : V → List V → Hp → VK → Prop} {c : MD} {to : TE} {eo : EE} {t : TA} {ea : EA} (hm : LM K r c) (ho : LE K to eo) (ha : LA K n t ea) : LE K (tBM K "list" r to t) (eBm c eo ea) := fun P s G Q σ H R h rl k => by
  refine ho P s G _ σ H _ h rl fun x G1 u H1 s1 w1 r1 h1 => ?_
  refine ⟨ty_lst w1 r1 h1.1, ?_⟩
  refine ha P s G1 _ σ H1 _ h1.2 (rl.step s1 w1) fun xs G2 us H2 s2 w2 r2 _ h2 => ?_
  exact hm P G2 H2 x u xs us Q R h2 w2 (r1.step s2) r2 fun d G' w H' st w' r' q' => k d G' w H' ((s1.trans s2).trans st) w' r' q'
theorem le_bm0 {r : V → List V → Hp → VK → Prop} {c : MD} {to : TE} {eo : EE} (hm : LM K r c) (ho : LE K to eo) : LE K (tBM0 K "list" r to) (eBm c eo eNil) := fun P s G Q σ H R h rl k => by
  refine ho P s G _ σ H _ h rl fun x G1 u H1 s1 w1 r1 h1 => ?_
  refine ⟨ty_lst w1 r1 h1.1, ?_⟩
  exact hm P G1 H1 x u [] [] Q R h1.2 w1 r1 reps_nil fun d G' w H' st w' r' q' => k d G' w H' (s1.trans st) w' r' q'
@[simp] def mApp : MD := fun x xs G Q => match x, xs with
  | .ref p, [y] => (match G p with
    | some (.lst ds) => ds.length < sizeLine ∧ Q .non (gput G p (.lst (ds ++ [y])))
    | _ => False)
  | _, _ => False
theorem lm_app : LM K rAppend mApp := fun P G H x u xs us Q R h w rx rs k => by
  unfold mApp at h
  split at h
  · rename_i p y
    split at h
    · rename_i ds e
      unfold Rep at rx
      obtain ⟨rfl, _⟩ := rx
      obtain ⟨v, rfl, ry⟩ := reps1 rs
      obtain ⟨ho, e1, ys, rfl, z, q⟩ := w.own p _ e
      refine ⟨p, ys, v, rfl, rfl, e1, by rw [← q.length]; exact h.1, ?_⟩
      have st : Step G H (gput G p (.lst (ds ++ [y]))) (upd H p (.lst (ys ++ [v]))) := Step.chg e
      exact k _ _ _ _ st (w.chg e ⟨_, rfl, by rw [List.length_append]; exact h.1, (q.append (reps_cons ry reps_nil)).step st⟩) rep_non h.2
    · exact h.elim
  · exact h.elim
/-- xs.extend(ys) -/
@[simp] def mExt : MD := fun x xs G Q => match x, xs with
  | .ref p, [y] => (match G p, lkL G y with
    | some (.lst ds), some es => (∀ ns, y ≠ .scr ns) ∧ ds.length + es.length ≤ sizeLine ∧ Q .non (gput G p (.lst (ds ++ es)))
    | _, _ => False)
  | _, _ => False
theorem lm_ext : LM K rExtend mExt := fun P G H x u xs us Q R h w rx rs k => by
  unfold mExt at h
  split at h
  · rename_i p y
    split at h
    · rename_i ds es e e2
      unfold Rep at rx
      obtain ⟨rfl, _⟩ := rx
      obtain ⟨v, rfl, ry⟩ := reps1 rs
      obtain ⟨ho, e1, ys, rfl, z, q⟩ := w.own p _ e
      obtain ⟨b, zs, rfl, e3, q2, z2⟩ := lk_hp w ry e2 h.1
      refine ⟨p, b, ys, zs, rfl, rfl, e1, e3, by rw [← q.length, ← q2.length]; exact h.2.1, ?_⟩
      have st : Step G H (gput G p (.lst (ds ++ es))) (upd H p (.lst (ys ++ zs))) := Step.chg e
      exact k _ _ _ _ st (w.chg e ⟨_, rfl, by rw [List.length_append]; exact h.2.1, (q.append q2).step st⟩) rep_non h.2.2
    · exact h.elim
  · exact h.elim
section
variable {o : Expr} {es : List Expr} {to : TE} {eo : EE} {t : TA} {ea : EA} {name : Str} {apos cpos : Pos} {id : String} {r : V → List V → Hp → VK → Prop} {c : MD}
theorem j_bm (pa : PlainAttrs "list") (slot : Slot "list" name id) (hty : typeOf (.builtin id) = pure (.type "method_descriptor")) (hm : MtR X id r) (lm : LM X.K r c) (ho : JE X o eo) (ha : JA X (e :: es) ea) (hbase : attributeBase o name X.env (eval o X.env) = eval o X.env := by rfl)
    (hfew : ((backTo cpos (starEach (e :: es) X.env)).all (fun x => !x.1) && (backToKw cpos (keywordEach [] X.env)).all (fun x => x.1.isSome) && decide ((e :: es).length + ([] : List Keyword).length + (if ([] : List Keyword).isEmpty then 0 else 1) < 30)) = true := by rfl) (hline : (apos.endLine == cpos.line) = true := by rfl)
    (hs : starEach (e :: es) X.env = (false, eval e X.env) :: starEach es X.env := by rfl) (hplain : (backTo cpos (starEach es X.env)).any (·.1) = false := by rfl) : JE X (.Call (.Attribute o name apos) (e :: es) [] cpos) (eBm c eo ea) :=
  ⟨pe_bm pa slot hty hm ho.pe ha.pa hbase hfew hline hs hplain, le_bm lm ho.le ha.la⟩
theorem j_bm0 (pa : PlainAttrs "list") (slot : Slot "list" name id) (hty : typeOf (.builtin id) = pure (.type "method_descriptor")) (hm : MtR X id r) (lm : LM X.K r c) (ho : JE X o eo) (hbase : attributeBase o name X.env (eval o X.env) = eval o X.env := by rfl) (hline : (apos.endLine == cpos.line) = true := by rfl) :
    JE X (.Call (.Attribute o name apos) [] [] cpos) (eBm c eo eNil) := ⟨pe_bm0 pa slot hty hm ho.pe hbase hline, le_bm0 lm ho.le⟩
end
end
end DL
set_option Elab.async false
set_option linter.all false
set_option maxRecDepth 100000
set_option maxHeartbeats 4000000
namespace DL
open PySem PySem.Spec PyProof.Rows L2
abbrev Sf := List D → Gp → DK → Prop
/-- a promise over data, over the heap -/
def Lf (K : PySem.W.Frag) (n : Nat) (f : Sf) : Sp := fun vs H R _ => vs.length = n ∧ ∃ (P : Addr → Prop) (ds : List D) (G : Gp) (Q : DK), Wo K P G H ∧ Reps K H G P ds vs ∧ f ds G Q ∧ ∀ d G' v H', Step G H G' H' → Wo K P G' H' → Rep K H' G' P d v → Q d G' → R v H'
@[simp] def eCall (f : Sf) (t : EA) : EE := fun s G Q => t s G fun ds G1 => f ds G1 Q
section
variable {X : Cx} {K : PySem.W.Frag}
theorem le_call {n : Nat} {f : Sf} {E : XK} {t : TA} {ea : EA} (ha : LA K n t ea) : LE K (tCall (Lf K n f) [] E t) (eCall f ea) := fun P s G Q σ H R h r k => by
  refine ha P s G _ σ H _ h r fun ds G1 vs H1 s1 w1 r1 l1 h1 => ?_
  rw [List.append_nil]
  exact ⟨by rw [← r1.length, l1], P, ds, G1, Q, w1, r1, h1, fun d G' v H' st w rp q => k d G' v H' (s1.trans st) w rp q⟩
abbrev FK (P : Program) (w : World) (K : PySem.W.Frag) (mg : Str → Option Value) (base : Heap) (k : Nat) (f : Addr) (fd : FuncData) (ps : List Str) (F : Sf) : Prop := FnOk P w K mg base CX0 k f fd ps (Lf K ps.length F)
theorem j_call {k : Nat} {f : Addr} {fd : FuncData} {ps : List Str} {F : Sf} {x : Str} {p pos : Pos} {e : Expr} {es : List Expr} {ea : EA} (FF : FK X.prog X.w X.K X.mg X.base k f fd ps F) (hr : Room k X.A) (hg : Gl X x) (hm : X.mg x = some (.ref f)) (hk : PySem.W.keepIn X.K (.ref f) = true) (hb : Binds X.K fd ps [])
    (ha : JA X (e :: es) ea) (hlen : (e :: es).length = ps.length := by rfl) (hdb : (x == ("__debug__" : Str)) = false := by decide) (he : starEach (e :: es) X.env = (false, eval e X.env) :: starEach es X.env := by rfl) (hpl : (backTo pos (starEach es X.env)).any (·.1) = false := by rfl) : JE X (.Call (.Name x p) (e :: es) [] pos) (eCall F ea) :=
  ⟨pe_call FF hr hg hm hk hb .nil pass0 ha.pa hdb he hpl, le_call (t := upA X.K (e :: es).length ea) (hlen ▸ ha.la)⟩
mutual
def RefIn (G : Gp) : D → Prop
  | .ref a => ∃ o, G a = some o
  | .lst ds => RefIns G ds
  | .tup ds => RefIns G ds
  | .dct _ ds => RefIns G ds
  | .exc _ _ _ e => RefIn G e
  | _ => True
def RefIns (G : Gp) : List D → Prop
  | [] => True
  | d :: ds => RefIn G d ∧ RefIns G ds
end
mutual
theorem ref_of {P : Addr → Prop} {G : Gp} {H : Hp} : ∀ {d : D} {v : V}, Rep K H G P d v → RefIn G d
  | .non, _, _ => by simp only [RefIn]
  | .bl _, _, _ => by simp only [RefIn]
  | .int _, _, _ => by simp only [RefIn]
  | .str _, _, _ => by simp only [RefIn]
  | .ty _, _, _ => by simp only [RefIn]
  | .cl _, _, _ => by simp only [RefIn]
  | .exc a dd f e, _, h => by unfold Rep at h; obtain ⟨_, _, _, u, _, q⟩ := h; simp only [RefIn]; exact ref_of q
  | .scr _, _, _ => by simp only [RefIn]
  | .ref a, _, h => by unfold Rep at h; simp only [RefIn]; exact h.2
  | .lst ds, _, h => by obtain ⟨a, xs, rfl, g, p, r, z, q⟩ := rep_l h; simp only [RefIn]; exact refs_of q
  | .tup ds, _, h => by obtain ⟨a, xs, rfl, g, p, r, z, q⟩ := rep_t h; simp only [RefIn]; exact refs_of q
  | .dct ks ds, _, h => by unfold Rep at h; obtain ⟨a, xs, rfl, g, p, r, z, q⟩ := h; simp only [RefIn]; exact refs_of q
theorem refs_of {P : Addr → Prop} {G : Gp} {H : Hp} : ∀ {ds : List D} {vs : List V}, Reps K H G P ds vs → RefIns G ds
  | [], _, _ => by simp only [RefIns]
  | d :: ds, _, h => by
    unfold Reps at h
    obtain ⟨x, r, rfl, h1, h2⟩ := h
    simp only [RefIns]
    exact ⟨ref_of h1, refs_of h2⟩
end
mutual
theorem Rep.less {P : Addr → Prop} {G G2 : Gp} {H : Hp} (h2 : ∀ a, G a = none → G2 a = none) : ∀ {d : D} {v : V}, RefIn G2 d → Rep K H G P d v → Rep K H G2 P d v
  | .non, _, _, h => by unfold Rep at h ⊢; exact h
  | .bl _, _, _, h => by unfold Rep at h ⊢; exact h
  | .int _, _, _, h => by unfold Rep at h ⊢; exact h
  | .str _, _, _, h => by unfold Rep at h ⊢; exact h
  | .ty _, _, _, h => by unfold Rep at h ⊢; exact h
  | .cl _, _, _, h => by unfold Rep at h ⊢; exact h
  | .exc a dd f e, _, q, h => by
    unfold Rep at h ⊢
    simp only [RefIn] at q
    obtain ⟨rfl, g, pp, u, r, t⟩ := h
    exact ⟨rfl, h2 _ g, pp, u, r, Rep.less h2 q t⟩
  | .scr ns, _, _, h => by
    unfold Rep at h ⊢
    obtain ⟨a, rfl, z, ⟨⟨u, h⟩, g⟩ | ⟨h, g, pp⟩ | h⟩ := h
    · exact ⟨a, rfl, z, .inl ⟨⟨u, h⟩, h2 _ g⟩⟩
    · exact ⟨a, rfl, z, .inr (.inl ⟨h, h2 _ g, pp⟩)⟩
    · exact ⟨a, rfl, z, .inr (.inr h)⟩
  | .ref a, _, q, h => by unfold Rep at h ⊢; simp only [RefIn] at q; exact ⟨h.1, q⟩
  | .lst ds, _, q, h => by
    unfold Rep at h ⊢
    simp only [RefIn] at q
    obtain ⟨a, xs, rfl, g, p, r, z, t⟩ := h
    exact ⟨a, xs, rfl, h2 _ g, p, r, z, Reps.less h2 q t⟩
  | .tup ds, _, q, h => by
    unfold Rep at h ⊢
    simp only [RefIn] at q
    obtain ⟨a, xs, rfl, g, p, r, z, t⟩ := h
    exact ⟨a, xs, rfl, h2 _ g, p, r, z, Reps.less h2 q t⟩
  | .dct ks ds, _, q, h => by
    unfold Rep at h ⊢
    simp only [RefIn] at q
    obtain ⟨a, xs, rfl, g, p, r, z, t⟩ := h
    exact ⟨a, xs, rfl, h2 _ g, p, r, z, Reps.less h2 q t⟩
theorem Reps.less {P : Addr → Prop} {G G2 : Gp} {H : Hp} (h2 : ∀ a, G a = none → G2 a = none) : ∀ {ds : List D} {vs : List V}, RefIns G2 ds → Reps K H G P ds vs → Reps K H G2 P ds vs
  | [], _, _, h => by unfold Reps at h ⊢; exact h
  | d :: ds, _, q, h => by
    unfold Reps at h ⊢
    simp only [RefIns] at q
    obtain ⟨x, r, rfl, h1, h3⟩ := h
    exact ⟨x, r, rfl, Rep.less h2 q.1 h1, Reps.less h2 q.2 h3⟩
end
def RefO (G : Gp) : GO → Prop
  | .lst ds => RefIns G ds
  | .dct _ ds => RefIns G ds
  | .ins _ _ _ ds => RefIns G ds
  | .gen _ ds => RefIns G ds
  | _ => True
theorem RelO.less {P : Addr → Prop} {G G2 : Gp} {H : Hp} {o : GO} {ho : HO} (h2 : ∀ a, G a = none → G2 a = none) (q : RefO G2 o) (h : RelO K H G P o ho) : RelO K H G2 P o ho := by
  cases o with
  | lst ds => obtain ⟨xs, e, z, t⟩ := h; exact ⟨xs, e, z, t.less h2 q⟩
  | dct ks ds => obtain ⟨xs, e, z, t⟩ := h; exact ⟨xs, e, z, t.less h2 q⟩
  | ins C dx ks ds => obtain ⟨xs, e, z, t⟩ := h; exact ⟨xs, e, z, t.less h2 q⟩
  | own x => exact h
  | set S n => exact h
  | gen r ds => obtain ⟨xs, e, z, t⟩ := h; exact ⟨xs, e, z, t.less h2 q⟩
  | tbl f q a =>
    obtain ⟨ea, ps, e, z, q⟩ := h
    refine ⟨ea, ps, e, z, fun pos cv hc => ?_⟩
    obtain ⟨c, e1, e2, e3, e4⟩ := q pos cv hc
    exact ⟨c, e1, e2, h2 _ e3, e4⟩
theorem refO_of {P : Addr → Prop} {G : Gp} {H : Hp} {o : GO} {ho : HO} (h : RelO K H G P o ho) : RefO G o := by
  cases o with
  | lst ds => obtain ⟨xs, e, z, t⟩ := h; exact refs_of t
  | dct ks ds => obtain ⟨xs, e, z, t⟩ := h; exact refs_of t
  | ins C dx ks ds => obtain ⟨xs, e, z, t⟩ := h; exact refs_of t
  | own x => trivial
  | set S n => trivial
  | gen r ds => obtain ⟨xs, e, z, t⟩ := h; exact refs_of t
  | tbl f q a => trivial
mutual
theorem refIn_mono {G G2 : Gp} (h : ∀ a o, G a = some o → ∃ o', G2 a = some o') : ∀ {d : D}, RefIn G d → RefIn G2 d
  | .non, _ => by simp only [RefIn]
  | .bl _, _ => by simp only [RefIn]
  | .int _, _ => by simp only [RefIn]
  | .str _, _ => by simp only [RefIn]
  | .ty _, _ => by simp only [RefIn]
  | .cl _, _ => by simp only [RefIn]
  | .exc a dd f e, q => by simp only [RefIn] at q ⊢; exact refIn_mono h q
  | .scr _, _ => by simp only [RefIn]
  | .ref a, q => by simp only [RefIn] at q ⊢; obtain ⟨o, e⟩ := q; exact h a o e
  | .lst ds, q => by simp only [RefIn] at q ⊢; exact refIns_mono h q
  | .tup ds, q => by simp only [RefIn] at q ⊢; exact refIns_mono h q
  | .dct ks ds, q => by simp only [RefIn] at q ⊢; exact refIns_mono h q
theorem refIns_mono {G G2 : Gp} (h : ∀ a o, G a = some o → ∃ o', G2 a = some o') : ∀ {ds : List D}, RefIns G ds → RefIns G2 ds
  | [], _ => by simp only [RefIns]
  | d :: ds, q => by simp only [RefIns] at q ⊢; exact ⟨refIn_mono h q.1, refIns_mono h q.2⟩
end
/-- at a def's end: what is handed back, and what stays owned -/
def Fz (G0 : Gp) (d : D) (G' : Gp) (d2 : D) (G2 : Gp) : Prop := ∀ (K : PySem.W.Frag) (P : Addr → Prop) (H0 H : Hp) (v : V), Wo K P G0 H0 → Step G0 H0 G' H → Wo K P G' H → Rep K H G' P d v → Step G0 H0 G2 H ∧ Wo K P G2 H ∧ Rep K H G2 P d2 v
theorem fz_id {G0 G' : Gp} {d : D} : Fz G0 d G' d G' := fun _ _ _ _ _ _ s w r => ⟨s, w, r⟩
/-- some new objects are let go -/
theorem fz_sub {G0 G' G2 : Gp} {d : D} (h1 : ∀ a o, G2 a = some o → G' a = some o) (h0 : ∀ a o, G0 a = some o → ∃ o', G2 a = some o') (hc : ∀ a o, G2 a = some o → RefO G2 o ∨ G0 a = some o) (hd : RefIn G2 d) : Fz G0 d G' d G2 := fun K P H0 H v w0 st w r => by
  have h2 : ∀ a, G' a = none → G2 a = none := fun a e => by
    cases q : G2 a with
    | none => rfl
    | some o => rw [h1 a o q] at e; cases e
  refine ⟨⟨fun a o e g => ⟨(st.keep a o e g).1, h2 a (st.keep a o e g).2⟩, h0⟩, ⟨fun a o e => ?_, fun a q => ?_⟩, r.less h2 hd⟩
  · obtain ⟨ho, e1, r1⟩ := w.own a o (h1 a o e)
    refine ⟨ho, e1, r1.less h2 ?_⟩
    rcases hc a o e with q | q
    · exact q
    · obtain ⟨ho0, e0, r0⟩ := w0.own a o q
      have := refO_of r0
      cases o with
      | lst ds => exact refIns_mono h0 this
      | dct ks ds => exact refIns_mono h0 this
      | ins C dx ks ds => exact refIns_mono h0 this
      | own x => trivial
      | set S n => trivial
      | gen r ds => exact refIns_mono h0 this
      | tbl f q a => trivial
  · obtain ⟨g, ho, e⟩ := w.prv a q
    exact ⟨h2 a g, ho, e⟩
/-- all new objects are let go -/
theorem fz_back {G0 G' : Gp} {d : D} (h : ∀ a o, G0 a = some o → G' a = some o) (hd : RefIn G0 d) : Fz G0 d G' d G0 := fz_sub h (fun a o e => ⟨o, e⟩) (fun a o e => .inr e) hd
/-- a new list is handed back, frozen -/
theorem fz_lst {G0 G' : Gp} {p : Addr} {ds : List D} (h : ∀ a o, G0 a = some o → G' a = some o) (e : G' p = some (.lst ds)) (n : G0 p = none) (hd : RefIns G0 ds) : Fz G0 (.ref p) G' (.lst ds) G0 := fun K P H0 H v w0 st w r => by
  have h2 : ∀ a, G' a = none → G0 a = none := fun a e => by
    cases q : G0 a with
    | none => rfl
    | some o => rw [h a o q] at e; cases e
  obtain ⟨a1, a2, a3⟩ := fz_back (d := .non) h (by simp only [RefIn]) K P H0 H .non w0 st w rep_non
  refine ⟨a1, a2, ?_⟩
  unfold Rep at r
  obtain ⟨rfl, _⟩ := r
  obtain ⟨ho, e1, xs, rfl, z, q⟩ := w.own p _ e
  exact rep_lst n (fun pp => by rw [(w.prv p pp).1] at e; cases e) e1 z (q.less h2 hd)
/-- the end of a def's body -/
def fin (G0 : Gp) (Q : DK) : En := { nx := fun _ G' => ∃ d2 G2, Fz G0 .non G' d2 G2 ∧ Q d2 G2, rt := fun d G' => ∃ d2 G2, Fz G0 d G' d2 G2 ∧ Q d2 G2 }
/-- the slots at the entry -/
def startD (n : Nat) (ds : List D) : Sd := ds.map some ++ List.replicate (n - ds.length) none
theorem rl_start {P : Addr → Prop} {G : Gp} {H : Hp} {N : List Str} {ds : List D} {vs : List V} (w : Wo K P G H) (r : Reps K H G P ds vs) : Rl K P (startD N.length ds) G (L2.start N vs) H := by
  have l := r.length
  refine ⟨w, by unfold startD L2.start; simp [l], fun i d e => ?_⟩
  unfold startD at e
  unfold L2.start
  by_cases hi : i < ds.length
  · rw [List.getElem?_append_left (by simpa using hi), List.getElem?_map] at e
    obtain ⟨d', e1, e2⟩ := opt_map e
    cases e2
    obtain ⟨v, e3, r3⟩ := r.get e1
    exact ⟨v, by rw [List.getElem?_append_left (by simp; omega), List.getElem?_map, e3]; rfl, r3⟩
  · rw [List.getElem?_append_right (by simp; omega)] at e
    rw [List.getElem?_replicate] at e
    split at e <;> cases e
/-- no wish about what is raised -/
def y0 : Wx := ⟨fun _ _ _ _ => False⟩
/-- THE RULE for a def -/
theorem fk_ok {P : Program} {w : World} {K : PySem.W.Frag} {mg : Str → Option Value} {base : Heap} {x qual : Str} {params : Arguments} {body : List Stmt} {scope : Scope} {kws : List (Str × V)} {dvs : List V} {f : Addr} {fd : FuncData} {N ps : List Str} {k : Nat} {F : Sf} {es : ES}
    (FF : FunD K x qual params body scope dvs kws f fd) (S : FnScope N ps scope)
    (hJ : ∀ (cdv : Value) (A : Around) (outer : List Env) (s : Shared) (H : Hp) (E : XK), Room k (A.deeper (envOfC qual scope s.heap.objs.size f cdv)) → JSs (cxOf CX0 P w K mg base N qual scope f cdv A outer s H E).nox y0 body es)
    (hR : ∀ ds G Q, F ds G Q → es (fin G Q) (startD N.length ds) G) : FK P w K mg base (k + 1) f fd ps F := by
  refine FF.ok S (fun vs H Q E h => ?_) (fun cdv A outer s H vs Q E hr h => ?_)
  · exact h.1
  · obtain ⟨_, P', ds, G, Q', wo, r, hf, kk⟩ := h
    have j := hJ cdv A outer s H E hr
    refine ⟨_, PSs.nox j.ps, ?_⟩
    have hR' := hR ds G Q' hf
    refine j.ls P' (startD N.length ds) G (fin G Q') (L2.start N vs) H _ hR' (rl_start wo r) ⟨?_, ?_, ?_, ?_, ?_⟩
    · intro s' G' σ' H' st rl hq
      obtain ⟨d2, G2, fz, q2⟩ := hq
      obtain ⟨b1, b2, b3⟩ := fz K P' H H' .non wo st rl.wo rep_non
      exact kk d2 G2 .non H' b1 b2 b3 q2
    · intro d G' v H' st w' rp hq
      obtain ⟨d2, G2, fz, q2⟩ := hq
      obtain ⟨b1, b2, b3⟩ := fz K P' H H' v wo st w' rp
      exact kk d2 G2 v H' b1 b2 b3 q2
    · intro s' G' σ' H' st rl hq
      exact hq.elim
    · intro s' G' σ' H' st rl hq
      exact hq.elim
    · intro x s' G' cls d σ' H' st rl _ hq
      exact hq.elim
/-- the law's promise: of every script True -/
def lawF (n : Nat) : Sf := fun ds G Q => ∃ ns : List Int, ds = [.scr ns] ∧ ns.length ≤ n ∧ G = (fun _ => none) ∧ ∀ G', Q (.bl true) G'
theorem law_sp {K : PySem.W.Frag} {n : Nat} (hn : n ≤ sizeLine) {H : Hp} {a : Addr} {ns : List Int} (hl : ns.length ≤ n) (ho : Only H) (hS : SqL K H a (ns.map V.int)) {E : XK} : Lf K 1 (lawF n) [.ref a] H (fun v _ => v = .bl true) E := by
  refine ⟨rfl, fun _ => False, [.scr ns], fun _ => none, fun d _ => d = .bl true, ⟨fun _ _ e => (nomatch e), fun _ q => q.elim⟩, reps_cons ?_ reps_nil, ⟨ns, rfl, hl, rfl, fun _ => rfl⟩, fun d G' v H' _ _ r q => by subst q; exact rep_b r⟩
  unfold Rep
  refine ⟨a, rfl, Nat.le_trans hl hn, ?_⟩
  rcases hS with (h | ⟨o, h⟩) | h
  · exact .inr (.inl ⟨h, rfl, fun x => x⟩)
  · exact .inl ⟨⟨o, h⟩, rfl⟩
  · exact .inr (.inr h)
end
end DL
namespace DL
open PySem PySem.Spec PyProof.Rows L2
/-- a def of the text, called by its name: it keeps the promise F -/
structure Cal (P : Program) (w : World) (K : PySem.W.Frag) (mg : Str → Option Value) (base : Heap) (k : Nat) (x : Str) (ps : List Str) (F : Sf) : Prop where
  ex : ∃ f fd, FK P w K mg base k f fd ps F ∧ mg x = some (.ref f) ∧ PySem.W.keepIn K (.ref f) = true ∧ Binds K fd ps []
/-- a def as it stands behind the top -/
structure Df (K : PySem.W.Frag) (mg : Str → Option Value) (x : Str) (st : Stmt) : Prop where
  ex : ∃ f fd, FunD K x x (defArgs st) (defBody st) (defScope st) [] [] f fd ∧ mg x = some (.ref f)
section
variable {X : Cx}
theorem j_cal {K : PySem.W.Frag} {k : Nat} {ps : List Str} {F : Sf} {x : Str} {p pos : Pos} {e : Expr} {es : List Expr} {ea : EA} (c : Cal X.prog X.w K X.mg X.base k x ps F) (hr : Room k X.A) (hg : Gl X x)
    (ha : JA X (e :: es) ea) (hK : X.K = K := by rfl) (hlen : (e :: es).length = ps.length := by rfl) (hdb : (x == ("__debug__" : Str)) = false := by decide) (he : starEach (e :: es) X.env = (false, eval e X.env) :: starEach es X.env := by rfl) (hpl : (backTo pos (starEach es X.env)).any (·.1) = false := by rfl) : JE X (.Call (.Name x p) (e :: es) [] pos) (eCall F ea) := by
  subst hK
  obtain ⟨f, fd, h1, h2, h3, h4⟩ := c.ex
  exact j_call h1 hr hg h2 h3 h4 ha hlen hdb he hpl
/-- THE RULE for a def, by its name -/
theorem cal_ok {P : Program} {w : World} {K : PySem.W.Frag} {mg : Str → Option Value} {base : Heap} {x : Str} {st : Stmt} {N ps : List Str} {k : Nat} {F : Sf} {es : ES} (D : Df K mg x st) (S : FnScope N ps (defScope st))
    (hb : ∀ (kV doc pm : Value) (an : Option Addr) (cdv ct : Value) (us : List Value), us.length = ps.length → bindArgs (PySem.W.fnOf x x (defArgs st) (defBody st) (defScope st) .none kV doc pm an cdv ct) ⟨us, []⟩ = pure (ps.zip us))
    (hJ : ∀ (f : Addr) (cdv : Value) (A : Around) (outer : List Env) (s : Shared) (H : Hp) (E : XK), Room k (A.deeper (envOfC x (defScope st) s.heap.objs.size f cdv)) → JSs (cxOf CX0 P w K mg base N x (defScope st) f cdv A outer s H E).nox y0 (defBody st) es)
    (hR : ∀ ds G Q, F ds G Q → es (fin G Q) (startD N.length ds) G) : Cal P w K mg base (k + 1) x ps F := by
  obtain ⟨f, fd, h1, h2⟩ := D.ex
  exact ⟨f, fd, fk_ok h1 S (hJ f) hR, h2, h1.kp, h1.bindsN hb⟩
end
end DL
set_option Elab.async false
set_option linter.all false
set_option maxRecDepth 100000
set_option maxHeartbeats 4000000
namespace DL
open PySem PySem.Spec PyProof.Rows L2
section
variable {X : Cx} {K : PySem.W.Frag} {e : Expr} {te : TE} {ee : EE} {pos : Pos}
theorem js_setI {Y : Wx} {o i : Expr} {eo ei : EE} {p' : Pos} (he : JE X e ee) (ho : JE X o eo) (hi : JE X i ei)
    (ha : ∀ v, assign (.Subscript o i p') X.env v = (do let ov ← holding [v] (eval o X.env); let iv ← holding [v, ov] (eval i X.env); standAt p'; holding [v, ov, iv] (setItem ov iv v); release [v, ov, iv] []) := by intro _; rfl)
    (hs : swapsWithSole [.Subscript o i p'] e pos.line X.env = pure false := by rfl) (hw : swappedStores [.Subscript o i p'] e X.env = pure none := by rfl) (h1 : (assignEach [.Subscript o i p'] X.env).map (·.2) = [assign (.Subscript o i p') X.env] := by rfl) :
    JS X Y (.Assign [.Subscript o i p'] e pos) (sSetIx ee eo ei) := js_setIx he ho hi (ps_asg he.pe (pg_sub ho.pe hi.pe set_list ha) hs hw h1)
theorem js_asgTup {Y : Wx} {tg : Expr} {t : Tg} (he : JE X e ee) (hg : JG X tg t) (hs : swapsWithSole [tg] e pos.line X.env = pure false := by rfl) (hw : swappedStores [tg] e X.env = pure none := by rfl) (h1 : (assignEach [tg] X.env).map (·.2) = [assign tg X.env] := by rfl) :
    JS X Y (.Assign [tg] e pos) (sAsg ee t) := js_asgT he hg (ps_asg he.pe hg.pg hs hw h1)
/-- list(range(n)), list(range(a, b)) -/
@[simp] def eListRange (ea : EA) : EE := fun s G Q => ea s G fun xs G1 => match xs with
  | [.int n] => -(2 ^ 62) ≤ n ∧ n ≤ 16000000 ∧ Q (.lst (rngD 0 n.toNat)) G1
  | _ => False
theorem reps_rng {P : Addr → Prop} {G : Gp} {H : Hp} {lo : Int} {n : Nat} : Reps K H G P (rngD lo n) ((List.range n).map fun i => V.int (lo + (i : Nat))) := by
  unfold rngD
  generalize List.range n = l
  induction l with
  | nil => exact reps_nil
  | cons i l ih => exact reps_cons rep_int ih
theorem j_listrange {a : Expr} {ea : EE} {p q p2 : Pos} (hg : Gl X "list") (hm : X.mg "list" = none) (hg2 : Gl X "range") (hm2 : X.mg "range" = none) (hh : JE X a ea) (hc : X.calm = true := by rfl)
    (na : starEach [a] X.env = (false, eval a X.env) :: starEach [] X.env := by rfl) (nb : starEach [.Call (.Name "range" p2) [a] [] q] X.env = (false, eval (.Call (.Name "range" p2) [a] [] q) X.env) :: starEach [] X.env := by rfl) :
    JE X (.Call (.Name "list" p) [.Call (.Name "range" p2) [a] [] q] [] pos) (eListRange (eCons ea eNil)) :=
  ⟨pe_listRg hc hg hm (prg_1 hg2 hm2 hh.pe na) nb, fun P s G Q σ H R h r k => by
    refine hh.le P s G _ σ H _ h r fun x G1 u H1 s1 w1 r1 h1 => ?_
    cases x with
    | int n =>
      rw [rep_i r1]
      obtain ⟨b0, b1, h1⟩ := h1
      refine ⟨n, rfl, ⟨by omega, by omega, b0, by omega, by omega⟩, fun p hp => ?_⟩
      obtain ⟨f1, f2⟩ := w1.fresh hp
      have st : Step G1 H1 G1 (upd H1 p (.lst (rgV 0 n))) := Step.new hp
      refine k _ G1 _ _ (s1.trans st) (w1.new hp) (rep_lst f1 f2 upd_same (by rw [rngD_length]; exact Nat.le_trans (by omega) line_ge) ?_) h1
      unfold rgV
      rw [Int.sub_zero]
      exact reps_rng
    | _ => exact h1.elim⟩
end
theorem rngD_succ (lo : Int) (n : Nat) : rngD lo (n + 1) = .int lo :: rngD (lo + 1) n := by
  unfold rngD
  rw [List.range_succ_eq_map, List.map_cons, List.map_map]
  congr 1
  · simp
  · apply List.map_congr_left
    intro a _
    simp only [Function.comp_apply]
    congr 1
    omega
theorem rngD_zero (lo : Int) : rngD lo 0 = [] := rfl
/-- a comprehension that leaves the owned objects: over a list of things -/
theorem compW_map {α : Type} {g : α → D} {p : α → Bool} {f : α → D} {s0 : Sd} {t : Tg} {tt : ET} {te : EE} {Kp : Gp → Prop} {G : Gp} {Q : List D → Gp → Prop} (hK : Kp G) : ∀ (xs : List α) (acc : List D),
    (∀ x ∈ xs, ∃ s', asg t (g x) s0 = some s' ∧ (∀ R : Bool → Gp → Prop, R (p x) G → tt s' G R) ∧ (p x = true → ∀ R : DK, R (f x) G → te s' G R)) → Q (acc ++ (xs.filter p).map f) G → compW s0 t tt te Kp (xs.map g) acc G Q
  | [], acc, _, hq => by
    simp only [List.map_nil, compW]
    exact ⟨hK, by simpa using hq⟩
  | x :: xs, acc, h, hq => by
    simp only [List.map_cons, compW]
    refine ⟨hK, ?_⟩
    obtain ⟨s', e1, h1, h2⟩ := h x List.mem_cons_self
    simp only [e1]
    refine h1 _ ?_
    cases e : p x with
    | true =>
      refine h2 e _ ?_
      refine compW_map hK xs _ (fun y hy => h y (List.mem_cons_of_mem _ hy)) ?_
      rw [List.filter_cons_of_pos e] at hq
      simpa using hq
    | false =>
      refine compW_map hK xs _ (fun y hy => h y (List.mem_cons_of_mem _ hy)) ?_
      rw [List.filter_cons_of_neg (by simp [e])] at hq
      exact hq
/-- .. without a test -/
theorem compW_all {α : Type} {g : α → D} {f : α → D} {s0 : Sd} {t : Tg} {te : EE} {Kp : Gp → Prop} {G : Gp} {Q : List D → Gp → Prop} (hK : Kp G) (xs : List α) (acc : List D)
    (h : ∀ x ∈ xs, ∃ s', asg t (g x) s0 = some s' ∧ (∀ R : DK, R (f x) G → te s' G R)) (hq : Q (acc ++ xs.map f) G) : compW s0 t eYes te Kp (xs.map g) acc G Q :=
  compW_map (p := fun _ => true) hK xs acc (fun x hx => let ⟨s', e, k⟩ := h x hx; ⟨s', e, fun R r => r, fun _ => k⟩) (by rw [List.filter_eq_self.mpr (fun _ _ => rfl)]; exact hq)
theorem fin_id {G0 G' : Gp} {Q : DK} {d : D} (h : Q d G') : (fin G0 Q).rt d G' := ⟨d, G', fz_id, h⟩
theorem fin_back {G0 G' : Gp} {Q : DK} {d : D} (h : ∀ a o, G0 a = some o → G' a = some o) (hd : RefIn G0 d) (q : Q d G0) : (fin G0 Q).rt d G' := ⟨d, G0, fz_back h hd, q⟩
theorem fin_lst {G0 G' : Gp} {Q : DK} {p : Addr} {ds : List D} (h : ∀ a o, G0 a = some o → G' a = some o) (e : G' p = some (.lst ds)) (n : G0 p = none) (hd : RefIns G0 ds) (q : Q (.lst ds) G0) : (fin G0 Q).rt (.ref p) G' := ⟨_, G0, fz_lst h e n hd, q⟩
/-- a new list is handed back frozen, other changed objects stay -/
theorem fz_lstS {G0 G' G2 : Gp} {p : Addr} {ds : List D} (h1 : ∀ a o, G2 a = some o → G' a = some o) (h0 : ∀ a o, G0 a = some o → ∃ o', G2 a = some o') (hc : ∀ a o, G2 a = some o → RefO G2 o ∨ G0 a = some o) (e : G' p = some (.lst ds)) (n : G2 p = none) (hd : RefIns G2 ds) : Fz G0 (.ref p) G' (.lst ds) G2 := fun K P H0 H v w0 st w r => by
  have h2 : ∀ a, G' a = none → G2 a = none := fun a e => by
    cases q : G2 a with
    | none => rfl
    | some o => rw [h1 a o q] at e; cases e
  obtain ⟨a1, a2, a3⟩ := fz_sub (d := .non) h1 h0 hc (by simp only [RefIn]) K P H0 H .non w0 st w rep_non
  refine ⟨a1, a2, ?_⟩
  unfold Rep at r
  obtain ⟨rfl, _⟩ := r
  obtain ⟨ho, e1, xs, rfl, z, q⟩ := w.own p _ e
  exact rep_lst n (fun pp => by rw [(w.prv p pp).1] at e; cases e) e1 z (q.less h2 hd)
mutual
def plainD : D → Bool
  | .ref _ => false
  | .exc _ _ _ _ => false
  | .lst ds => plainDs ds
  | .tup ds => plainDs ds
  | .dct _ ds => plainDs ds
  | _ => true
def plainDs : List D → Bool
  | [] => true
  | d :: ds => plainD d && plainDs ds
end
mutual
theorem refIn_plain {G : Gp} : ∀ {d : D}, plainD d = true → RefIn G d
  | .non, _ => by simp only [RefIn]
  | .bl _, _ => by simp only [RefIn]
  | .int _, _ => by simp only [RefIn]
  | .str _, _ => by simp only [RefIn]
  | .ty _, _ => by simp only [RefIn]
  | .cl _, _ => by simp only [RefIn]
  | .exc _ _ _ _, q => by simp [plainD] at q
  | .scr _, _ => by simp only [RefIn]
  | .ref a, q => by simp [plainD] at q
  | .lst ds, q => by simp only [plainD] at q; simp only [RefIn]; exact refIns_plain q
  | .tup ds, q => by simp only [plainD] at q; simp only [RefIn]; exact refIns_plain q
  | .dct ks ds, q => by simp only [plainD] at q; simp only [RefIn]; exact refIns_plain q
theorem refIns_plain {G : Gp} : ∀ {ds : List D}, plainDs ds = true → RefIns G ds
  | [], _ => by simp only [RefIns]
  | d :: ds, q => by
    simp only [plainDs, Bool.and_eq_true] at q
    simp only [RefIns]
    exact ⟨refIn_plain q.1, refIns_plain q.2⟩
end
theorem plainDs_map {α : Type} {f : α → D} (h : ∀ x, plainD (f x) = true) : ∀ xs : List α, plainDs (xs.map f) = true
  | [] => rfl
  | x :: xs => by simp only [List.map_cons, plainDs, h x, plainDs_map h xs, Bool.and_self]
theorem plainDs_app {xs ys : List D} (h : plainDs xs = true) (h2 : plainDs ys = true) : plainDs (xs ++ ys) = true := by
  induction xs with
  | nil => exact h2
  | cons x xs ih =>
    simp only [plainDs, Bool.and_eq_true, List.cons_append] at h ⊢
    exact ⟨h.1, ih h.2⟩
end DL
set_option Elab.async false
set_option linter.all false
set_option maxRecDepth 100000
set_option maxHeartbeats 4000000
namespace DL
open PySem PySem.Spec PyProof.Rows L2
def stO (x y z : Int) : GO := .lst [.int x, .int y, .int z]
structure Ok3 (x y z : Int) : Prop where
  x0 : 0 ≤ x
  y0 : 0 ≤ y
  y1 : y < 2147483647
  z0 : 0 ≤ z
/-- a divisor that may be drawn by -/
def Wd (m : Int) : Prop := 0 < m ∧ m.natAbs.log2 < 9000
theorem wd_small {m : Int} (h : 0 < m) (h2 : m < 2 ^ 8999) : Wd m := ⟨h, by
  have e : m.natAbs ≠ 0 := by omega
  rw [Nat.log2_lt e]
  have : ((m.natAbs : Nat) : Int) < ((2 ^ 9000 : Nat) : Int) := by
    rw [Int.natAbs_of_nonneg (by omega)]
    refine Int.lt_of_lt_of_le h2 ?_
    decide +kernel
  exact Int.ofNat_lt.mp this⟩
theorem gput_eq {G : Gp} {a : Addr} {o : GO} (h : G a = some o) : gput G a o = G := by
  funext b
  by_cases e : b = a
  · subst e; rw [gput_same, h]
  · rw [gput_ne e]
def F__law_take : Sf := fun ds G Q => ∃ a many x y z, ds = [.ref a, .int many] ∧ G a = some (stO x y z) ∧ Ok3 x y z ∧ Wd many ∧
  ∀ r x' y' z', Ok3 x' y' z' → 0 ≤ r → r < many → Q (.int r) (gput G a (stO x' y' z'))
theorem cmul_r {i j : Int} (h : -(2 ^ 64) < j) (h2 : j < 2 ^ 64) : CMul i j := .inr ⟨h, h2⟩
theorem cmul_l {i j : Int} (h : -(2 ^ 64) < i) (h2 : i < 2 ^ 64) : CMul i j := .inl ⟨h, h2⟩
def r__law_take_L1 : ES :=
  (sSeq (sSetIx (eOp oAdd (eOp oIx (eVar 0) (eC (.int 2))) (eC (.int 1))) (eVar 0) (eC (.int 2)))
  (sSeq (sSetIx (eOp oMod (eOp oAdd (eOp oMul (eOp oIx (eVar 0) (eC (.int 1))) (eC (.int 48271))) (eOp oMul (eC (.int 11)) (eOp oIx (eVar 0) (eC (.int 2))))) (eC (.int 2147483647))) (eVar 0) (eC (.int 1)))
  (sAsg (eOp oAdd (eOp oMul (eVar 3) (eC (.int 2147483629))) (eOp oMod (eOp oMul (eOp oIx (eVar 0) (eC (.int 1))) (eOp oIx (eVar 0) (eC (.int 1)))) (eC (.int 2147483629)))) (.nm 3))))
def r__law_take : ES :=
  (sSeq (sIf (eT (eOp oGt (eOp oIx (eVar 0) (eC (.int 0))) (eC (.int 0)))) (sSeq (sAsg (eOp oMod (eOp oIx (eVar 0) (eC (.int 0))) (eVar 1)) (.nm 2))
  (sSeq (sSetIx (eOp oDivW (eOp oIx (eVar 0) (eC (.int 0))) (eVar 1)) (eVar 0) (eC (.int 0)))
  (sRet (eVar 2)))) sNext)
  (sSeq (sAsg (eC (.int 0)) (.nm 3))
  (sSeq (sFor (iR1 (eCons (eOp oAdd (eC (.int 1)) (eCB cInt1 (eCons (eOp oGt (eVar 1) (eOp oPow (eC (.int 10)) (eC (.int 6)))) eNil))) eNil)) (.nm 4) r__law_take_L1)
  (sRet (eOp oMod (eOp oDivW (eVar 3) (eC (.int 16))) (eVar 1))))))
theorem take_loop {G : Gp} {a : Addr} {N : En} {many : Int} : ∀ (n : Nat) (lo : Int) (o3 : Int) (o4 : Option D) (x y z : Int), Ok3 x y z → 0 ≤ o3 → (∀ o3 o4 x y z, Ok3 x y z → 0 ≤ o3 → N.nx [some (.ref a), some (.int many), none, some (.int o3), o4] (gput G a (stO x y z))) →
    forW (.nm 4) r__law_take_L1 (fun _ => True) N (rngD lo n) [some (.ref a), some (.int many), none, some (.int o3), o4] (gput G a (stO x y z)) := by
  intro n
  induction n with
  | zero => intro lo o3 o4 x y z ok h0 k; simp only [rngD_zero, forW, true_and]; exact k _ _ _ _ _ ok h0
  | succ n ih =>
    intro lo o3 o4 x y z ok h0 k
    rw [rngD_succ]
    obtain ⟨hx, hy, hy1, hz⟩ := ok
    simp [forW, sSeq, r__law_take_L1, gput_same, gput_gput, stO, atI, ixN]
    refine ⟨cmul_r (by decide) (by decide), cmul_l (by decide) (by decide), cmul_r (by decide) (by decide), cmul_r (by omega) (by omega), ?_⟩
    refine ih _ _ _ _ _ _ ⟨hx, by omega, by omega, by omega⟩ ?_ k
    have := Int.emod_nonneg ((y * 48271 + 11 * (z + 1)) % 2147483647 * ((y * 48271 + 11 * (z + 1)) % 2147483647)) (show (2147483629 : Int) ≠ 0 by decide)
    omega
theorem d__law_take (ds : List D) (G : Gp) (Q : DK) (h : F__law_take ds G Q) : r__law_take (fin G Q) (startD 5 ds) G := by
  obtain ⟨a, many, x, y, z, rfl, hG, ok, wd, k⟩ := h
  obtain ⟨hx, hy, hy1, hz⟩ := ok
  have hG' : gput G a (stO x y z) = G := gput_eq hG
  simp [sSeq, r__law_take, startD, hG, stO, atI, ixN]
  split
  · rename_i h0
    refine ⟨wd.1, wd, fin_id (k _ _ _ _ ⟨Int.ediv_nonneg hx (Int.le_of_lt wd.1), hy, hy1, hz⟩ (Int.emod_nonneg _ (by have := wd.1; omega)) (Int.emod_lt_of_pos _ wd.1))⟩
  · refine ⟨⟨by decide, by decide, by decide⟩, by split <;> decide, by split <;> decide, ?_⟩
    have := take_loop (G := G) (a := a) (many := many) (N := { nx := sRet (eOp oMod (eOp oDivW (eVar 3) (eC (D.int 16))) (eVar 1)) (fin G Q), rt := (fin G Q).rt, bk := (fin G Q).bk, ct := (fin G Q).ct, xr := (fin G Q).xr }) (1 + if 1000000 < many then 1 else 0 : Int).toNat 0 0 none x y z ⟨hx, hy, hy1, hz⟩ (by decide) ?_
    · rw [hG'] at this
      simpa [sSeq] using this
    · intro o3 o4 x y z ok h0
      simp
      exact ⟨⟨by decide, by decide⟩, wd.1, fin_id (k _ _ _ _ ok (Int.emod_nonneg _ (by have := wd.1; omega)) (Int.emod_lt_of_pos _ wd.1))⟩
def r__law_begun : ES :=
  (sSeq (sAsg (eC (.int 0)) (.nm 2))
  (sSeq (sIf (eT (eOp oLt (eVar 1) (eCB cLen (eCons (eVar 0) eNil)))) (sAsg (eOp oIx (eVar 0) (eVar 1)) (.nm 2)) sNext)
  (sSeq (sAsg (eCB cMax2 (eCons (eVar 2) (eCons (eOp oSub (eUn oNeg (eC (.int 1))) (eVar 2)) eNil))) (.nm 3))
  (sSeq (sAsg (eOp oMod (eOp oAdd (eOp oAdd (eVar 3) (eOp oMul (eOp oMul (eC (.int 104729)) (eVar 1)) (eVar 1))) (eC (.int 7))) (eC (.int 2147483647))) (.nm 4))
  (sSeq (sIf (eT (eOp oLt (eVar 3) (eOp oPow (eC (.int 10)) (eC (.int 18))))) (sAsg (eC (.int 0)) (.nm 3)) sNext)
  (sRet (eLstO (eCons (eVar 3) (eCons (eVar 4) (eCons (eC (.int 0)) eNil))))))))))
def F__law_begun : Sf := fun ds G Q => ∃ (ns : List Int) (k : Int), ds = [.scr ns, .int k] ∧ 0 ≤ k ∧ k ≤ 1000 ∧ ∀ p x y z, G p = none → Ok3 x y z → Q (.ref p) (gput G p (stO x y z))
theorem d__law_begun (ds : List D) (G : Gp) (Q : DK) (h : F__law_begun ds G Q) : r__law_begun (fin G Q) (startD 5 ds) G := by
  obtain ⟨ns, k, rfl, h0, h1, kk⟩ := h
  have key : ∀ c : Int, 0 ≤ (if -1 - c > c then -1 - c else c) := fun c => by split <;> omega
  have fin3 : ∀ c : Int, 0 ≤ c → ∀ m : Int, 0 ≤ (if c < 1000000000000000000 then 0 else c) ∧ 0 ≤ m % 2147483647 ∧ m % 2147483647 < 2147483647 := fun c hc m => ⟨by split <;> omega, by omega, by omega⟩
  have body : ∀ c : Int, sSeq (sAsg (eCB cMax2 (eCons (eVar 2) (eCons (eOp oSub (eUn oNeg (eC (.int 1))) (eVar 2)) eNil))) (.nm 3)) (sSeq (sAsg (eOp oMod (eOp oAdd (eOp oAdd (eVar 3) (eOp oMul (eOp oMul (eC (.int 104729)) (eVar 1)) (eVar 1))) (eC (.int 7))) (eC (.int 2147483647))) (.nm 4)) (sSeq (sIf (eT (eOp oLt (eVar 3) (eOp oPow (eC (.int 10)) (eC (.int 18))))) (sAsg (eC (.int 0)) (.nm 3)) sNext) (sRet (eLstO (eCons (eVar 3) (eCons (eVar 4) (eCons (eC (.int 0)) eNil))))))) (fin G Q) [some (.scr ns), some (.int k), some (.int c), none, none] G := by
    intro c
    have hc := key c
    simp [sSeq]
    refine ⟨cmul_l (by decide) (by decide), cmul_r (by omega) (by omega), ⟨by decide, by decide, by decide⟩, ?_⟩
    generalize (if -1 - c > c then -1 - c else c) = m at *
    split
    · exact ⟨by decide, fun p hp => fin_id (kk p _ _ _ hp ⟨by omega, by omega, by omega, by omega⟩)⟩
    · exact ⟨by decide, fun p hp => fin_id (kk p _ _ _ hp ⟨by omega, by omega, by omega, by omega⟩)⟩
  simp [sSeq, r__law_begun, startD]
  split
  · rename_i hlt
    have hk : k.toNat < ns.length := by omega
    have e : atI (ns.map D.int) k = some (.int ns[k.toNat]) := by
      have := atI_nat (xs := ns.map D.int) (j := k.toNat) (v := .int ns[k.toNat]) (by rw [List.getElem?_map, List.getElem?_eq_getElem hk]; rfl)
      rwa [Int.toNat_of_nonneg h0] at this
    rw [e]
    have := body ns[k.toNat]
    simpa [sSeq] using this
  · have := body 0
    simpa [sSeq] using this
end DL
set_option Elab.async false
set_option linter.all false
set_option maxRecDepth 100000
set_option maxHeartbeats 4000000
namespace DL
open PySem PySem.Spec PyProof.Rows L2
theorem take_ok {a : Addr} {m x y z : Int} {G : Gp} {Q : DK} (hG : G a = some (stO x y z)) (ok : Ok3 x y z) (w : Wd m) (k : ∀ r x y z, Ok3 x y z → 0 ≤ r → r < m → Q (.int r) (gput G a (stO x y z))) : F__law_take [.ref a, .int m] G Q := ⟨a, m, x, y, z, rfl, hG, ok, w, k⟩
theorem wd_of {m : Int} (h : 0 < m) (h2 : m ≤ 10000000000000000000000000000000000000000000000000000000000000) : Wd m := wd_small h (Int.lt_of_le_of_lt h2 (by decide +kernel))
/-- an item of a written list -/
theorem at_mem {ds : List D} {i : Int} (h0 : 0 ≤ i) (h1 : i < ds.length) : ∃ d, atI ds i = some d ∧ d ∈ ds := by
  have hi : i.toNat < ds.length := by omega
  have := atI_nat (xs := ds) (j := i.toNat) (List.getElem?_eq_getElem hi)
  rw [Int.toNat_of_nonneg h0] at this
  exact ⟨_, this, List.getElem_mem hi⟩
theorem gput_swap {G : Gp} {a p : Addr} {s s' l : GO} (h : p ≠ a) : gput (gput (gput G a s) p l) a s' = gput (gput G a s') p l := by
  funext b
  unfold gput
  by_cases e : b = a
  · subst e; simp [Ne.symm h]
  · by_cases e2 : b = p <;> simp [e, e2, h]
structure Stretch where
  name : Str
  b : Int
  e : Int
  w : Int
def Stretch.d (s : Stretch) : D := .tup [.str s.name, .int s.b, .int s.e, .int s.w]
structure NameOk (x : Str) : Prop where
  l1 : 1 ≤ x.length
  l8 : x.length ≤ 8
  az : ∀ c ∈ x.cps.toList, 97 ≤ c ∧ c ≤ 122
theorem Stretch.plain (s : Stretch) : plainD s.d = true := by simp [Stretch.d, plainD, plainDs]
theorem plain_book (bk : List Stretch) : plainDs (bk.map Stretch.d) = true := plainDs_map Stretch.plain bk
def r__law_name_L1 : ES :=
  (sAsg (eOp oAdd (eVar 3) (eOp oIx (eVar 2) (eCall F__law_take (eCons (eVar 0) (eCons (eC (.int 26)) eNil))))) (.nm 3))
def r__law_name : ES :=
  (sSeq (sAsg (eC (.str "abcdefghijklmnopqrstuvwxyz")) (.nm 2))
  (sSeq (sAsg (eC (.str "")) (.nm 3))
  (sSeq (sFor (iR1 (eCons (eCall F__law_take (eCons (eVar 0) (eCons (eC (.int 8)) eNil))) eNil)) (.nm 4) r__law_name_L1)
  (sRet (eOp oAdd (eVar 3) (eOp oIx (eVar 2) (eVar 1)))))))
def Lt : Str := "abcdefghijklmnopqrstuvwxyz"
theorem lt_cps : Lt.cps.toList = (List.range 26).map (97 + ·) := by decide +kernel
theorem lt_len : Lt.length = 26 := by decide +kernel
theorem lt_at {i : Int} (h0 : 0 ≤ i) (h1 : i < 26) : atI Lt.cps.toList i = some (97 + i.toNat) := by
  rw [lt_cps]
  have := atI_nat (xs := (List.range 26).map (97 + ·)) (j := i.toNat) (v := 97 + i.toNat) (by rw [List.getElem?_map, List.getElem?_range (by omega)]; rfl)
  rwa [Int.toNat_of_nonneg h0] at this
theorem str_app_len (x y : Str) : (x ++ y).length = x.length + y.length := by
  show (x.cps ++ y.cps).size = x.cps.size + y.cps.size
  simp
theorem str_app_cps (x y : Str) : (x ++ y).cps.toList = x.cps.toList ++ y.cps.toList := by
  show (x.cps ++ y.cps).toList = _
  simp
theorem str_one_len (c : Nat) : (⟨#[c]⟩ : Str).length = 1 := rfl
def F__law_name : Sf := fun ds G Q => ∃ a k x y z, ds = [.ref a, .int k] ∧ G a = some (stO x y z) ∧ Ok3 x y z ∧ 0 ≤ k ∧ k < 26 ∧
  ∀ nm x' y' z', Ok3 x' y' z' → NameOk nm → nm.cps.toList.getLast? = some (97 + k.toNat) → Q (.str nm) (gput G a (stO x' y' z'))
theorem name_loop {G : Gp} {a : Addr} {N : En} {k : Int} : ∀ (n : Nat) (lo : Int) (sp : Str) (o4 : Option D) (x y z : Int), Ok3 x y z → sp.length + n ≤ 7 → (∀ c ∈ sp.cps.toList, 97 ≤ c ∧ c ≤ 122) →
    (∀ (sp : Str) o4 x y z, Ok3 x y z → sp.length ≤ 7 → (∀ c ∈ sp.cps.toList, 97 ≤ c ∧ c ≤ 122) → N.nx [some (.ref a), some (.int k), some (.str Lt), some (.str sp), o4] (gput G a (stO x y z))) →
    forW (.nm 4) r__law_name_L1 (fun _ => True) N (rngD lo n) [some (.ref a), some (.int k), some (.str Lt), some (.str sp), o4] (gput G a (stO x y z)) := by
  intro n
  induction n with
  | zero => intro lo sp o4 x y z ok h0 h1 kk; simp only [rngD_zero, forW, true_and]; exact kk _ _ _ _ _ ok (by omega) h1
  | succ n ih =>
    intro lo sp o4 x y z ok h0 h1 kk
    rw [rngD_succ]
    simp [forW, sSeq, r__law_name_L1]
    refine take_ok gput_same ok (wd_of (by decide) (by decide)) fun r x' y' z' ok' hr0 hr1 => ?_
    simp [gput_gput, lt_at hr0 hr1]
    refine ⟨by rw [lt_len]; decide, by rw [str_one_len]; exact Nat.le_trans (by omega) line_ge, ?_⟩
    refine ih _ _ _ _ _ _ ok' (by rw [str_app_len, str_one_len]; omega) ?_ kk
    intro c hc
    rw [str_app_cps] at hc
    rcases List.mem_append.mp hc with q | q
    · exact h1 c q
    · simp at q; omega
theorem d__law_name (ds : List D) (G : Gp) (Q : DK) (h : F__law_name ds G Q) : r__law_name (fin G Q) (startD 5 ds) G := by
  obtain ⟨a, k, x, y, z, rfl, hG, ok, h0, h1, kk⟩ := h
  simp [sSeq, r__law_name, startD]
  refine take_ok hG ok (wd_of (by decide) (by decide)) fun r x' y' z' ok' hr0 hr1 => ?_
  simp
  refine ⟨by omega, by omega, ?_⟩
  refine name_loop (G := G) (k := k) r.toNat 0 "" none x' y' z' ok' (by show 0 + r.toNat ≤ 7; omega) (fun c hc => by rw [show (Str.ofString "").cps.toList = [] by decide +kernel] at hc; cases hc) ?_
  intro sp o4 x y z ok hl hc
  simp [lt_at h0 h1]
  refine ⟨by rw [lt_len]; decide, by rw [str_one_len]; exact Nat.le_trans (by omega) line_ge, fin_id (kk _ _ _ _ ok ⟨?_, ?_, ?_⟩ ?_)⟩
  · rw [str_app_len, str_one_len]; omega
  · rw [str_app_len, str_one_len]; omega
  · intro c q
    rw [str_app_cps] at q
    rcases List.mem_append.mp q with q | q
    · exact hc c q
    · simp at q; omega
  · rw [str_app_cps]; simp
end DL
set_option Elab.async false
set_option linter.all false
set_option maxRecDepth 100000
set_option maxHeartbeats 4000000
namespace DL
open PySem PySem.Spec PyProof.Rows L2
/-- the drawn names end in unlike letters -/
def LastAt (bk : List Stretch) : Prop := ∀ (j : Nat) (s : Stretch), bk[j]? = some s → s.name.cps.toList.getLast? = some (97 + j)
theorem last_nodup {bk : List Stretch} (h : LastAt bk) : (bk.map Stretch.name).Nodup := by
  rw [List.nodup_iff_pairwise_ne, List.pairwise_map, List.pairwise_iff_getElem]
  intro i j hi hj hij e
  have h1 := h i _ (List.getElem?_eq_getElem hi)
  have h2 := h j _ (List.getElem?_eq_getElem hj)
  rw [e, h2] at h1
  have := Option.some.inj h1
  omega
/-- a rising list of numbers below n -/
structure Some (n : Nat) (l : List Nat) : Prop where
  lt : ∀ i ∈ l, i < n
  up : l.Pairwise (· < ·)
def nD (l : List Nat) : List D := l.map fun (i : Nat) => D.int (i : Int)
end DL
set_option Elab.async false
set_option linter.all false
set_option maxRecDepth 100000
set_option maxHeartbeats 4000000
namespace DL
open PySem PySem.Spec PyProof.Rows L2
end DL
set_option Elab.async false
set_option linter.all false
set_option maxRecDepth 100000
set_option maxHeartbeats 4000000
namespace DL
open PySem PySem.Spec PyProof.Rows L2
end DL
set_option Elab.async false
set_option linter.all false
set_option maxRecDepth 100000
set_option maxHeartbeats 4000000
namespace DL
open PySem PySem.Spec PyProof.Rows L2
instance : Inhabited Stretch := ⟨⟨⟨#[]⟩, 0, 0, 0⟩⟩
def st (bk : List Stretch) (i : Nat) : Stretch := bk.getD i default
def worthOf (bk : List Stretch) (l : List Nat) : Int := (l.map fun i => (st bk i).w).sum
theorem bk_at {bk : List Stretch} {i : Nat} (h : i < bk.length) : atI (bk.map Stretch.d) (i : Int) = some (st bk i).d := by
  refine atI_nat ?_
  unfold st
  rw [List.getElem?_map, List.getElem?_eq_getElem h, List.getD_eq_getElem?_getD, List.getElem?_eq_getElem h]
  rfl
theorem intsD_f {f : Nat → Int} : ∀ l : List Nat, intsD (l.map fun i => D.int (f i)) = some (l.map f)
  | [] => rfl
  | i :: l => by simp only [List.map_cons, intsD, intsD_f l, Option.map_some]
theorem toPys_map {α : Type} {f : α → D} {g : α → PyData} {G : Gp} (h : ∀ x, toPy G (f x) = some (g x)) : ∀ xs : List α, toPys G (xs.map f) = some (xs.map g)
  | [] => by simp only [List.map_nil, toPys]
  | x :: xs => by simp only [List.map_cons, toPys, h x, toPys_map h xs]
def Stretch.py (s : Stretch) : PyData := .tuple [.str s.name, .int s.b, .int s.e, .int s.w]
theorem Stretch.toPy {G : Gp} (s : Stretch) : DL.toPy G s.d = some s.py := by simp [Stretch.d, Stretch.py]
theorem toPys_book {G : Gp} (bk : List Stretch) : toPys G (bk.map Stretch.d) = some (bk.map Stretch.py) := toPys_map (fun s => s.toPy) bk
theorem toPys_nD {G : Gp} (l : List Nat) : toPys G (nD l) = some (l.map fun (i : Nat) => PyData.int (i : Int)) := toPys_map (fun i => by simp) l
theorem depthAll_le {n : Nat} : ∀ {xs : List PyData}, (∀ x ∈ xs, x.depth ≤ n) → PyData.depthAll xs ≤ n
  | [], _ => by simp [PyData.depthAll]
  | x :: xs, h => by
    simp only [PyData.depthAll]
    exact Nat.max_le.mpr ⟨h x List.mem_cons_self, depthAll_le fun y hy => h y (List.mem_cons_of_mem _ hy)⟩
theorem canLayAll_of : ∀ {xs : List PyData}, (∀ x ∈ xs, x.canLay0 = true) → PyData.canLayAll0 xs = true
  | [], _ => by simp [PyData.canLayAll0]
  | x :: xs, h => by
    simp only [PyData.canLayAll0, Bool.and_eq_true]
    exact ⟨h x List.mem_cons_self, canLayAll_of fun y hy => h y (List.mem_cons_of_mem _ hy)⟩
/-- shaped, and no deeper than n -/
structure Shp (n : Nat) (d : PyData) : Prop where
  c : d.canLay0 = true
  d : d.depth ≤ n
theorem Shp.shaped {n : Nat} {d : PyData} (h : Shp n d) (hn : n ≤ 64) : SeqAt.shaped d = true := by
  unfold SeqAt.shaped
  rw [h.c, decide_eq_true (Nat.le_trans h.d hn)]
  rfl
theorem shp_list {n : Nat} {xs : List PyData} (h : ∀ x ∈ xs, Shp n x) : Shp (n + 1) (.list xs) :=
  ⟨by simp only [PyData.canLay0]; exact canLayAll_of fun x hx => (h x hx).c, by simp only [PyData.depth]; exact Nat.succ_le_succ (depthAll_le fun x hx => (h x hx).d)⟩
theorem shp_tuple {n : Nat} {xs : List PyData} (h : ∀ x ∈ xs, Shp n x) : Shp (n + 1) (.tuple xs) :=
  ⟨by simp only [PyData.canLay0]; exact canLayAll_of fun x hx => (h x hx).c, by simp only [PyData.depth]; exact Nat.succ_le_succ (depthAll_le fun x hx => (h x hx).d)⟩
theorem shp_int (i : Int) {n : Nat} : Shp n (.int i) := ⟨by simp only [PyData.canLay0], by simp [PyData.depth]⟩
theorem shp_str {x : Str} {n : Nat} (h : ∀ c ∈ x.cps.toList, c < 1114112) : Shp n (.str x) := ⟨by
  simp only [PyData.canLay0, PyData.strOk]
  rw [Array.all_eq_true']
  intro c hc
  exact decide_eq_true (h c (Array.mem_toList_iff.mpr hc)), by simp [PyData.depth]⟩
theorem shp_name {x : Str} {n : Nat} (h : NameOk x) : Shp n (.str x) := shp_str fun c hc => by have := h.az c hc; omega
theorem shp_nats {l : List Nat} {n : Nat} : Shp (n + 1) (.list (l.map fun (i : Nat) => PyData.int (i : Int))) := shp_list fun x hx => by
  obtain ⟨s, hs, rfl⟩ := List.mem_map.mp hx
  exact shp_int _
theorem eqv_self {n : Nat} {d : PyData} (h : Shp n d) : PyData.eqv d d = true := SeqAt.eqv_refl d h.c
end DL
set_option Elab.async false
set_option linter.all false
set_option maxRecDepth 100000
set_option maxHeartbeats 4000000
namespace DL
open PySem PySem.Spec PyProof.Rows L2
/-- a loop whose turns keep I -/
theorem forW_all {t : Tg} {tb : ES} {Kp : Gp → Prop} {N : En} (I : Sd → Gp → Prop) (hK : ∀ s G, I s G → Kp G) : ∀ (ds : List D) (s : Sd) (G : Gp),
    (∀ d ∈ ds, ∀ s G (W : Sd → Gp → Prop), I s G → (∀ s' G', I s' G' → W s' G') → match asg t d s with
      | some s' => tb { N with nx := W, ct := W, bk := N.nx } s' G
      | none => False) → I s G → (∀ s G, I s G → N.nx s G) → forW t tb Kp N ds s G
  | [], s, G, _, hI, k => by simp only [forW]; exact ⟨hK s G hI, k s G hI⟩
  | d :: ds, s, G, h, hI, k => by
    simp only [forW]
    exact ⟨hK s G hI, h d List.mem_cons_self s G _ hI fun s' G' hI' => forW_all I hK ds s' G' (fun d hd => h d (List.mem_cons_of_mem _ hd)) hI' k⟩
theorem rngD_mem {lo : Int} {n : Nat} {d : D} (h : d ∈ rngD lo n) : ∃ i : Int, d = .int i ∧ lo ≤ i ∧ i < lo + n := by
  unfold rngD at h
  obtain ⟨j, hj, rfl⟩ := List.mem_map.mp h
  rw [List.mem_range] at hj
  exact ⟨_, rfl, by omega, by omega⟩
/-- the law's outer loop -/
theorem law_loop {t : Tg} {tb : ES} {N : En} {n m : Nat} (I : Sd → Gp → Prop) {s : Sd} {G : Gp} (h : ∀ k : Int, 0 ≤ k → k < 63 → ∀ s G (W : Sd → Gp → Prop), I s G → (∀ s' G', I s' G' → W s' G') → match asg t (.int k) s with
      | some s' => tb { N with nx := W, ct := W, bk := N.nx } s' G
      | none => False) (hn : n ≤ 63) (hI : I s G) (k : ∀ s G, I s G → N.nx s G) : forW t tb (fun _ => True) N (rngD 0 n) s G := by
  refine forW_all I (fun _ _ _ => trivial) _ s G (fun d hd => ?_) hI k
  obtain ⟨i, rfl, h0, h1⟩ := rngD_mem hd
  exact h i h0 (by omega)
end DL
set_option Elab.async false
set_option linter.all false
set_option maxRecDepth 100000
set_option maxHeartbeats 4000000
namespace L2
open PySem PySem.Spec PyProof.Rows
end L2
set_option Elab.async false
set_option linter.all false
set_option maxRecDepth 100000
set_option maxHeartbeats 4000000
namespace L2
open PySem PySem.Spec PyProof.Rows
end L2
namespace DL
open PySem PySem.Spec PyProof.Rows L2
/-- sorted(set(xs)): the ints of xs, rising, each once -/
@[simp] def eSortedSet (ea : EA) : EE := fun s G Q => ea s G fun xs G1 => match xs with
  | [x] => (match (lkL G1 x).bind intsD with
    | some ns => ns.length < 64 ∧ ∀ ms : List Int, ms.Pairwise (· < ·) → (∀ k : Int, k ∈ ms ↔ k ∈ ns) → Q (.lst (ms.map D.int)) G1
    | none => False)
  | _ => False
section
variable {X : Cx}
/-- sorted(xs) of ints -/
@[simp] def cSortedI : CD := fun xs G Q => match xs with
  | [x] => (match (lkL G x).bind intsD with
    | some ns => ∀ ms : List Int, ms.Perm ns → ms.Pairwise (· ≤ ·) → Q (.lst (ms.map D.int)) G
    | none => False)
  | _ => False
theorem lc_sortedI {K : PySem.W.Frag} : LC K (rSortedI K) cSortedI := fun P G H xs us Q R h w r k => by
  unfold cSortedI at h
  split at h
  · obtain ⟨u, rfl, r1⟩ := reps1 r
    split at h
    · rename_i ns e
      obtain ⟨a, rfl, s, z⟩ := lk_ints w r1 e
      refine ⟨a, ns, rfl, s, fun ms l pm up hl => ?_⟩
      obtain ⟨f1, f2⟩ := w.fresh hl
      have st : Step G H G (upd H l (.lst (ms.map V.int))) := Step.new hl
      exact k _ G _ _ st (w.new hl) (rep_lst f1 f2 upd_same (by rw [List.length_map, pm.length_eq]; exact z) reps_of_ints) (h ms pm up)
    · exact h.elim
  · exact h.elim
end
end DL
set_option Elab.async false
set_option linter.all false
set_option maxRecDepth 100000
set_option maxHeartbeats 4000000
namespace DL
open PySem PySem.Spec PyProof.Rows L2
def ins (k : Int) : List Int → List Int
  | [] => [k]
  | x :: xs => if k < x then k :: x :: xs else if k = x then x :: xs else x :: ins k xs
def srt (ns : List Int) : List Int := ns.foldr ins []
def over (s : Stretch) (m : Int) : Bool := decide (s.b ≤ m) && decide (m < s.e)
def loadAt (bk : List Stretch) (l : List Nat) (m : Int) : Nat := (l.filter fun i => over (st bk i) m).length
def momentsOf (bk : List Stretch) : List Int := srt (bk.map Stretch.b ++ bk.map Stretch.e)
def iD (l : List Int) : List D := l.map D.int
end DL
set_option Elab.async false
set_option linter.all false
set_option maxRecDepth 100000
set_option maxHeartbeats 4000000
namespace DL
open PySem PySem.Spec PyProof.Rows L2
/-- x is True, x is False -/
@[simp] def oIsB : OD := fun x y G Q => match x, y with
  | .bl a, .bl b => Q (.bl (decide (a = b))) G
  | _, _ => False
@[simp] def oNotB : OD := fun x y G Q => match x, y with
  | .bl a, .bl b => Q (.bl (!decide (a = b))) G
  | _, _ => False
end DL
set_option Elab.async false
set_option linter.all false
set_option maxRecDepth 100000
set_option maxHeartbeats 4000000
namespace DL
open PySem PySem.Spec PyProof.Rows L2
@[simp ↓ high] theorem ix_0 {s : Stretch} {G : Gp} {Q : DK} : oIx s.d (.int 0) G Q = Q (.str s.name) G := by simp [Stretch.d, atI, ixN]
@[simp ↓ high] theorem ix_1 {s : Stretch} {G : Gp} {Q : DK} : oIx s.d (.int 1) G Q = Q (.int s.b) G := by simp [Stretch.d, atI, ixN]
@[simp ↓ high] theorem ix_2 {s : Stretch} {G : Gp} {Q : DK} : oIx s.d (.int 2) G Q = Q (.int s.e) G := by simp [Stretch.d, atI, ixN]
@[simp ↓ high] theorem ix_3 {s : Stretch} {G : Gp} {Q : DK} : oIx s.d (.int 3) G Q = Q (.int s.w) G := by simp [Stretch.d, atI, ixN]
@[simp] theorem sh_int (i : Int) : SeqAt.shaped (.int i) = true := rfl
@[simp] theorem sh_bool (i : Bool) : SeqAt.shaped (.bool i) = true := rfl
@[simp] theorem sh_none : SeqAt.shaped .none = true := rfl
@[simp] theorem eqv_ii (a b : Int) : PyData.eqv (.int a) (.int b) = decide (a = b) := by simp only [PyData.eqv]; rfl
@[simp] theorem eqv_bb (a b : Bool) : PyData.eqv (.bool a) (.bool b) = (a == b) := by cases a <;> cases b <;> decide
@[simp] theorem kit_bool_bool : kitB "bool" "bool" = some true := by decide +kernel
@[simp] theorem kit_int_int1 : kitB "int" "int" = some true := by decide +kernel
@[simp] theorem kit_int_bool1 : kitB "int" "bool" = some false := by decide +kernel
@[simp] theorem kit_tuple_tuple : kitB "tuple" "tuple" = some true := by decide +kernel
@[simp] theorem kit_list_list : kitB "list" "list" = some true := by decide +kernel
theorem ints_at {l : List Int} {i : Int} (h0 : 0 ≤ i) (h1 : i < l.length) : ∃ m, atI (l.map D.int) i = some (.int m) ∧ m ∈ l := by
  obtain ⟨d, e, hd⟩ := at_mem (ds := l.map D.int) h0 (by simpa using h1)
  obtain ⟨m, hm, rfl⟩ := List.mem_map.mp hd
  exact ⟨m, e, hm⟩
end DL
set_option Elab.async false
set_option linter.all false
set_option maxRecDepth 100000
set_option maxHeartbeats 4000000
namespace DL
open PySem PySem.Spec PyProof.Rows L2
/-- a loop, the rest of what is walked known -/
theorem forW_ind {α : Type} {g : α → D} {t : Tg} {tb : ES} {Kp : Gp → Prop} {N : En} (I : List α → Sd → Gp → Prop) (hK : ∀ xs s G, I xs s G → Kp G)
    (h : ∀ x xs s G (W : Sd → Gp → Prop), I (x :: xs) s G → (∀ s' G', I xs s' G' → W s' G') → match asg t (g x) s with
      | some s' => tb { N with nx := W, ct := W, bk := N.nx } s' G
      | none => False) (k : ∀ s G, I [] s G → N.nx s G) : ∀ (xs : List α) (s : Sd) (G : Gp), I xs s G → forW t tb Kp N (xs.map g) s G
  | [], s, G, hI => ⟨hK _ s G hI, k s G hI⟩
  | x :: xs, s, G, hI => ⟨hK _ s G hI, h x xs s G _ hI fun s' G' hI' => forW_ind I hK h k xs s' G' hI'⟩
theorem flDs_ints : ∀ l : List Int, flDs (l.map D.int) = some (l.map V.int)
  | [] => rfl
  | n :: l => by simp [flDs_ints l]
theorem inV_ints (m : Int) : ∀ l : List Int, inV (.int m) (l.map V.int) = decide (m ∈ l)
  | [] => by simp [inV]
  | n :: l => by
    have := inV_ints m l
    simp only [inV, List.map_cons, List.any_cons] at this ⊢
    rw [this]
    have e : eqV (.int n) (.int m) = decide (m = n) := by
      show (n == m) = _
      by_cases h : n = m
      · subst h; simp
      · have h2 : ¬ m = n := fun q => h q.symm
        simp [h, h2]
    rw [e]
    by_cases h : m = n <;> simp [h]
end DL
set_option Elab.async false
set_option linter.all false
set_option maxRecDepth 100000
set_option maxHeartbeats 4000000
namespace DL
open PySem PySem.Spec PyProof.Rows L2
theorem gsub {G : Gp} {p : Addr} {o : GO} (n : G p = none) : ∀ a u, G a = some u → gput G p o a = some u := fun a u e => by
  have : a ≠ p := fun z => by subst z; rw [n] at e; cases e
  rw [gput_ne this]; exact e
end DL
set_option Elab.async false
set_option linter.all false
set_option maxRecDepth 100000
set_option maxHeartbeats 4000000
namespace DL
open PySem PySem.Spec PyProof.Rows L2
theorem st_mem {bk : List Stretch} {i : Nat} (hi : i < bk.length) : st bk i ∈ bk := by
  unfold st; rw [List.getD_eq_getElem?_getD, List.getElem?_eq_getElem hi]; exact List.getElem_mem hi
theorem some_len0 {n : Nat} : ∀ {l : List Nat} {lo : Nat}, (∀ i ∈ l, lo ≤ i ∧ i < n) → l.Pairwise (· < ·) → l.length ≤ n - lo
  | [], _, _, _ => Nat.zero_le _
  | x :: l, lo, h, up => by
    rw [List.pairwise_cons] at up
    have hx := h x List.mem_cons_self
    have := some_len0 (n := n) (l := l) (lo := x + 1) (fun i hi => ⟨up.1 i hi, (h i (List.mem_cons_of_mem _ hi)).2⟩) up.2
    simp; omega
theorem some_len {n : Nat} {l : List Nat} (h : Some n l) : l.length ≤ n := some_len0 (lo := 0) (fun i hi => ⟨Nat.zero_le _, h.lt i hi⟩) h.up
end DL
set_option Elab.async false
set_option linter.all false
set_option maxRecDepth 100000
set_option maxHeartbeats 4000000
namespace DL
open PySem PySem.Spec PyProof.Rows L2
end DL
set_option Elab.async false
set_option linter.all false
set_option maxRecDepth 100000
set_option maxHeartbeats 4000000
namespace DL
open PySem PySem.Spec PyProof.Rows L2
end DL
set_option Elab.async false
set_option linter.all false
set_option maxRecDepth 100000
set_option maxHeartbeats 4000000
namespace DL
open PySem PySem.Spec PyProof.Rows L2
theorem eqvAll_ints : ∀ (l l' : List Int), PyData.eqvAll (l.map PyData.int) (l'.map PyData.int) = decide (l = l')
  | [], [] => by simp [PyData.eqvAll]
  | [], b :: l' => by simp [PyData.eqvAll]
  | a :: l, [] => by simp [PyData.eqvAll]
  | a :: l, b :: l' => by simp [PyData.eqvAll, eqvAll_ints l l']
theorem eqv_ints (l l' : List Int) : PyData.eqv (.list (l.map PyData.int)) (.list (l'.map PyData.int)) = decide (l = l') := by
  simp only [PyData.eqv]; exact eqvAll_ints l l'
theorem eqv_nats (l l' : List Nat) : PyData.eqv (.list (l.map fun (i : Nat) => PyData.int (i : Int))) (.list (l'.map fun (i : Nat) => PyData.int (i : Int))) = decide (l = l') := by
  have e : ∀ l : List Nat, (l.map fun (i : Nat) => PyData.int (i : Int)) = (l.map fun (i : Nat) => (i : Int)).map PyData.int := fun l => by simp [Function.comp_def]
  rw [e, e, eqv_ints, decide_eq_decide]
  constructor
  · intro h
    exact List.map_inj_right (fun a b h => Int.ofNat_inj.mp h) |>.mp h
  · intro h; rw [h]
theorem flDs_nD (l : List Nat) : flDs (nD l) = some (l.map fun (i : Nat) => V.int (i : Int)) := by
  have e : nD l = (l.map fun (i : Nat) => (i : Int)).map D.int := by simp [nD, Function.comp_def]
  rw [e, flDs_ints, List.map_map]; rfl
theorem inV_nD (m : Nat) (l : List Nat) : inV (.int (m : Int)) (l.map fun (i : Nat) => V.int (i : Int)) = decide (m ∈ l) := by
  have e : (l.map fun (i : Nat) => V.int (i : Int)) = (l.map fun (i : Nat) => (i : Int)).map V.int := by rw [List.map_map]; rfl
  rw [e, inV_ints, decide_eq_decide]
  simp only [List.mem_map]
  constructor
  · rintro ⟨a, h1, h2⟩
    have : a = m := by omega
    exact this ▸ h1
  · intro h; exact ⟨m, h, rfl⟩
end DL
set_option Elab.async false
set_option linter.all false
set_option maxRecDepth 100000
set_option maxHeartbeats 4000000
namespace DL
open PySem PySem.Spec PyProof.Rows L2
/-- sorted(set(xs)), owned -/
@[simp] def eSortedSetO (ea : EA) : EE := fun s G Q => ea s G fun xs G1 => match xs with
  | [x] => (match (lkL G1 x).bind intsD with
    | some ns => ns.length < 64 ∧ ∀ ms : List Int, ms.Pairwise (· < ·) → (∀ k : Int, k ∈ ms ↔ k ∈ ns) → ∀ p, G1 p = none → Q (.ref p) (gput G1 p (.lst (ms.map D.int)))
    | none => False)
  | _ => False
end DL
set_option Elab.async false
set_option linter.all false
set_option maxRecDepth 100000
set_option maxHeartbeats 4000000
namespace DL
open PySem PySem.Spec PyProof.Rows L2
/-- xs[::-1]: a new list, frozen -/
@[simp] def eRevL (te : EE) : EE := fun s G Q => te s G fun x G1 => match lkL G1 x with
  | some ds => Q (.lst ds.reverse) G1
  | none => False
section
variable {X : Cx} {K : PySem.W.Frag} {P : Addr → Prop} {G : Gp} {H : Hp}
theorem Reps.reverse : ∀ {ds : List D} {vs : List V}, Reps K H G P ds vs → Reps K H G P ds.reverse vs.reverse
  | [], _, h => by unfold Reps at h; subst h; exact reps_nil
  | d :: ds, _, h => by
    unfold Reps at h
    obtain ⟨x, r, rfl, h1, h2⟩ := h
    rw [List.reverse_cons, List.reverse_cons]
    exact (Reps.reverse h2).append (reps_cons h1 reps_nil)
end
/-- a comprehension, the rest of what is walked known -/
theorem compW_ind {α : Type} {g : α → D} {s0 : Sd} {t : Tg} {tt : ET} {te : EE} {Kp : Gp → Prop} {Q : List D → Gp → Prop} (I : List α → List D → Gp → Prop) (hK : ∀ xs acc G, I xs acc G → Kp G)
    (h : ∀ x xs acc G (W : List D → Gp → Prop), I (x :: xs) acc G → (∀ acc' G', I xs acc' G' → W acc' G') → match asg t (g x) s0 with
      | none => False
      | some s' => tt s' G fun b G1 => if b = true then te s' G1 fun v G2 => W (acc ++ [v]) G2 else W acc G1) (k : ∀ acc G, I [] acc G → Q acc G) : ∀ (xs : List α) (acc : List D) (G : Gp), I xs acc G → compW s0 t tt te Kp (xs.map g) acc G Q
  | [], acc, G, hI => ⟨hK _ _ G hI, k acc G hI⟩
  | x :: xs, acc, G, hI => ⟨hK _ _ G hI, h x xs acc G _ hI fun acc' G' hI' => compW_ind I hK h k xs acc' G' hI'⟩
end DL
set_option Elab.async false
set_option linter.all false
set_option maxRecDepth 100000
set_option maxHeartbeats 4000000
namespace DL
open PySem PySem.Spec PyProof.Rows L2
theorem rngD_map (n : Nat) : rngD 0 n = (List.range' 0 n).map fun (i : Nat) => D.int (i : Int) := by
  unfold rngD
  rw [List.range_eq_range']
  exact List.map_congr_left fun a _ => by simp
theorem forW_rng {n : Nat} {t : Tg} {tb : ES} {N : En} {s : Sd} {G : Gp} (I : Nat → Sd → Gp → Prop)
    (h : ∀ (j : Nat) s G (W : Sd → Gp → Prop), j < n → I j s G → (∀ s' G', I (j + 1) s' G' → W s' G') → match asg t (.int (j : Int)) s with
      | some s' => tb { N with nx := W, ct := W, bk := N.nx } s' G
      | none => False) (k : ∀ s G, I n s G → N.nx s G) (h0 : I 0 s G) : forW t tb (fun _ => True) N (rngD 0 n) s G := by
  rw [rngD_map]
  refine forW_ind (fun r s G => ∃ j, r = List.range' j (n - j) ∧ j ≤ n ∧ I j s G) (fun _ _ _ _ => trivial) ?_ ?_ _ _ _ ⟨0, by simp, Nat.zero_le _, h0⟩
  · rintro x r s G W ⟨j, e, hj, hI⟩ hW
    have hlt : j < n := by
      rcases Nat.lt_or_ge j n with q | q
      · exact q
      · rw [Nat.sub_eq_zero_of_le q] at e; simp at e
    rw [show n - j = (n - (j + 1)) + 1 by omega, List.range'_succ] at e
    cases e
    exact h x s G W hlt hI fun s' G' hI' => hW s' G' ⟨x + 1, rfl, hlt, hI'⟩
  · rintro s G ⟨j, e, hj, hI⟩
    have : j = n := by
      have := congrArg List.length e
      simp at this
      omega
    subst this
    exact k s G hI
end DL
set_option Elab.async false
set_option linter.all false
set_option maxRecDepth 100000
set_option maxHeartbeats 4000000
namespace DL
open PySem PySem.Spec PyProof.Rows L2
@[simp] def keyD : D → Option Key
  | .int i => some (.inl i)
  | .str x => some (.inr x)
  | _ => none
def lkD (G : Gp) : D → Option (List Key × List D)
  | .dct ks ds => some (ks, ds)
  | .ref a => match G a with
    | some (.dct ks ds) => some (ks, ds)
    | _ => none
  | _ => none
@[simp] theorem lkD_dct {G : Gp} {ks : List Key} {ds : List D} : lkD G (.dct ks ds) = some (ks, ds) := rfl
@[simp] theorem lkD_ref {G : Gp} {a : Addr} : lkD G (.ref a) = match G a with
    | some (.dct ks ds) => some (ks, ds)
    | _ => none := rfl
def valD : List Key → List D → Key → Option D
  | k' :: ks, d :: ds, k => if k' = k then some d else valD ks ds k
  | _, _, _ => none
def putDs : List Key → List D → Key → D → List D
  | k' :: ks, d' :: ds, k, d => (if k' = k then d else d') :: putDs ks ds k d
  | _, _, _, _ => []
def hasK (ks : List Key) (k : Key) : Bool := ks.any fun k' => decide (k' = k)
/-- the keys, the values behind d[k] = v -/
def putKs (ks : List Key) (k : Key) : List Key := if hasK ks k = true then ks else ks ++ [k]
def putVs (ks : List Key) (ds : List D) (k : Key) (d : D) : List D := if hasK ks k = true then putDs ks ds k d else ds ++ [d]
@[simp] def oDGet : OD := fun x y G Q => match lkD G x, keyD y with
  | some (ks, ds), some k => (match valD ks ds k with
    | some d => Q d G
    | none => False)
  | _, _ => False
@[simp] def oDIn : OD := fun y x G Q => match lkD G x, keyD y with
  | some (ks, ds), some k => Q (.bl (valD ks ds k).isSome) G
  | _, _ => False
@[simp] def oDNotIn : OD := fun y x G Q => match lkD G x, keyD y with
  | some (ks, ds), some k => Q (.bl (!(valD ks ds k).isSome)) G
  | _, _ => False
section
variable {X : Cx} {K : PySem.W.Frag} {P : Addr → Prop} {G : Gp} {H : Hp}
/-- {}: owned; frozen -/
@[simp] def eDnewO : EE := fun _ G Q => ∀ p, G p = none → Q (.ref p) (gput G p (.dct [] []))
@[simp] def eDnew0 : EE := fun _ G Q => Q (.dct [] []) G
/-- d[k] = v, d owned -/
@[simp] def sPutD (te to ti : EE) : ES := fun N s G => te s G fun v G1 => to s G1 fun o G2 => ti s G2 fun i G3 => match o, keyD i with
  | .ref p, some k => (match G3 p with
    | some (.dct ks ds) => ks.length < sizeLine ∧ N.nx s (gput G3 p (.dct (putKs ks k) (putVs ks ds k v)))
    | _ => False)
  | _, _ => False
/-- sorted(d), the keys ints -/
def intKs : List Key → Option (List Int)
  | [] => some []
  | .inl i :: ks => (intKs ks).map (i :: ·)
  | .inr _ :: _ => none
@[simp] def cSortedDI : CD := fun xs G Q => match xs with
  | [x] => (match (lkD G x).bind fun p => intKs p.1 with
    | some ns => ns.length < 64 ∧ ∀ ms : List Int, ms.Perm ns → ms.Pairwise (· ≤ ·) → Q (.lst (ms.map D.int)) G
    | none => False)
  | _ => False
@[simp] def mPop : MD := fun x xs G Q => match x, xs with
  | .ref p, [] => (match G p with
    | some (.lst ds) => (match ds[ds.length - 1]? with
      | some d => Q d (gput G p (.lst ds.dropLast))
      | none => False)
    | _ => False)
  | _, _ => False
theorem reps_dropLast : ∀ {ds : List D} {vs : List V}, Reps K H G P ds vs → Reps K H G P ds.dropLast vs.dropLast := fun {ds vs} q => by
  rw [List.dropLast_eq_take, List.dropLast_eq_take, q.length]
  exact q.take _
theorem lm_pop : LM K rPop mPop := fun P G H x u xs us Q R h w rx rs k => by
  unfold mPop at h
  split at h
  · rename_i p
    split at h
    · rename_i ds e
      split at h
      · rename_i d e2
        unfold Rep at rx
        obtain ⟨rfl, _⟩ := rx
        unfold Reps at rs
        subst rs
        obtain ⟨ho, e1, ys, rfl, z, q⟩ := w.own p _ e
        obtain ⟨v, e3, r3⟩ := q.get e2
        refine ⟨p, ys, v, rfl, rfl, e1, by rw [← q.length]; exact e3, ?_⟩
        have st : Step G H (gput G p (.lst ds.dropLast)) (upd H p (.lst ys.dropLast)) := Step.chg e
        exact k _ _ _ _ st (w.chg e ⟨_, rfl, by rw [List.length_dropLast]; omega, (reps_dropLast q).step st⟩) (r3.step st) h
      · exact h.elim
    · exact h.elim
  · exact h.elim
@[simp] def mClear : MD := fun x xs G Q => match x, xs with
  | .ref p, [] => (match G p with
    | some (.lst ds) => Q .non (gput G p (.lst []))
    | _ => False)
  | _, _ => False
@[simp] def mIns : MD := fun x xs G Q => match x, xs with
  | .ref p, [.int i, y] => (match G p with
    | some (.lst ds) => ds.length < sizeLine ∧ 0 ≤ i ∧ i < 2 ^ 63 ∧ Q .non (gput G p (.lst (ds.take i.toNat ++ [y] ++ ds.drop i.toNat)))
    | _ => False)
  | _, _ => False
end
end DL
set_option Elab.async false
set_option linter.all false
set_option maxRecDepth 100000
set_option maxHeartbeats 4000000
namespace DL
open PySem PySem.Spec PyProof.Rows L2
/-- d.get(k, x) -/
@[simp] def eDGet2 (to ti tx : EE) : EE := fun s G Q => to s G fun o G1 => (lkD G1 o).isSome = true ∧ ti s G1 fun y G2 => tx s G2 fun z G3 => match lkD G3 o, keyD y with
  | some (ks, ds), some k => Q ((valD ks ds k).getD z) G3
  | _, _ => False
/-- d.get(k) -/
@[simp] def eDGet1 (to ti : EE) : EE := fun s G Q => to s G fun o G1 => (lkD G1 o).isSome = true ∧ ti s G1 fun y G3 => match lkD G3 o, keyD y with
  | some (ks, ds), some k => Q ((valD ks ds k).getD .non) G3
  | _, _ => False
def dropKs : List Key → Key → List Key
  | k' :: ks, k => if k' = k then dropKs ks k else k' :: dropKs ks k
  | [], _ => []
def dropDs : List Key → List D → Key → List D
  | k' :: ks, d :: ds, k => if k' = k then dropDs ks ds k else d :: dropDs ks ds k
  | _, _, _ => []
/-- d.pop(k), k there, d owned -/
@[simp] def eDPop1 (to ti : EE) : EE := fun s G Q => to s G fun o G1 => (lkD G1 o).isSome = true ∧ ti s G1 fun y G2 => match o, keyD y with
  | .ref p, some k => (match G2 p with
    | some (.dct ks ds) => (match valD ks ds k with
      | some d => Q d (gput G2 p (.dct (dropKs ks k) (dropDs ks ds k)))
      | none => False)
    | _ => False)
  | _, _ => False
section
variable {X : Cx} {K : PySem.W.Frag} {P : Addr → Prop} {G : Gp} {H : Hp}
def pairsD : List D → Option (List (Key × D))
  | [] => some []
  | .tup [k, d] :: r => (match keyD k, pairsD r with
    | some kk, some ps => some ((kk, d) :: ps)
    | _, _ => none)
  | _ :: _ => none
def mergeDs : List Key → List D → List (Key × D) → List Key × List D
  | ks, ds, [] => (ks, ds)
  | ks, ds, (k, d) :: r => mergeDs (putKs ks k) (putVs ks ds k d) r
@[simp] def cDictPO : CD := fun xs G Q => match xs with
  | [x] => (match (lkL G x).bind pairsD with
    | some ps => ∀ p, G p = none → Q (.ref p) (gput G p (.dct (mergeDs [] [] ps).1 (mergeDs [] [] ps).2))
    | none => False)
  | _ => False
@[simp] def cDictDO : CD := fun xs G Q => match xs with
  | [x] => (match lkD G x with
    | some (ks, ds) => ∀ p, G p = none → Q (.ref p) (gput G p (.dct ks ds))
    | none => False)
  | _ => False
@[simp] def eDispC (k : Key) (d : D) : EE := fun _ G Q => Q (.dct [k] [d]) G
@[simp] def iRv (te : EE) : EI := fun s G Q => te s G fun x G1 => match lkL G1 x with
  | some ds => Q ds.reverse (stays x ds) G1
  | none => False
end
@[simp] def cAbs : CD := fun xs G Q => match xs with
  | [.int i] => Q (.int (if i < 0 then -i else i)) G
  | _ => False
end DL
set_option Elab.async false
set_option linter.all false
set_option maxRecDepth 100000
set_option maxHeartbeats 4000000
namespace DL
open PySem PySem.Spec PyProof.Rows L2
mutual
def frz (p : Addr) (ds : List D) : D → D
  | .ref a => if a = p then .lst ds else .ref a
  | .lst es => .lst (frzs p ds es)
  | .tup es => .tup (frzs p ds es)
  | .dct ks es => .dct ks (frzs p ds es)
  | .non => .non
  | .bl b => .bl b
  | .int b => .int b
  | .str b => .str b
  | .ty b => .ty b
  | .cl b => .cl b
  | .exc a dd f e => .exc a dd f (frz p ds e)
  | .scr b => .scr b
def frzs (p : Addr) (ds : List D) : List D → List D
  | [] => []
  | e :: es => frz p ds e :: frzs p ds es
end
theorem frzs_len {p : Addr} {ds : List D} : ∀ es : List D, (frzs p ds es).length = es.length
  | [] => rfl
  | e :: es => by simp only [frzs, List.length_cons, frzs_len es]
section
variable {K : PySem.W.Frag}
mutual
theorem Rep.frz {P : Addr → Prop} {G G2 : Gp} {H : Hp} {p : Addr} {ds : List D} (h2 : ∀ a, G a = none → G2 a = none) (hp : Rep K H G2 P (.lst ds) (.ref p)) : ∀ {d : D} {v : V}, RefIn G2 (DL.frz p ds d) → Rep K H G P d v → Rep K H G2 P (DL.frz p ds d) v
  | .non, _, _, h => by unfold DL.frz; unfold Rep at h ⊢; exact h
  | .bl _, _, _, h => by unfold DL.frz; unfold Rep at h ⊢; exact h
  | .int _, _, _, h => by unfold DL.frz; unfold Rep at h ⊢; exact h
  | .str _, _, _, h => by unfold DL.frz; unfold Rep at h ⊢; exact h
  | .ty _, _, _, h => by unfold DL.frz; unfold Rep at h ⊢; exact h
  | .cl _, _, _, h => by unfold DL.frz; unfold Rep at h ⊢; exact h
  | .exc a dd f e, _, q, h => by
    unfold DL.frz at q ⊢
    unfold Rep at h ⊢
    simp only [RefIn] at q
    obtain ⟨rfl, g, pp, u, r, t⟩ := h
    exact ⟨rfl, h2 _ g, pp, u, r, Rep.frz h2 hp q t⟩
  | .scr ns, _, _, h => by
    unfold DL.frz
    unfold Rep at h ⊢
    obtain ⟨a, rfl, z, ⟨⟨u, h⟩, g⟩ | ⟨h, g, pp⟩ | h⟩ := h
    · exact ⟨a, rfl, z, .inl ⟨⟨u, h⟩, h2 _ g⟩⟩
    · exact ⟨a, rfl, z, .inr (.inl ⟨h, h2 _ g, pp⟩)⟩
    · exact ⟨a, rfl, z, .inr (.inr h)⟩
  | .ref a, v, q, h => by
    unfold DL.frz at q ⊢
    by_cases e : a = p
    · rw [if_pos e]
      unfold Rep at h
      obtain ⟨rfl, _⟩ := h
      rw [e]; exact hp
    · rw [if_neg e] at q ⊢
      unfold Rep at h ⊢
      simp only [RefIn] at q
      exact ⟨h.1, q⟩
  | .lst es, _, q, h => by
    unfold DL.frz at q ⊢
    simp only [RefIn] at q
    unfold Rep at h ⊢
    obtain ⟨a, xs, rfl, g, p', r, z, t⟩ := h
    exact ⟨a, xs, rfl, h2 _ g, p', r, by rw [frzs_len]; exact z, Reps.frz h2 hp q t⟩
  | .tup es, _, q, h => by
    unfold DL.frz at q ⊢
    simp only [RefIn] at q
    unfold Rep at h ⊢
    obtain ⟨a, xs, rfl, g, p', r, z, t⟩ := h
    exact ⟨a, xs, rfl, h2 _ g, p', r, by rw [frzs_len]; exact z, Reps.frz h2 hp q t⟩
  | .dct ks es, _, q, h => by
    unfold DL.frz at q ⊢
    simp only [RefIn] at q
    unfold Rep at h ⊢
    obtain ⟨a, xs, rfl, g, p', r, z, t⟩ := h
    exact ⟨a, xs, rfl, h2 _ g, p', r, by rw [frzs_len]; exact z, Reps.frz h2 hp q t⟩
theorem Reps.frz {P : Addr → Prop} {G G2 : Gp} {H : Hp} {p : Addr} {ds : List D} (h2 : ∀ a, G a = none → G2 a = none) (hp : Rep K H G2 P (.lst ds) (.ref p)) : ∀ {es : List D} {vs : List V}, RefIns G2 (frzs p ds es) → Reps K H G P es vs → Reps K H G2 P (frzs p ds es) vs
  | [], _, _, h => by unfold frzs; unfold Reps at h ⊢; exact h
  | d :: es, _, q, h => by
    unfold frzs at q ⊢
    simp only [RefIns] at q
    unfold Reps at h ⊢
    obtain ⟨x, r, rfl, h1, h3⟩ := h
    exact ⟨x, r, rfl, Rep.frz h2 hp q.1 h1, Reps.frz h2 hp q.2 h3⟩
end
end
theorem fz_frz {G0 G' G2 : Gp} {p : Addr} {ds : List D} {d : D} (h1 : ∀ a o, G2 a = some o → G' a = some o) (h0 : ∀ a o, G0 a = some o → ∃ o', G2 a = some o') (hc : ∀ a o, G2 a = some o → RefO G2 o ∨ G0 a = some o) (e : G' p = some (.lst ds)) (n : G2 p = none) (hd : RefIns G2 ds) (hr : RefIn G2 (frz p ds d)) : Fz G0 d G' (frz p ds d) G2 := fun K P H0 H v w0 st w r => by
  have h2 : ∀ a, G' a = none → G2 a = none := fun a e => by
    cases q : G2 a with
    | none => rfl
    | some o => rw [h1 a o q] at e; cases e
  obtain ⟨a1, a2, a3⟩ := fz_lstS (p := p) h1 h0 hc e n hd K P H0 H (.ref p) w0 st w (by unfold Rep; exact ⟨rfl, _, e⟩)
  exact ⟨a1, a2, Rep.frz h2 a3 hr r⟩
theorem fin_frz {G0 G' G2 : Gp} {Q : DK} {p : Addr} {ds : List D} {d : D} (h1 : ∀ a o, G2 a = some o → G' a = some o) (h0 : ∀ a o, G0 a = some o → ∃ o', G2 a = some o') (hc : ∀ a o, G2 a = some o → RefO G2 o ∨ G0 a = some o) (e : G' p = some (.lst ds)) (n : G2 p = none) (hd : RefIns G2 ds) (hr : RefIn G2 (frz p ds d)) (q : Q (frz p ds d) G2) : (fin G0 Q).rt d G' := ⟨_, G2, fz_frz h1 h0 hc e n hd hr, q⟩
end DL
set_option Elab.async false
set_option linter.all false
set_option maxRecDepth 100000
set_option maxHeartbeats 4000000
namespace DL
open PySem PySem.Spec PyProof.Rows L2
abbrev Paper := List (Int × Int)
def qD (x : Int × Int) : D := .tup [.int x.1, .int x.2]
structure POk (pp : Paper) : Prop where
  len : pp.length ≤ 48
  up : pp.Pairwise fun x y => x.1 < y.1
  lo : ∀ x ∈ pp, -1000000000000 ≤ x.1
  hi : ∀ x ∈ pp, x.1 ≤ 999999999999
  p1 : ∀ x ∈ pp, 1 ≤ x.2
  p2 : ∀ x ∈ pp, x.2 ≤ 10000000000000
def toll (s : Stretch) (pp : Paper) : Int := ((pp.filter fun x => over s x.1).map (·.2)).sum
def restOf (s : Stretch) (pp : Paper) : Int := if s.w - toll s pp > 0 then s.w - toll s pp else 0
def claimOf (bk : List Stretch) (n : Int) (pp : Paper) : Int := n * (pp.map (·.2)).sum + (bk.map fun s => restOf s pp).sum
theorem stays_of {G : Gp} {x : D} {ds : List D} (h : lkL G x = some ds) : stays x ds G := by
  cases x with
  | ref a =>
    simp only [lkL] at h
    simp only [stays]
    split at h
    · rename_i e; rw [e]; cases h; rfl
    · cases h
  | _ => exact True.intro
theorem intsD_g {α : Type} {f : α → Int} : ∀ l : List α, intsD (l.map fun i => D.int (f i)) = some (l.map f)
  | [] => rfl
  | x :: l => by rw [List.map_cons, intsD, intsD_g l]; rfl
end DL
set_option Elab.async false
set_option linter.all false
set_option maxRecDepth 100000
set_option maxHeartbeats 4000000
namespace DL
open PySem PySem.Spec PyProof.Rows L2
end DL
set_option Elab.async false
set_option linter.all false
set_option maxRecDepth 100000
set_option maxHeartbeats 4000000
namespace DL
open PySem PySem.Spec PyProof.Rows L2
/-- the greatest of some ints that is no more than m -/
theorem max_le (L : List Int) (m : Int) : (∀ x ∈ L, m < x) ∨ ∃ a ∈ L, a ≤ m ∧ ∀ x ∈ L, ¬ (a < x ∧ x ≤ m) := by
  induction L with
  | nil => exact .inl (by simp)
  | cons y L ih =>
    rcases ih with h | ⟨a, ha, h1, h2⟩
    · by_cases hy : y ≤ m
      · refine .inr ⟨y, List.mem_cons_self, hy, fun x hx q => ?_⟩
        rcases List.mem_cons.mp hx with z | z
        · omega
        · have := h x z; omega
      · refine .inl fun x hx => ?_
        rcases List.mem_cons.mp hx with z | z
        · omega
        · exact h x z
    · by_cases hy : a < y ∧ y ≤ m
      · refine .inr ⟨y, List.mem_cons_self, hy.2, fun x hx q => ?_⟩
        rcases List.mem_cons.mp hx with z | z
        · omega
        · exact h2 x z ⟨by omega, q.2⟩
      · refine .inr ⟨a, List.mem_cons_of_mem _ ha, h1, fun x hx q => ?_⟩
        rcases List.mem_cons.mp hx with z | z
        · subst z; exact hy q
        · exact h2 x z q
theorem atI_lastG {α : Type} {l : List α} {d : α} (h : l.getLast? = some d) : atI l (-1) = some d := by
  obtain ⟨ys, rfl⟩ := List.getLast?_eq_some_iff.mp h
  have e : ixN (ys ++ [d]).length (-1) = some ys.length := by
    unfold ixN
    simp
    omega
  unfold atI
  rw [e]
  simp
end DL
set_option Elab.async false
set_option linter.all false
set_option maxRecDepth 100000
set_option maxHeartbeats 4000000
namespace DL
open PySem PySem.Spec PyProof.Rows L2
end DL
set_option Elab.async false
set_option linter.all false
set_option maxRecDepth 100000
set_option maxHeartbeats 4000000
namespace DL
open PySem PySem.Spec PyProof.Rows L2
theorem sum_add {α : Type} {f g : α → Int} : ∀ {l : List α}, (l.map fun x => f x + g x).sum = (l.map f).sum + (l.map g).sum
  | [] => by simp
  | x :: l => by
    have := sum_add (f := f) (g := g) (l := l)
    simp only [List.map_cons, List.sum_cons, this]; omega
theorem sum_mul (n : Int) : ∀ l : Paper, (l.map fun x => n * x.2).sum = n * (l.map (·.2)).sum
  | [] => by simp
  | x :: l => by rw [List.map_cons, List.sum_cons, sum_mul n l, List.map_cons, List.sum_cons, Int.mul_add]
end DL
set_option Elab.async false
set_option linter.all false
set_option maxRecDepth 100000
set_option maxHeartbeats 4000000
namespace DL
open PySem PySem.Spec PyProof.Rows L2
def F_is_whole : Sf := fun ds G Q => ∃ (d : D) (n : String) (a b : Bool), ds = [d] ∧ tyD G d = some n ∧ kitB n "int" = some a ∧ kitB n "bool" = some b ∧ Q (.bl (a && !b)) G
def r_is_whole : ES :=
  (sRet (eAndT (eCB cIsi (eCons (eVar 0) (eCons (eC (.ty "int")) eNil))) (eNotT (eCB cIsi (eCons (eVar 0) (eCons (eC (.ty "bool")) eNil))))))
theorem d_is_whole (ds : List D) (G : Gp) (Q : DK) (h : F_is_whole ds G Q) : r_is_whole (fin G Q) (startD 1 ds) G := by
  obtain ⟨d, n, a, b, rfl, e1, e2, e3, k⟩ := h
  simp [r_is_whole, startD, e1, e2, e3]
  cases a with
  | true => simp at k ⊢; exact fin_id k
  | false => simp at k ⊢; exact fin_id k
end DL
set_option Elab.async false
set_option linter.all false
set_option maxRecDepth 100000
set_option maxHeartbeats 4000000
namespace DL
open PySem PySem.Spec PyProof.Rows L2
structure RSOk (n : Int) (s : Stretch) : Prop where
  nm : NameOk s.name
  b0 : 0 ≤ s.b
  b1 : s.b < n
  e1 : 1 ≤ s.e
  e2 : s.e ≤ n
  w0 : 0 ≤ s.w
  w1 : s.w ≤ 1000000000000
structure RgOk (n : Int) (rs : List Stretch) : Prop where
  n1 : 1 ≤ n
  n2 : n ≤ 40
  len : rs.length ≤ 24
  all : ∀ s ∈ rs, RSOk n s
  nd : (rs.map Stretch.name).Nodup
def ringD (n : Int) (rs : List Stretch) : D := .tup [.int n, .lst (rs.map Stretch.d)]
@[simp ↓ high] theorem ixr_0 {n : Int} {rs : List Stretch} {G : Gp} {Q : DK} : oIx (ringD n rs) (.int 0) G Q = Q (.int n) G := by simp [ringD, atI, ixN]
@[simp ↓ high] theorem ixr_1 {n : Int} {rs : List Stretch} {G : Gp} {Q : DK} : oIx (ringD n rs) (.int 1) G Q = Q (.lst (rs.map Stretch.d)) G := by simp [ringD, atI, ixN]
def overR (n : Int) (s : Stretch) (m : Int) : Bool := decide ((m - s.b) % n < s.e)
def loadOn (n : Int) (rs : List Stretch) (l : List Nat) (m : Int) : Nat := (l.filter fun i => overR n (st rs i) m).length
def F_is_over_ring : Sf := fun ds G Q => ∃ (n : Int) (rs : List Stretch) (i : Nat) (m : Int), ds = [ringD n rs, .int (i : Nat), .int m] ∧ 0 < n ∧ i < rs.length ∧ Q (.bl (overR n (st rs i) m)) G
def F_load_on : Sf := fun ds G Q => ∃ (n : Int) (rs : List Stretch) (l : List Nat) (m : Int), ds = [ringD n rs, .lst (nD l), .int m] ∧ 0 < n ∧ (∀ i ∈ l, i < rs.length) ∧ Q (.int (loadOn n rs l m : Nat)) G
def F__law_ring : Sf := fun ds G Q => ∃ a most x y z, ds = [.ref a, .int most] ∧ G a = some (stO x y z) ∧ Ok3 x y z ∧ 0 ≤ most ∧ most ≤ 24 ∧ ∀ n rs x' y' z', Ok3 x' y' z' → RgOk n rs → (rs.length : Int) ≤ most → Q (ringD n rs) (gput G a (stO x' y' z'))
def r_is_over_ring : ES :=
  (sSeq (sAsg (eOp oIx (eOp oIx (eVar 0) (eC (.int 1))) (eVar 1)) (.tp [3, 4, 5, 6]))
  (sRet (eOp oLt (eOp oMod (eOp oSub (eVar 2) (eVar 4)) (eOp oIx (eVar 0) (eC (.int 0)))) (eVar 5))))
def r_load_on : ES :=
  (sRet (eCB cLen (eCons (eLc (iL (eVar 1)) (.nm 3) (eTru (eCall F_is_over_ring (eCons (eVar 0) (eCons (eVar 3) (eCons (eVar 2) eNil))))) (eVar 3) [3]) eNil)))
def r__law_ring_L1 : ES :=
  (sSeq (sAsg (eCall F__law_take (eCons (eVar 0) (eCons (eVar 2) eNil))) (.nm 5))
  (sSeq (sAsg (eOp oAdd (eC (.int 1)) (eCall F__law_take (eCons (eVar 0) (eCons (eOp oIx (eLst (eCons (eVar 2) (eCons (eOp oAdd (eC (.int 1)) (eOp oDivW (eVar 2) (eC (.int 3)))) eNil))) (eCall F__law_take (eCons (eVar 0) (eCons (eC (.int 2)) eNil)))) eNil)))) (.nm 6))
  (sSeq (sIf (eAnd (eT (eOp oGt (eVar 4) (eC (.int 0)))) (eT (eOp oEq (eCall F__law_take (eCons (eVar 0) (eCons (eC (.int 6)) eNil))) (eC (.int 0))))) (sAsg (eSlT (eOp oIx (eVar 3) (eUn oNeg (eC (.int 1)))) (ePart (eC (.int 1))) (ePart (eC (.int 3)))) (.tp [5, 6])) sNext)
  (sSeq (sAsg (eCall F__law_take (eCons (eVar 0) (eCons (eOp oIx (eLst (eCons (eC (.int 4)) (eCons (eC (.int 12)) (eCons (eC (.int 100)) (eCons (eOp oAdd (eOp oPow (eC (.int 10)) (eC (.int 12))) (eC (.int 1))) eNil))))) (eCall F__law_take (eCons (eVar 0) (eCons (eC (.int 4)) eNil)))) eNil))) (.nm 7))
  (sDrop (eBm mApp (eVar 3) (eCons (eTup (eCons (eCall F__law_name (eCons (eVar 0) (eCons (eVar 4) eNil))) (eCons (eVar 5) (eCons (eCB cMin2 (eCons (eVar 2) (eCons (eVar 6) eNil))) (eCons (eVar 7) eNil))))) eNil)))))))
def r__law_ring : ES :=
  (sSeq (sAsg (eOp oAdd (eC (.int 1)) (eCall F__law_take (eCons (eVar 0) (eCons (eOp oIx (eLst (eCons (eC (.int 1)) (eCons (eC (.int 4)) (eCons (eC (.int 9)) (eCons (eC (.int 40)) eNil))))) (eCall F__law_take (eCons (eVar 0) (eCons (eC (.int 4)) eNil)))) eNil)))) (.nm 2))
  (sSeq (sAsg (eLstO eNil) (.nm 3))
  (sSeq (sFor (iR1 (eCons (eCall F__law_take (eCons (eVar 0) (eCons (eOp oAdd (eVar 1) (eC (.int 1))) eNil))) eNil)) (.nm 4) r__law_ring_L1)
  (sRet (eTup (eCons (eVar 2) (eCons (eVar 3) eNil)))))))
theorem d_is_over_ring (ds : List D) (G : Gp) (Q : DK) (h : F_is_over_ring ds G Q) : r_is_over_ring (fin G Q) (startD 7 ds) G := by
  obtain ⟨n, rs, i, m, rfl, hn, hi, k⟩ := h
  refine seq_gen fun W hW => ?_
  simp [startD, bk_at hi]
  simp [Stretch.d]
  refine hW _ _ ?_
  simp
  exact ⟨hn, fin_id k⟩
theorem over_ring_ok {n : Int} {rs : List Stretch} {i : Nat} {m : Int} {G : Gp} {Q : DK} (hn : 0 < n) (hi : i < rs.length) (h : Q (.bl (overR n (st rs i) m)) G) : F_is_over_ring [ringD n rs, .int (i : Nat), .int m] G Q := ⟨n, rs, i, m, rfl, hn, hi, h⟩
theorem d_load_on (ds : List D) (G : Gp) (Q : DK) (h : F_load_on ds G Q) : r_load_on (fin G Q) (startD 4 ds) G := by
  obtain ⟨n, rs, l, m, rfl, hn, hl, k⟩ := h
  simp [r_load_on, startD]
  refine compW_map (p := fun i => overR n (st rs i) m) (f := fun (i : Nat) => D.int (i : Int)) (g := fun (i : Nat) => D.int (i : Int)) True.intro l [] (fun i hi => ⟨_, rfl, fun R r => ?_, fun _ R r => r⟩) ?_
  · simp
    exact over_ring_ok hn (hl i hi) (by simpa using r)
  · simp
    exact fin_id k
theorem load_on_ok {n : Int} {rs : List Stretch} {l : List Nat} {m : Int} {G : Gp} {Q : DK} (hn : 0 < n) (hl : ∀ i ∈ l, i < rs.length) (h : Q (.int (loadOn n rs l m : Nat)) G) : F_load_on [ringD n rs, .lst (nD l), .int m] G Q := ⟨n, rs, l, m, rfl, hn, hl, h⟩
theorem d__law_ring (ds : List D) (G : Gp) (Q : DK) (h : F__law_ring ds G Q) : r__law_ring (fin G Q) (startD 8 ds) G := by
  obtain ⟨a, most, x, y, z, rfl, hG, ok, h0, h1, k⟩ := h
  refine seq_gen fun W hW => ?_
  simp [startD]
  refine ⟨by decide, take_ok hG ok (wd_of (by decide) (by decide)) fun i x y z ok i0 i1 => ?_⟩
  obtain ⟨c, ec, hc⟩ := ints_at (l := [1, 4, 9, 40]) i0 (by simpa using i1)
  simp only [List.map_cons, List.map_nil] at ec
  simp [ec]
  have hc2 : 0 < c ∧ c ≤ 40 := by simp at hc; omega
  refine take_ok gput_same ok (wd_of (by omega) (by omega)) fun n x y z ok n0 n1 => ?_
  simp [gput_gput]
  refine hW _ _ (seq_gen fun W2 hW2 => ?_)
  have hn1 : 1 ≤ 1 + n := by omega
  have hn2 : 1 + n ≤ 40 := by omega
  generalize 1 + n = n at *
  simp
  intro q hq
  have hqa : q ≠ a := fun e => by subst e; rw [gput_same] at hq; cases hq
  rw [gput_ne hqa] at hq
  have swp : ∀ (x y z x' y' z' : Int) (o : GO), gput (gput (gput G a (stO x y z)) q o) a (stO x' y' z') = gput (gput G a (stO x' y' z')) q o := fun x y z x' y' z' o => gput_swap hqa
  have hat : ∀ (x y z : Int) (o : GO), gput (gput G a (stO x y z)) q o a = some (stO x y z) := fun x y z o => by rw [gput_ne hqa.symm, gput_same]
  refine hW2 _ _ (seq_gen fun W3 hW3 => ?_)
  simp
  refine take_ok (hat _ _ _ _) ok (wd_of (by omega) (by omega)) fun many x y z ok m0 m1 => ?_
  simp [swp]
  refine ⟨by omega, by omega, ?_⟩
  have loop : ∀ (m j : Nat) (rs : List Stretch) (x y z : Int) (o4 o5 o6 o7 : Option D), rs.length = j → (j : Int) + m ≤ most → Ok3 x y z → (∀ s ∈ rs, RSOk n s) → LastAt rs →
      forW (.nm 4) r__law_ring_L1 (fun _ => True) { nx := W3, rt := (fin G Q).rt, bk := (fin G Q).bk, ct := (fin G Q).ct, xr := (fin G Q).xr } (rngD (j : Nat) m) [some (.ref a), some (.int most), some (.int n), some (.ref q), o4, o5, o6, o7] (gput (gput G a (stO x y z)) q (.lst (rs.map Stretch.d))) := by
    intro m
    induction m with
    | zero =>
      intro j rs x y z o4 o5 o6 o7 hj hm ok hr hla
      rw [rngD_zero]
      refine ⟨trivial, hW3 _ _ ?_⟩
      simp
      refine ⟨by decide, ?_⟩
      have ef : frz q (rs.map Stretch.d) (.tup [.int n, .ref q]) = ringD n rs := by simp [frz, frzs, ringD]
      refine fin_frz (G2 := gput G a (stO x y z)) (p := q) (ds := rs.map Stretch.d) ?_ ?_ ?_ gput_same (by rw [gput_ne hqa]; exact hq) (refIns_plain (plain_book rs)) ?_ ?_
      · intro b u e
        by_cases hbq : b = q
        · subst hbq; rw [gput_ne hqa, hq] at e; cases e
        · rw [gput_ne hbq]; exact e
      · intro b u e
        by_cases hba : b = a
        · subst hba; exact ⟨_, gput_same⟩
        · exact ⟨u, by rw [gput_ne hba]; exact e⟩
      · intro b u e
        by_cases hba : b = a
        · subst hba; rw [gput_same] at e; cases e; exact .inl (by simp [RefO, stO, RefIns, RefIn])
        · rw [gput_ne hba] at e; exact .inr e
      · rw [ef]; exact refIn_plain (by simp [ringD, plainD, plainDs]; exact plain_book rs)
      · rw [ef]; exact k n rs x y z ok ⟨hn1, hn2, by omega, hr, last_nodup hla⟩ (by omega)
    | succ m ih =>
      intro j rs x y z o4 o5 o6 o7 hj hm ok hr hla
      rw [rngD_succ]
      refine ⟨trivial, seq_gen fun W4 hW4 => ?_⟩
      simp
      refine take_ok (hat _ _ _ _) ok (wd_of (by omega) (by omega)) fun b x y z ok b0 b1 => ?_
      simp [swp]
      refine hW4 _ _ (seq_gen fun W5 hW5 => ?_)
      simp
      refine ⟨⟨by decide, by decide⟩, by decide, take_ok (hat _ _ _ _) ok (wd_of (by decide) (by decide)) fun i x y z ok i0 i1 => ?_⟩
      obtain ⟨c, ec, hc⟩ := ints_at (l := [n, 1 + n / 3]) i0 (by simpa using i1)
      simp only [List.map_cons, List.map_nil] at ec
      simp [ec, swp]
      have hc2 : 0 < c ∧ c ≤ 40 := by simp at hc; omega
      refine take_ok (hat _ _ _ _) ok (wd_of (by omega) (by omega)) fun e x y z ok e0 e1 => ?_
      simp [swp]
      refine hW5 _ _ (seq_gen fun W6 hW6 => ?_)
      -- the tail, whatever begin and span
      have tail : ∀ (b e x y z : Int), Ok3 x y z → 0 ≤ b → b < n → 1 ≤ e → W6 [some (.ref a), some (.int most), some (.int n), some (.ref q), some (.int (j : Nat)), some (.int b), some (.int e), o7] (gput (gput G a (stO x y z)) q (.lst (rs.map Stretch.d))) := by
        intro b e x y z ok b0 b1 e1
        refine hW6 _ _ (seq_gen fun W7 hW7 => ?_)
        simp
        refine ⟨⟨by decide, by decide, by decide⟩, by decide, take_ok (hat _ _ _ _) ok (wd_of (by decide) (by decide)) fun i x y z ok i0 i1 => ?_⟩
        obtain ⟨c, ec, hc⟩ := ints_at (l := [4, 12, 100, 1000000000001]) i0 (by simpa using i1)
        simp only [List.map_cons, List.map_nil] at ec
        simp [ec, swp]
        have hc2 : 0 < c ∧ c ≤ 1000000000001 := by simp at hc; omega
        refine take_ok (hat _ _ _ _) ok (wd_of (by omega) (by omega)) fun w x y z ok w0 w1 => ?_
        simp [swp]
        refine hW7 _ _ ?_
        simp [gput_same]
        refine ⟨a, (j : Int), x, y, z, rfl, hat _ _ _ _, ok, by omega, by omega, fun nm x y z ok hnm hlast => ?_⟩
        simp [swp, gput_same, gput_gput]
        refine ⟨by decide, Nat.lt_of_le_of_lt (by omega : rs.length ≤ 100) (by decide), ?_⟩
        have := ih (j + 1) (rs ++ [⟨nm, b, if e < n then e else n, w⟩]) x y z (some (.int (j : Nat))) (some (.int b)) (some (.int e)) (some (.int w)) (by simp [hj]) (by omega) ok ?_ ?_
        · simpa [Stretch.d] using this
        · intro s hs
          rcases List.mem_append.mp hs with t | t
          · exact hr s t
          · simp at t
            subst t
            exact ⟨hnm, b0, b1, by simp only; split <;> omega, by simp only; split <;> omega, by simp only; omega, by simp only; omega⟩
        · intro i s es
          rcases Nat.lt_or_ge i rs.length with t | t
          · rw [List.getElem?_append_left t] at es; exact hla i s es
          · rw [List.getElem?_append_right t] at es
            have : i = rs.length := by
              rcases Nat.lt_or_ge 0 (i - rs.length) with u | u
              · rw [List.getElem?_eq_none (by simp; omega)] at es; cases es
              · omega
            subst this
            simp at es
            subst es
            simp [hj] at hlast ⊢
            exact hlast
      simp
      by_cases hj0 : 0 < j
      · simp [hj0]
        refine take_ok (hat _ _ _ _) ok (wd_of (by decide) (by decide)) fun t x y z ok t0 t1 => ?_
        simp [swp]
        split
        · obtain ⟨s, hs⟩ : ∃ s, rs.getLast? = some s := by
            have : rs ≠ [] := fun e => by subst e; simp at hj; omega
            rw [List.getLast?_eq_some_getLast this]; exact ⟨_, rfl⟩
          have hat2 : atI (rs.map Stretch.d) (-1) = some s.d := atI_lastG (by rw [List.getLast?_map, hs]; rfl)
          have hsm : s ∈ rs := List.mem_of_getLast? hs
          have hso := hr s hsm
          simp [gput_same, hat2]
          have ecut : ∀ d1 d2 d3 d4 : D, cutD [d1, d2, d3, d4] (some 1) (some 3) = [d2, d3] := fun _ _ _ _ => rfl
          simp [Stretch.d, ecut]
          exact ⟨by decide, tail s.b s.e x y z ok hso.b0 hso.b1 hso.e1⟩
        · exact tail b (1 + e) x y z ok b0 b1 (by omega)
      · simp [hj0]
        exact tail b (1 + e) x y z ok b0 b1 (by omega)
  have := loop many.toNat 0 [] x y z none none none none rfl (by omega) ok (by simp) (fun j s e => by simp at e)
  simpa using this
end DL
set_option Elab.async false
set_option linter.all false
set_option maxRecDepth 100000
set_option maxHeartbeats 4000000
namespace DL
open PySem PySem.Spec PyProof.Rows L2
end DL
set_option Elab.async false
set_option linter.all false
set_option maxRecDepth 100000
set_option maxHeartbeats 4000000
namespace L2
open PySem PySem.Spec PyProof.Rows
end L2
namespace DL
open PySem PySem.Spec PyProof.Rows L2
@[simp] def eChain3 (r r' r'' : OD) (ta tb tc td : EE) : EE := fun s G Q => ta s G fun x G1 => tb s G1 fun y G2 => r x y G2 fun z G3 => match z with
  | .bl k => if k = true then tc s G3 fun w G4 => r' y w G4 fun z' G5 => (match z' with
    | .bl k' => if k' = true then td s G5 fun v G6 => r'' w v G6 Q else Q (.bl false) G5
    | _ => False) else Q (.bl false) G3
  | _ => False
section
variable {X : Cx} {K : PySem.W.Frag} {a b c d : Expr} {ea eb ec ed : EE} {pos : Pos}
/-- lists joined: a new one, owned -/
@[simp] def oAddO : OD := fun x y G Q => match lkL G x, lkL G y with
  | some ds, some es => (∀ ns, x ≠ .scr ns) ∧ (∀ ns, y ≠ .scr ns) ∧ ds.length + es.length ≤ sizeLine ∧ ∀ p, G p = none → Q (.ref p) (gput G p (.lst (ds ++ es)))
  | _, _ => False
theorem lo_addO : LO K rCat oAddO := fun P G H x y u v Q R h w rx ry k => by
  unfold oAddO at h
  split at h
  · rename_i ds es e1 e2
    obtain ⟨n1, n2, z, q⟩ := h
    obtain ⟨a, xs, rfl, r1, q1, z1⟩ := lk_hp w rx e1 n1
    obtain ⟨b, ys, rfl, r2, q2, z2⟩ := lk_hp w ry e2 n2
    refine ⟨a, b, xs, ys, rfl, rfl, r1, r2, by rw [← q1.length, ← q2.length]; exact z, fun p hp => ?_⟩
    obtain ⟨st, w', r'⟩ := own_lst w hp (q1.append q2) (by rw [List.length_append]; exact z)
    exact k _ _ _ _ st w' r' (q p (w.fresh hp).1)
  · exact h.elim
theorem j_addO (ha : JE X a ea) (hb : JE X b eb) : JE X (.BinOp a .Add b pos) (eOp oAddO ea eb) := j_bin op_cat lo_addO ha hb
/-- tuples joined -/
@[simp] def oCatT : OD := fun x y G Q => match x, y with
  | .tup ds, .tup es => ds.length + es.length ≤ sizeLine ∧ Q (.tup (ds ++ es)) G
  | _, _ => False
/-- a list so many times -/
@[simp] def oRep : OD := fun x y G Q => match lkL G x, y with
  | some ds, .int k => (∀ ns, x ≠ .scr ns) ∧ -(2 ^ 63) ≤ k ∧ k < 2 ^ 63 ∧ ds.length * k.toNat ≤ sizeLine ∧ Q (.lst (List.replicate k.toNat ds).flatten) G
  | _, _ => False
theorem reps_rep {P : Addr → Prop} {G : Gp} {H : Hp} {ds : List D} {xs : List V} (q : Reps K H G P ds xs) : ∀ n, Reps K H G P (List.replicate n ds).flatten (List.replicate n xs).flatten
  | 0 => reps_nil
  | n + 1 => by rw [List.replicate_succ, List.replicate_succ, List.flatten_cons, List.flatten_cons]; exact q.append (reps_rep q n)
/-- a text's slice -/
@[simp] def eSlS (te : EE) (tl th : EO) : EE := fun s G Q => te s G fun x G1 => tl s G1 fun l G2 => th s G2 fun u G3 => match x with
  | .str z => z.length ≤ sizeLine ∧ Q (.str (Txt.slice z l u)) G3
  | _ => False
/-- tuple(x) of a list or a tuple -/
@[simp] def cTuple : CD := fun xs G Q => match xs with
  | [.tup ds] => Q (.tup ds) G
  | [x] => (match lkL G x with
    | some ds => Q (.tup ds) G
    | none => False)
  | _ => False
end
end DL
set_option Elab.async false
set_option linter.all false
set_option maxRecDepth 100000
set_option maxHeartbeats 4000000
namespace L2
open PySem PySem.Spec PyProof.Rows
section
variable {X : Cx}
def repS (z : Str) (n : Nat) : Str := ⟨(List.replicate n z.cps).foldl (· ++ ·) #[]⟩
end
end L2
namespace DL
open PySem PySem.Spec PyProof.Rows L2
@[simp] def oRepS : OD := fun x y G Q => match x, y with
  | .str z, .int k => 2 ≤ k ∧ k ≤ 1000 ∧ 0 < z.length ∧ z.length ≤ 1000 ∧ Q (.str (repS z k.toNat)) G
  | _, _ => False
end DL
set_option Elab.async false
set_option linter.all false
set_option maxRecDepth 100000
set_option maxHeartbeats 4000000
namespace DL
open PySem PySem.Spec PyProof.Rows L2
@[simp] theorem sizeLine_lit : sizeLine = 16777216 := by decide
@[simp] theorem cpow_10 {n : Int} : CPow 10 n ↔ 0 ≤ n ∧ n ≤ 1000000 := by
  unfold CPow
  exact ⟨fun h => ⟨h.1, h.2.1⟩, fun h => ⟨h.1, h.2, by decide⟩⟩
end DL
set_option Elab.async false
set_option linter.all false
set_option maxRecDepth 100000
set_option maxHeartbeats 4000000
namespace PySem
namespace MxD
open Sem (wp)
theorem lpN : (toString "max" ++ toString ".loop" : String) = "max.loop" := by decide
abbrev ls2 (x : Array Value) (c : Nat) : Obj := { cls := .type "list", dict := none, data := .seq x c, slots := #[] }
section
variable {pg : Program} {wd : World} {Ar : Around} {Rs : Result → Shared → Prop} {Ia : Addr} {fq wq : List Addr} {len : Nat} {Pv : Nat → Value → Prop} {Sx : Nat → Heap → Prop} {dd : Value}
theorem turn (Wk : Walks pg wd Ar.in1 Ia fq wq len Pv Sx) (bt : Nat → Nat → Bool) (hc : CmpOf pg wd Ar.in1 .Gt Pv bt) (B : Addr) (hB : B ∉ fq) :
    ∀ (left at_ : Nat) (st : Shared) (top : Value) (ep : Nat), len - (at_ + 1) = left → at_ + 1 ≤ len → Sx (at_ + 1) st.heap → Pv (argBest bt at_) top →
    st.heap.get? B = some (ls2 #[top, top] ep) →
    (∀ v hp tk, Pv (argBest bt (len - 1)) v → (∀ b o, b ∉ wq → b ≠ B → st.heap.get? b = some o → hp.get? b = some o) → Rs (.ok (.ret v)) { st with heap := hp, toks := tk }) →
    codeAny (model pg wd) Ar (.builtin "max.loop" ⟨[.ref Ia, .none, .ref B], [(Str.ofString "default", dd)]⟩) Rs st := by
  have nw : B ∉ wq := fun z => hB (Wk.sub _ z)
  intro left
  induction left with
  | zero =>
    intro at_ st top ep e1 e2 hs hp hl hR
    have e3 : at_ + 1 = len := by omega
    refine codeAny_builtin F.entry_max_loop ?_
    rw [Around.under_plainId F.plain_max_loop _]
    show wpAny _ Ar.in1 (seqItems? (.ref B) >>= _) _ _ st
    refine wpAny_bind (wpAny_seqItems hl rfl ?_)
    show wpAny _ Ar.in1 (tryCatch (pyNext (.ref Ia)) _ >>= _) _ _ st
    refine wpAny_bind (wpAny_tryCatch (Wk.done st _ _ (e3 ▸ hs) fun hp2 tk kk => ?_))
    have hl2 := kk B _ nw hl
    show wpAny _ Ar.in1 (updateSeq B (fun _ => #[]) >>= _) _ _ _
    refine wpAny_bind ?_
    refine wpAny_updateSeq hl2 rfl (wpAny_bind (wpAny_letGo (wpAny_pure ?_)))
    exact hR top _ tk (by rw [← e3]; exact hp) fun b o n1 n2 e => (Heap.get?_update_other _ _ (Ne.symm n2)).trans (kk b o n1 e)
  | succ left again =>
    intro at_ st top ep e1 e2 hs hp hl hR
    have e3 : at_ + 1 < len := by omega
    refine codeAny_builtin F.entry_max_loop ?_
    rw [Around.under_plainId F.plain_max_loop _]
    show wpAny _ Ar.in1 (seqItems? (.ref B) >>= _) _ _ st
    refine wpAny_bind (wpAny_seqItems hl rfl ?_)
    show wpAny _ Ar.in1 (tryCatch (pyNext (.ref Ia)) _ >>= _) _ _ st
    refine wpAny_bind (wpAny_tryCatch (Wk.item (at_ + 1) st _ _ e3 hs fun v hp2 tk hv hs2 kk => ?_))
    have hl2 := kk B _ nw hl
    show wpAny _ Ar.in1 (tryCatch (holding [v, v] (richCompare .Gt v top >>= _)) _ >>= _) _ _ _
    refine wpAny_bind (wpAny_tryCatch (wpAny_holding (wpAny_bind (hc (at_ + 1) (argBest bt at_) v top _ _ _ hv hp ?_))))
    refine wpAny_bind (wpAny_holding (wpAny_truthy_bool ?_))
    refine wpAny_bind (wpAny_letGo (wpAny_pure ?_))
    cases eb : bt (at_ + 1) (argBest bt at_) with
    | true =>
      simp only [if_true]
      refine wpAny_bind ?_
      refine wpAny_updateSeq hl2 rfl (wpAny_bind (wpAny_letGo ?_))
      rw [lpN]
      refine wpAny_pure ⟨plainId_quiet F.plain_max_loop _, again (at_ + 1) _ v _ (by omega) e3 (Wk.frame _ _ _ hs2 fun b bf o e => ?_) (by simp only [argBest, eb, if_true]; exact hv) (Heap.get?_update_self _ hl2 rfl) fun u hp3 tk3 hu k3 => ?_⟩
      · exact (Heap.get?_update_other _ _ (fun z : B = b => hB (by rw [z]; exact bf))).trans e
      · exact hR u hp3 tk3 hu fun b o n1 n2 e => k3 b o n1 n2 ((Heap.get?_update_other _ _ (Ne.symm n2)).trans (kk b o n1 e))
    | false =>
      simp only [Bool.false_eq_true, if_false]
      refine wpAny_bind (wpAny_letGo ?_)
      rw [lpN]
      refine wpAny_pure ⟨plainId_quiet F.plain_max_loop _, again (at_ + 1) _ top ep (by omega) e3 hs2 (by simp only [argBest, eb, Bool.false_eq_true, if_false]; exact hp) hl2 fun u hp3 tk3 hu k3 => ?_⟩
      exact hR u hp3 tk3 hu fun b o n1 n2 e => k3 b o n1 n2 (kk b o n1 e)
theorem first (Wk : Walks pg wd Ar.in1 Ia fq wq len Pv Sx) (bt : Nat → Nat → Bool) (hc : CmpOf pg wd Ar.in1 .Gt Pv bt) (B : Addr) (hB : B ∉ fq) {st : Shared} {ep : Nat} (hs : Sx 0 st.heap)
    (hl : st.heap.get? B = some (ls2 #[] ep)) (h0 : len = 0 → ∀ hp tk, (∀ b o, b ∉ wq → b ≠ B → st.heap.get? b = some o → hp.get? b = some o) → Rs (.ok (.ret dd)) { st with heap := hp, toks := tk })
    (hR : 0 < len → ∀ v hp tk, Pv (argBest bt (len - 1)) v → (∀ b o, b ∉ wq → b ≠ B → st.heap.get? b = some o → hp.get? b = some o) → Rs (.ok (.ret v)) { st with heap := hp, toks := tk }) :
    codeAny (model pg wd) Ar (.builtin "max.loop" ⟨[.ref Ia, .none, .ref B], [(Str.ofString "default", dd)]⟩) Rs st := by
  have nw : B ∉ wq := fun z => hB (Wk.sub _ z)
  refine codeAny_builtin F.entry_max_loop ?_
  rw [Around.under_plainId F.plain_max_loop _]
  show wpAny _ Ar.in1 (seqItems? (.ref B) >>= _) _ _ st
  refine wpAny_bind (wpAny_seqItems hl rfl ?_)
  show wpAny _ Ar.in1 (tryCatch (pyNext (.ref Ia)) _ >>= _) _ _ st
  rcases Nat.eq_zero_or_pos len with z | z
  · refine wpAny_bind (wpAny_tryCatch (Wk.done st _ _ (z ▸ hs) fun hp2 tk kk => ?_))
    show wpAny _ Ar.in1 (rule _ >>= _) _ _ _
    refine wpAny_bind (wpAny_rule ?_)
    exact wpAny_pure (h0 z hp2 _ fun b o n1 _ e => kk b o n1 e)
  · refine wpAny_bind (wpAny_tryCatch (Wk.item 0 st _ _ z hs fun v hp2 tk hv hs2 kk => ?_))
    have hl2 := kk B _ nw hl
    show wpAny _ Ar.in1 (updateSeq B (fun _ => #[v, v]) >>= _) _ _ _
    refine wpAny_bind ?_
    refine wpAny_updateSeq hl2 rfl ?_
    rw [lpN]
    refine wpAny_pure ⟨plainId_quiet F.plain_max_loop _, turn Wk bt hc B hB _ 0 _ v _ rfl z (Wk.frame _ _ _ hs2 fun b bf o e => ?_) hv (Heap.get?_update_self _ hl2 rfl) fun u hp3 tk3 hu k3 => ?_⟩
    · exact (Heap.get?_update_other _ _ (fun z : B = b => hB (by rw [z]; exact bf))).trans e
    · exact hR z u hp3 tk3 hu fun b o n1 n2 e => k3 b o n1 n2 ((Heap.get?_update_other _ _ (Ne.symm n2)).trans (kk b o n1 e))
end
theorem call_ {pg : Program} {wd : World} {Ar : Around} {Ex : Value → Shared → Prop} {st : Shared} {x dd : Value} {Q : Value → Shared → Prop}
    (h : wpAny (model pg wd) Ar.in1 (pyIter x) (fun it s2 => ∃ Ia fq wq len Pv Sx bt, it = .ref Ia ∧ Walks pg wd Ar.in1 Ia fq wq len Pv Sx ∧ Sx 0 s2.heap ∧ (∀ b ∈ fq, b < s2.heap.objs.size) ∧ CmpOf pg wd Ar.in1 .Gt Pv bt ∧
      (len = 0 → ∀ hp tk, (∀ b o, b ∉ wq → s2.heap.get? b = some o → hp.get? b = some o) → Q dd { s2 with heap := hp, toks := tk }) ∧
      (0 < len → ∀ v hp tk, Pv (argBest bt (len - 1)) v → (∀ b o, b ∉ wq → s2.heap.get? b = some o → hp.get? b = some o) → Q v { s2 with heap := hp, toks := tk })) Ex st) :
    wpAny (model pg wd) Ar (call (.builtin "max") [x] [(Str.ofString "default", dd)]) Q Ex st := by
  refine PyProof.Rows.kmk_tree F.kind_max F.plain_max F.entry_max (args_max_default _ _) ?_
  show wpAny _ Ar.in1 (Builtin.Builtins.bindParams "max" ["key", "default"] 0 ⟨[], [(Str.ofString "default", dd)]⟩ >>= _) _ _ st
  refine wpAny_bind (wpAny_of_eq (show Builtin.Builtins.bindParams "max" ["key", "default"] 0 ⟨[], [(Str.ofString "default", dd)]⟩ = pure [none, some dd] from rfl) ?_)
  refine wpAny_bind (wpAny_pure ?_)
  refine wpAny_bind (wpAny_mono h (fun it s2 h2 => ?_) fun _ _ e => e)
  obtain ⟨Ia, fq, wq, len, Pv, Sx, bt, rfl, Wk, hs, hf, hc, h0, hQ⟩ := h2
  refine wpAny_bind (wpAny_newObj_type ?_)
  have hB : s2.heap.objs.size ∉ fq := fun z => Nat.lt_irrefl _ (hf _ z)
  rw [lpN]
  refine wpAny_pure ⟨plainId_quiet F.plain_max_loop _, first Wk bt hc s2.heap.objs.size hB (Wk.frame _ _ _ hs fun b _ o e => Heap.get?_push_of_some _ e) (Heap.get?_push_size _ rfl) (fun z hp tk kk => ?_) fun z v hp tk hv kk => ?_⟩
  · exact h0 z hp tk fun b o n e => kk b o n (Nat.ne_of_lt (Heap.lt_size e)) (Heap.get?_push_of_some _ e)
  · exact hQ z v hp tk hv fun b o n e => kk b o n (Nat.ne_of_lt (Heap.lt_size e)) (Heap.get?_push_of_some _ e)
theorem ofInts {pg : Program} {wd : World} {Ar : Around} {Ex : Value → Shared → Prop} {st : Shared} {l : Addr} {xs : Array (Int × Tok)} {dd : Value} {Q : Value → Shared → Prop} (hh : Ar.handled = none) (hl : st.heap.IsList l (intItems xs))
    (h0 : xs.size = 0 → ∀ hp tk, (∀ b o, st.heap.get? b = some o → hp.get? b = some o) → Q dd { st with heap := hp, toks := tk })
    (h : 0 < xs.size → ∀ v hp tk, (intItems xs)[argBest (fun i j => decide (numAt xs i > numAt xs j)) (xs.size - 1)]? = some v → (∀ b o, st.heap.get? b = some o → hp.get? b = some o) → Q v { st with heap := hp, toks := tk }) :
    wpAny (model pg wd) Ar (call (.builtin "max") [.ref l] [(Str.ofString "default", dd)]) Q Ex st := by
  refine call_ (iter_intList hl fun s2 e hs hf hI => ?_)
  subst e
  refine ⟨_, _, _, _, _, _, _, rfl, Walks.list (A := Ar.in1) hh _ l hI (intItems xs), hs, hf, CmpOf.ints_gt (numAt xs) (fun _ _ => intItems_at), fun z hp tk kk => ?_, fun z v hp tk hv kk => ?_⟩
  · exact h0 (by simpa [intItems] using z) hp tk (old_kept kk)
  · exact h (by simpa [intItems] using z) v hp tk (by simpa [intItems] using hv) (old_kept kk)
end MxD
end PySem
namespace L2
open PySem PySem.Spec PyProof.Rows
section
variable {X : Cx}
/-- max(xs, default=d), xs a list of ints -/
def rMaxD (K : PySem.W.Frag) : List V → List V → Hp → VK → Prop := fun vs zs H Q => ∃ (a : Addr) (ns : List Int) (d : V), vs = [V.ref a] ∧ zs = [d] ∧ SqL K H a (ns.map V.int) ∧ (ns = [] → Q d H) ∧ (ns ≠ [] → ∀ m, m ∈ ns → (∀ y, y ∈ ns → y ≤ m) → Q (.int m) H)
theorem cr_maxD (hc : X.calm = true) : CallRK X (.builtin "max") [Str.ofString "default"] (rMaxD X.K) := by
  intro pins s σ H vs zs us ws Q I r rz h
  obtain ⟨a, ns, d, rfl, rfl, hs, q0, q1⟩ := h
  obtain ⟨u, rfl, ru⟩ : ∃ u, ws = [u] ∧ RelV d u := by
    cases rz with
    | cons a b => cases b; exact ⟨_, rfl, a⟩
  obtain ⟨its, rv, hl, _⟩ := I.list hs
  rw [Vals.ref1 r]
  have hi := rv.ints
  obtain ⟨xs, e⟩ := hi.allInts.items
  have hn : numsOf (intItems xs).toList = ns := by rw [← e]; exact hi.numsOf
  rw [nums_intItems] at hn
  have hl2 := hl.isList
  rw [e] at hl2
  subst hn
  refine MxD.ofInts (I.ok.hd hc) hl2 (fun z hp tk kk => ?_) fun z v hp tk hv kk => ?_
  · exact ⟨d, H, I.kept kk, ru, q0 (List.map_eq_nil_iff.mpr (List.eq_nil_of_length_eq_zero (by simpa using z)))⟩
  · obtain ⟨t, rfl⟩ := intItems_at hv
    obtain ⟨h1, h2⟩ := argBest_gt (numAt xs) (xs.size - 1)
    refine ⟨.int _, H, I.kept kk, ⟨_, rfl⟩, q1 (fun z2 => ?_) _ ?_ fun y hy => ?_⟩
    · have := congrArg List.length z2
      rw [List.length_map, Array.length_toList, List.length_nil] at this
      omega
    · rw [numAt_eq]; exact PySem.getD_mem (by rw [List.length_map, Array.length_toList]; omega)
    · obtain ⟨j, hj, rfl⟩ := mem_getD hy
      rw [List.length_map, Array.length_toList] at hj
      rw [← numAt_eq]; exact h2 j (by omega)
end
end L2
namespace DL
open PySem PySem.Spec PyProof.Rows L2
/-- max(xs, default=d) -/
@[simp] def eMaxD (te td : EE) : EE := fun s G Q => te s G fun x G1 => td s G1 fun d G2 => match (lkL G2 x).bind intsD with
  | some ns => (ns = [] → Q d G2) ∧ (ns ≠ [] → ∀ m, m ∈ ns → (∀ y, y ∈ ns → y ≤ m) → Q (.int m) G2)
  | none => False
theorem j_maxD {X : Cx} {e d : Expr} {te td : EE} {p kp pos : Pos} (hg : Gl X "max") (hm : X.mg "max" = none) (he : JE X e te) (hd : JE X d td) (hc : X.calm = true := by rfl)
    (hst : starEach [e] X.env = (false, eval e X.env) :: starEach [] X.env := by rfl) (hk : keywordEach [⟨some "default", d, kp⟩] X.env = [(some (Str.ofString "default"), eval d X.env)] := by rfl)
    (h1 : backTo pos (starEach [e] X.env) = (false, eval e X.env) :: backTo pos (starEach [] X.env) := by rfl) (h2 : (backTo pos (starEach [e] X.env)).any (·.1) = false := by rfl) (h3 : (backToKw pos (keywordEach [⟨some "default", d, kp⟩] X.env)).all (·.1.isSome) = true := by rfl)
    (h4 : (backToKw pos (keywordEach [⟨some "default", d, kp⟩] X.env)).any (·.1.isNone) = false := by rfl) (h5 : (backToKw pos (keywordEach [⟨some "default", d, kp⟩] X.env)).filterMap (·.1) = [Str.ofString "default"] := by rfl) :
    JE X (.Call (.Name "max" p) [e] [⟨some "default", d, kp⟩] pos) (eMaxD te td) :=
  ⟨pe_callBK (cr_maxD hc) hg hm (by decide +kernel) (pa_cons he.pe pa_nil hst) (pk_cons hd.pe pk_nil) (by decide) (by decide) h1 h2 h3 h4 h5, fun P s G Q σ H R h r k => by
    refine he.le P s G _ σ H _ h r fun x G1 u H1 s1 w1 r1 h1 => ?_
    refine hd.le P s G1 _ σ H1 _ h1 (r.step s1 w1) fun dd G2 ud H2 s2 w2 r2 h2 => ?_
    cases e : (lkL G2 x).bind intsD with
    | none => rw [e] at h2; exact h2.elim
    | some ns =>
      rw [e] at h2
      obtain ⟨a, rfl, hs, hz⟩ := lk_ints w2 (r1.step s2) e
      exact ⟨a, ns, ud, rfl, rfl, hs, fun z => k _ G2 _ H2 (s1.trans s2) w2 r2 (h2.1 z), fun z m hm hy => k _ G2 _ H2 (s1.trans s2) w2 rep_int (h2.2 z m hm hy)⟩⟩
end DL
set_option Elab.async false
set_option linter.all false
set_option maxRecDepth 100000
set_option maxHeartbeats 4000000
namespace L2
open PySem PySem.Spec PyProof.Rows PySem.W
/-- sorted(xs) of data that are alike -/
def rSrtD (K : PySem.W.Frag) : List V → Hp → VK → Prop := fun vs H Q => ∃ (a : Addr) (xs : List V) (ps : List PyData), vs = [V.ref a] ∧ SqL K H a xs ∧ xs.length ≤ sizeLine ∧ DpAll K H xs ps ∧ AllAlike ps ∧ Sortable ps ∧ (∀ p ∈ ps, p.depth ≤ 40) ∧
  ∀ q, H q = none → Q (.ref q) (upd H q (.lst (((xs.zip ps).mergeSort (dataLe false (fun z : V × PyData => z.2))).map (·.1))))
section
variable {X : Cx}
theorem each_zip {pins : List (Addr × Obj)} {σ : St} {H : Hp} {s : Shared} (I : Inv X pins σ H s) : ∀ {xs : List V} {ps : List PyData} {us : List Value}, DpAll X.K H xs ps → Vals xs us →
    EachIs (fun (u : Value) (z : V × PyData) => RelV z.1 u) us (xs.zip ps) ∧ EachIs (fun (u : Value) (z : V × PyData) => ∃ as, Reads s.heap u z.2 as) us (xs.zip ps) := by
  intro xs ps us h r
  induction r generalizing ps with
  | nil => cases h; exact ⟨.nil, .nil⟩
  | cons r1 t ih =>
    cases h with
    | cons h1 h2 =>
      obtain ⟨a, b⟩ := ih h2
      exact ⟨.cons r1 a, .cons (Dp.reads I _ _ _ h1 r1) b⟩
theorem vals_each : ∀ {l : List (V × PyData)} {us : List Value}, EachIs (fun (u : Value) (z : V × PyData) => RelV z.1 u) us l → Vals (l.map (·.1)) us
  | [], _, h => by cases h; exact .nil
  | z :: l, _, h => by
    cases h with
    | cons a b => exact .cons a (vals_each b)
theorem dpAll_len {K : PySem.W.Frag} {H : Hp} : ∀ {xs : List V} {ps : List PyData}, DpAll K H xs ps → xs.length = ps.length := by
  intro xs ps h
  induction ps generalizing xs with
  | nil => cases h; rfl
  | cons p ps ih => cases h with
    | cons a b => simp [ih b]
theorem zip_snd_dp {K : PySem.W.Frag} {H : Hp} {xs : List V} {ps : List PyData} (h : DpAll K H xs ps) : (xs.zip ps).map (fun z : V × PyData => z.2) = ps := List.map_snd_zip (by rw [dpAll_len h]; exact Nat.le_refl _)
theorem cr_srtD (hu : X.A.units + 64 < cLine) : CallR X (.builtin "sorted") (rSrtD X.K) := by
  intro pins s σ H vs us Q I r h
  obtain ⟨a, xs, ps, rfl, hs, hz, hd, hal, hk, hdp, q⟩ := h
  obtain ⟨its, rv, hl, _⟩ := I.list hs
  rw [Vals.ref1 r]
  obtain ⟨e1, e2⟩ := each_zip I hd rv
  have hl2 := hl.isList
  have hlen : (xs.zip ps).length = xs.length := by rw [List.length_zip, ← dpAll_len hd, Nat.min_self]
  refine sorted_data (enc := fun z : V × PyData => z.2) hl2 e1 e2 (by rw [zip_snd_dp hd]; exact hal) (by rw [zip_snd_dp hd]; exact hk) (by rw [hlen]; exact hz) (fun b hb => ?_) fun out ho e => ?_
  · have : b.2 ∈ ps := by rw [← zip_snd_dp hd]; exact List.mem_map.mpr ⟨b, hb, rfl⟩
    have := hdp _ this
    omega
  · obtain ⟨ep, he'⟩ := PyProof.Rows.sortedAll_at s.heap its out.toArray
    have hv := vals_each e
    refine ⟨.ref _, upd H (s.heap.objs.size + 1) (.lst (((xs.zip ps).mergeSort (dataLe false (fun z : V × PyData => z.2))).map (·.1))), I.laid (t' := s.toks) (fun _ _ => PyProof.Rows.sortedAll_old) (Nat.le_succ _) ⟨?_, out, ep, hv, he'⟩, rfl, q _ (I.hok.fresh (Nat.le_succ _))⟩
    rw [List.length_map, List.length_mergeSort, hlen]; exact hz
end
end L2
namespace DL
open PySem PySem.Spec PyProof.Rows L2 PySem.W
/-- sorted(xs), xs alike data: a new list, frozen -/
@[simp] def cSrtD : CD := fun xs G Q => match xs with
  | [x] => (match lkL G x with
    | some ds => (match toPys G ds with
      | some ps => AllAlike ps ∧ Sortable ps ∧ (∀ p ∈ ps, p.depth ≤ 40) ∧ Q (.lst (((ds.zip ps).mergeSort (dataLe false (fun z : D × PyData => z.2))).map (·.1))) G
      | none => False)
    | none => False)
  | _ => False
theorem reps_mem_zip {K : PySem.W.Frag} {P : Addr → Prop} {G : Gp} {H : Hp} : ∀ {ds : List D} {xs : List V} {ps : List PyData}, Reps K H G P ds xs → ds.length = ps.length → ∃ l : List ((D × PyData) × V), l.map (·.1) = ds.zip ps ∧ l.map (fun z => (z.2, z.1.2)) = xs.zip ps ∧ ∀ z ∈ l, Rep K H G P z.1.1 z.2
  | [], _, [], h, _ => by unfold Reps at h; subst h; exact ⟨[], rfl, rfl, fun _ q => (nomatch q)⟩
  | [], _, _ :: _, _, e => by simp at e
  | _ :: _, _, [], _, e => by simp at e
  | d :: ds, _, p :: ps, h, e => by
    unfold Reps at h
    obtain ⟨x, r, rfl, h1, h2⟩ := h
    obtain ⟨l, e1, e2, e3⟩ := reps_mem_zip (ps := ps) h2 (by simpa using e)
    refine ⟨((d, p), x) :: l, by simp [e1], by simp [e2], fun z hz => ?_⟩
    rcases List.mem_cons.mp hz with rfl | t
    · exact h1
    · exact e3 z t
theorem reps_of_pairs {K : PySem.W.Frag} {P : Addr → Prop} {G : Gp} {H : Hp} : ∀ {l : List ((D × PyData) × V)}, (∀ z ∈ l, Rep K H G P z.1.1 z.2) → Reps K H G P (l.map fun z => z.1.1) (l.map (·.2))
  | [], _ => reps_nil
  | z :: l, h => reps_cons (h z List.mem_cons_self) (reps_of_pairs fun y hy => h y (List.mem_cons_of_mem _ hy))
theorem merge_map {α β : Type} {le : β → β → Bool} {f : α → β} (l : List α) : (l.mergeSort fun a b => le (f a) (f b)).map f = (l.map f).mergeSort le := by
  rw [List.map_mergeSort (r := fun a b => le (f a) (f b)) (s := le) (f := f) (l := l)]
  intro a _ b _
  rfl
theorem lc_srtD {K : PySem.W.Frag} : LC K (rSrtD K) cSrtD := fun P G H xs us Q R h w r k => by
  unfold cSrtD at h
  split at h
  · rename_i x
    split at h
    · rename_i ds e
      split at h
      · rename_i ps e2
        obtain ⟨u, rfl, r1⟩ := reps1 r
        obtain ⟨a, ys, rfl, s, q, z⟩ := lk_sq w r1 e
        obtain ⟨h1, h2, h3, h4⟩ := h
        have hd := dps_of w ds q e2
        have hl : ds.length = ps.length := by rw [q.length]; exact dpAll_len hd
        refine ⟨a, ys, ps, rfl, s, by rw [← q.length]; exact z, hd, h1, h2, h3, fun p hp => ?_⟩
        obtain ⟨f1, f2⟩ := w.fresh hp
        obtain ⟨l, e3, e4, e5⟩ := reps_mem_zip (ps := ps) q hl
        have ea : ((ds.zip ps).mergeSort (dataLe false (fun z : D × PyData => z.2))).map (·.1) = (l.mergeSort fun a b => dataLe false (fun z : D × PyData => z.2) a.1 b.1).map fun z => z.1.1 := by
          rw [← e3, ← merge_map, List.map_map]; rfl
        have eb : ((ys.zip ps).mergeSort (dataLe false (fun z : V × PyData => z.2))).map (·.1) = (l.mergeSort fun a b => dataLe false (fun z : D × PyData => z.2) a.1 b.1).map (·.2) := by
          rw [← e4, ← merge_map, List.map_map]; rfl
        have hm : ∀ z ∈ l.mergeSort fun a b => dataLe false (fun z : D × PyData => z.2) a.1 b.1, Rep K H G P z.1.1 z.2 := fun z hz => e5 z (List.mem_mergeSort.mp hz)
        rw [ea] at h4
        rw [eb]
        have st : Step G H G (upd H p (.lst ((l.mergeSort fun a b => dataLe false (fun z : D × PyData => z.2) a.1 b.1).map (·.2)))) := Step.new hp
        refine k _ G _ _ st (w.new hp) (rep_lst f1 f2 upd_same ?_ ((reps_of_pairs hm).step st)) h4
        rw [List.length_map, List.length_mergeSort, ← List.length_map (f := (·.1)), e3, List.length_zip]
        exact Nat.le_trans (Nat.min_le_left _ _) z
      · exact h.elim
    · exact h.elim
  · exact h.elim
end DL
set_option Elab.async false
set_option linter.all false
set_option maxRecDepth 100000
set_option maxHeartbeats 4000000
namespace DL
open PySem PySem.Spec PyProof.Rows L2
theorem ofStr_injective {a b : String} (h : Str.ofString a = Str.ofString b) : a = b := by
  rw [Str.ofString_eq_toList, Str.ofString_eq_toList] at h
  simp only [Str.mk.injEq] at h
  have h2 := congrArg Array.toList h
  simp only [List.toList_toArray] at h2
  have h3 : a.toList = b.toList := (List.map_inj_right (fun x y e => Char.toNat_inj.mp e)).mp h2
  exact String.toList_inj.mp h3
@[simp] theorem ofStr_eq {a b : String} : Str.ofString a = Str.ofString b ↔ a = b := ⟨ofStr_injective, fun h => by rw [h]⟩
@[simp] def lkF (f : Str) : List Str → List D → Option D
  | k :: ks, d :: ds => if k = f then some d else lkF f ks ds
  | _, _ => none
@[simp] def putFk (f : Str) : List Str → List Str
  | [] => [f]
  | k :: ks => if k = f then k :: ks else k :: putFk f ks
@[simp] def putFv (f : Str) (y : D) : List Str → List D → List D
  | k :: ks, d :: ds => if k = f then y :: ds else d :: putFv f y ks ds
  | _, _ => [y]
section
variable {X : Cx} {Y : Wx} {K : PySem.W.Frag} {P : Addr → Prop} {G : Gp} {H : Hp} {C f : Str}
theorem lkF_look : ∀ {ks : List Str} {ds : List D} {xs : List V} {d : D}, Reps K H G P ds xs → lkF f ks ds = some d → ∃ v, (ks.zip xs).lookup f = some v ∧ Rep K H G P d v
  | [], _, _, _, _, e => by simp at e
  | _ :: _, [], _, _, _, e => by simp at e
  | k :: ks, d :: ds, _, d', h, e => by
    unfold Reps at h
    obtain ⟨x, r, rfl, h1, h2⟩ := h
    unfold lkF at e
    by_cases hk : k = f
    · subst hk
      rw [if_pos rfl] at e
      cases e
      exact ⟨x, by simp [List.lookup], h1⟩
    · rw [if_neg hk] at e
      obtain ⟨v, e1, e2⟩ := lkF_look h2 e
      refine ⟨v, ?_, e2⟩
      have : (f == k) = false := by simp; exact fun z => hk z.symm
      simp [List.lookup, this, e1]
theorem put_F {y : D} {v : V} (hy : Rep K H G P y v) : ∀ {ks : List Str} {ds : List D} {xs : List V}, Reps K H G P ds xs → ks.length = ds.length → ∃ ys, putF f v (ks.zip xs) = (putFk f ks).zip ys ∧ (putFk f ks).length = (putFv f y ks ds).length ∧ Reps K H G P (putFv f y ks ds) ys
  | [], [], _, h, _ => by unfold Reps at h; subst h; exact ⟨[v], rfl, rfl, reps_cons hy reps_nil⟩
  | [], _ :: _, _, _, e => by simp at e
  | _ :: _, [], _, _, e => by simp at e
  | k :: ks, d :: ds, _, h, e => by
    unfold Reps at h
    obtain ⟨x, r, rfl, h1, h2⟩ := h
    by_cases hk : k = f
    · refine ⟨v :: r, by simp [putF, hk], by simpa [hk] using e, ?_⟩
      simp [hk]
      exact reps_cons hy h2
    · obtain ⟨ys, e1, e2, e3⟩ := put_F hy h2 (by simpa using e)
      refine ⟨x :: ys, by simp [putF, hk, e1], by simpa [hk] using e2, ?_⟩
      simp [hk]
      exact reps_cons h1 e3
theorem look_none : ∀ {ks : List Str} {xs : List V}, f ∉ ks → (ks.zip xs).lookup f = none
  | [], _, _ => rfl
  | _ :: _, [], _ => rfl
  | k :: ks, x :: xs, h => by
    simp only [List.mem_cons, not_or] at h
    have : (f == k) = false := by simp; exact h.1
    simp [List.lookup, this, look_none h.2]
/-- o.f, an instance of the class named C -/
@[simp] def eFld (C f : Str) (te : EE) : EE := fun s G Q => te s G fun x G1 => match x with
  | .ref a => (match G1 a with
    | some (.ins C' _ ks ds) => C' = C ∧ (match lkF f ks ds with
      | some d => Q d G1
      | none => False)
    | _ => False)
  | _ => False
theorem j_fld {o : Expr} {te : EE} {pos : Pos} (c : Cls X.K (He.ga X.K C)) (n : NoAttr X.K (He.ga X.K C) f) (ho : JE X o te) (hb : attributeBase o f X.env (eval o X.env) = eval o X.env := by rfl) : JE X (.Attribute o f pos) (eFld C f te) :=
  ⟨pe_fld ho.pe hb, fun P s G Q σ H R h r k => by
    refine ho.le P s G _ σ H _ h r fun x G1 u H1 s1 w1 r1 h1 => ?_
    split at h1
    · rename_i a
      split at h1
      · rename_i C' dx ks ds e
        obtain ⟨rfl, h1⟩ := h1
        split at h1
        · rename_i d e2
          unfold Rep at r1
          obtain ⟨rfl, _⟩ := r1
          obtain ⟨ho', e3, xs, rfl, z, q⟩ := w1.own a _ e
          obtain ⟨v, e4, r4⟩ := lkF_look q e2
          exact ⟨a, _, dx, _, v, rfl, e3, c, n, e4, k _ G1 _ H1 s1 w1 r4 h1⟩
        · exact h1.elim
      · exact h1.elim
    · exact h1.elim⟩
/-- o.f = e -/
@[simp] def sFldD (C f : Str) (te to : EE) : ES := fun N s G => te s G fun v G1 => to s G1 fun o G2 => match o with
  | .ref a => (match G2 a with
    | some (.ins C' dx ks ds) => C' = C ∧ ks.length < 1000 ∧ N.nx s (gput G2 a (.ins C dx (putFk f ks) (putFv f v ks ds)))
    | _ => False)
  | _ => False
theorem js_fld {o e : Expr} {eo ee : EE} {p' pos : Pos} (c : Cls X.K (He.ga X.K C)) (n : NoAttr X.K (He.ga X.K C) f) (ho : JE X o eo) (he : JE X e ee) (hs : swapsWith e (some (.Attribute o f p')) pos.line X.env = pure false := by rfl) :
    JS X Y (.Assign [.Attribute o f p'] e pos) (sFldD C f ee eo) :=
  ⟨ps_fld ho.pe he.pe hs, fun P s G N σ H M h r k => by
    refine he.le P s G _ σ H _ h r fun v G1 u H1 s1 w1 r1 h1 => ?_
    refine ho.le P s G1 _ σ H1 _ h1 (r.step s1 w1) fun od G2 ov H2 s2 w2 r2 h2 => ?_
    split at h2
    · rename_i a
      split at h2
      · rename_i C' dx ks ds e
        obtain ⟨rfl, hl, h2⟩ := h2
        unfold Rep at r2
        obtain ⟨rfl, _⟩ := r2
        obtain ⟨ho', e3, xs, rfl, z, q⟩ := w2.own a _ e
        obtain ⟨ys, e4, z4, q4⟩ := put_F (f := f) (r1.step s2) q z
        refine ⟨a, _, dx, _, rfl, e3, c, n, by rw [List.length_zip]; exact Nat.lt_of_le_of_lt (Nat.min_le_left _ _) hl, ?_⟩
        rw [e4]
        have st : Step G2 H2 (gput G2 a (.ins C' dx (putFk f ks) (putFv f v ks ds))) (upd H2 a (.ins (He.ga X.K C') dx ((putFk f ks).zip ys))) := Step.chg e
        have sA := (s1.trans s2).trans st
        exact k.nx s _ σ _ sA (r.step sA (w2.chg e ⟨_, rfl, z4, q4.step st⟩)) h2
      · exact h2.elim
    · exact h2.elim⟩
/-- an instance of the class named C without a field m of its own -/
@[simp] def isIns (C m : Str) (G : Gp) : D → Prop
  | .ref a => (match G a with
    | some (.ins C' _ ks _) => C' = C ∧ m ∉ ks
    | _ => False)
  | _ => False
/-- o.m(..) -/
@[simp] def eMeth (C m : Str) (F : Sf) (to : EE) (t : EA) : EE := fun s G Q => to s G fun x G1 => isIns C m G1 x ∧ t s G1 fun xs G2 => F (x :: xs) G2 Q
/-- C(..) -/
@[simp] def eMake (C : Str) (F : Sf) (t : EA) : EE := fun s G Q => t s G fun xs G1 => ∀ x dx, G1 x = none → F (.ref x :: xs) (gput G1 x (.ins C dx [] [])) fun d G2 => d = .non ∧ Q (.ref x) G2
theorem is_ins {x : D} {u : V} (w : Wo K P G H) {m : Str} (r : Rep K H G P x u) (h : isIns C m G x) : ∃ a dx fs, u = .ref a ∧ H a = some (.ins (He.ga K C) dx fs) ∧ fs.lookup m = none := by
  unfold isIns at h
  split at h
  · rename_i a
    split at h
    · rename_i C' dx ks ds e
      obtain ⟨rfl, hm⟩ := h
      unfold Rep at r
      obtain ⟨rfl, _⟩ := r
      obtain ⟨ho', e3, xs, rfl, z, q⟩ := w.own a _ e
      exact ⟨a, dx, _, rfl, e3, look_none hm⟩
    · exact h.elim
  · exact h.elim
theorem le_meth {n : Nat} {m : Str} {F : Sf} {E : XK} {to : TE} {eo : EE} {t : TA} {ea : EA} (ho : LE K to eo) (ha : LA K n t ea) : LE K (tMeth (He.ga K C) m (Lf K (n + 1) F) [] E to t) (eMeth C m F eo ea) := fun P s G Q σ H R h rl k => by
  refine ho P s G _ σ H _ h rl fun x G1 u H1 s1 w1 r1 h1 => ?_
  obtain ⟨a, dx, fs, rfl, e1, e2⟩ := is_ins w1 r1 h1.1
  refine ⟨a, dx, fs, rfl, e1, e2, ?_⟩
  refine ha P s G1 _ σ H1 _ h1.2 (rl.step s1 w1) fun xs G2 us H2 s2 w2 r2 hn h2 => ?_
  refine ⟨?_, P, x :: xs, G2, Q, w2, reps_cons (r1.step s2) (by rw [List.append_nil]; exact r2), h2, fun d G' v H' st w' r' q' => k d G' v H' ((s1.trans s2).trans st) w' r' q'⟩
  rw [List.append_nil, List.length_cons, ← r2.length, hn]
/-- a method of the text: it keeps the promise F -/
structure CalM (P : Program) (w : World) (K : PySem.W.Frag) (mg : Str → Option Value) (base : Heap) (k : Nat) (C m : Str) (ps : List Str) (F : Sf) : Prop where
  ex : ∃ fd, FK P w K mg base k (He.ma K (He.ga K C) m) fd ps F ∧ Cls K (He.ga K C) ∧ Meth K (He.ga K C) m (He.ma K (He.ga K C) m) ∧ Binds K fd ps []
theorem j_meth {k : Nat} {m : Str} {ps : List Str} {F : Sf} {o e : Expr} {es : List Expr} {eo : EE} {ea : EA} {apos pos : Pos} {pl : Sem Bool} (c : CalM X.prog X.w K X.mg X.base k C m ps F) (hr : Room k X.A) (ho : JE X o eo) (ha : JA X (e :: es) ea) (hK : X.K = K := by rfl) (hlen : (e :: es).length + 1 = ps.length := by rfl)
    (hst : starEach (e :: es) X.env = (false, eval e X.env) :: starEach es X.env := by rfl) (hpl : (backTo pos (starEach es X.env)).any (·.1) = false := by rfl)
    (ht : eval (.Call (.Attribute o m apos) (e :: es) [] pos) X.env = (do let ov ← eval o X.env; standAt apos.atName; let (f, first) ← holding [ov] (getMethod ov m pl); callWith pos f first (backTo pos (starEach (e :: es) X.env)) (backToKw pos (keywordEach [] X.env))) := by rfl) :
    JE X (.Call (.Attribute o m apos) (e :: es) [] pos) (eMeth C m F eo ea) := by
  subst hK
  obtain ⟨fd, h1, h2, h3, h4⟩ := c.ex
  have h1' := h1
  unfold FK at h1'
  rw [← hlen] at h1'
  exact ⟨pe_meth ho.pe h2 h3 h1' hr h4 .nil pass0 ha.pa hst hpl ht, le_meth (E := fun _ _ _ => False) ho.le ha.la⟩
theorem j_meth0 {k : Nat} {m : Str} {ps : List Str} {F : Sf} {o : Expr} {eo : EE} {apos pos : Pos} {pl : Sem Bool} (c : CalM X.prog X.w K X.mg X.base k C m ps F) (hr : Room k X.A) (ho : JE X o eo) (hK : X.K = K := by rfl) (hlen : 1 = ps.length := by rfl)
    (ht : eval (.Call (.Attribute o m apos) [] [] pos) X.env = (do let ov ← eval o X.env; standAt apos.atName; let (f, first) ← holding [ov] (getMethod ov m pl); callWith pos f first (backTo pos (starEach [] X.env)) (backToKw pos (keywordEach [] X.env))) := by rfl) :
    JE X (.Call (.Attribute o m apos) [] [] pos) (eMeth C m F eo eNil) := by
  subst hK
  obtain ⟨fd, h1, h2, h3, h4⟩ := c.ex
  have h1' := h1
  unfold FK at h1'
  rw [← hlen] at h1'
  exact ⟨pe_meth0 ho.pe h2 h3 h1' hr h4 .nil pass0 ht, le_meth (n := 0) (E := fun _ _ _ => False) ho.le la_nil⟩
theorem le_make {n : Nat} {F : Sf} {E : XK} {t : TA} {ea : EA} (ha : LA K n t ea) : LE K (tMake (He.ga K C) (Lf K (n + 1) F) [] E t) (eMake C F ea) := fun P s G Q σ H R h rl k => by
  refine ha P s G _ σ H _ h rl fun xs G1 us H1 s1 w1 r1 hn h1 => ?_
  intro x dx hx hdx ne
  have nx : x ≠ dx := fun z => ne z.symm
  have w2 : Wo K P G1 (upd H1 dx (.own x)) := w1.new hdx
  have st2 : Step G1 H1 G1 (upd H1 dx (.own x)) := Step.new hdx
  have hx2 : upd H1 dx (.own x) x = none := by rw [upd_ne nx]; exact hx
  have st3 : Step G1 (upd H1 dx (.own x)) (gput G1 x (.ins C dx [] [])) (upd (upd H1 dx (.own x)) x (.ins (He.ga K C) dx [])) := Step.newOwn w2 hx2
  have w3 : Wo K P (gput G1 x (.ins C dx [] [])) (upd (upd H1 dx (.own x)) x (.ins (He.ga K C) dx [])) := w2.newOwn hx2 ⟨[], rfl, rfl, reps_nil⟩
  refine ⟨by rw [List.append_nil, List.length_cons, ← r1.length, hn], P, .ref x :: xs, _, _, w3, reps_cons (by unfold Rep; exact ⟨rfl, _, gput_same⟩) (by rw [List.append_nil]; exact r1.step (st2.trans st3)), h1 x dx (w1.fresh hx).1, fun d G' v H' st w' r' q' => ?_⟩
  obtain ⟨rfl, q'⟩ := q'
  have sA := (s1.trans (st2.trans st3)).trans st
  refine ⟨rep_n r', k _ G' _ H' sA w' ?_ q'⟩
  unfold Rep
  exact ⟨rfl, st.own x _ gput_same⟩
/-- a class of the text, made by its __init__ -/
structure CalK (P : Program) (w : World) (K : PySem.W.Frag) (mg : Str → Option Value) (base : Heap) (k : Nat) (C : Str) (ps : List Str) (F : Sf) : Prop where
  ex : ∃ fd, FK P w K mg base k (He.ma K (He.ga K C) "__init__") fd ps F ∧ Mk K (He.ga K C) (He.ma K (He.ga K C) "__init__") ∧ Binds K fd ps [] ∧ mg C = some (.ref (He.ga K C))
theorem j_make {k : Nat} {ps : List Str} {F : Sf} {e : Expr} {es : List Expr} {ea : EA} {p pos : Pos} (c : CalK X.prog X.w K X.mg X.base k C ps F) (hr : Room (k + 1) X.A) (hg : Gl X C) (ha : JA X (e :: es) ea) (hK : X.K = K := by rfl) (hlen : (e :: es).length + 1 = ps.length := by rfl)
    (hdb : (C == ("__debug__" : Str)) = false := by decide) (he : starEach (e :: es) X.env = (false, eval e X.env) :: starEach es X.env := by rfl) (hpl : (backTo pos (starEach es X.env)).any (·.1) = false := by rfl) : JE X (.Call (.Name C p) (e :: es) [] pos) (eMake C F ea) := by
  subst hK
  obtain ⟨fd, h1, h2, h3, h4⟩ := c.ex
  have h1' := h1
  unfold FK at h1'
  rw [← hlen] at h1'
  exact ⟨pe_make h2 h1' hr hg h4 h3 .nil pass0 ha.pa hdb he hpl, le_make (E := fun _ _ _ => False) ha.la⟩
/-- a method as it stands behind the top -/
structure DfM (K : PySem.W.Frag) (C m q : Str) (st : Stmt) : Prop where
  ex : ∃ fd, FunD K m q (defArgs st) (defBody st) (defScope st) [] [] (He.ma K (He.ga K C) m) fd
theorem fk_meth {P : Program} {w : World} {mg : Str → Option Value} {base : Heap} {m q : Str} {st : Stmt} {N ps : List Str} {k : Nat} {F : Sf} {es : ES} (D : DfM K C m q st) (S : FnScope N ps (defScope st))
    (hb : ∀ (kV doc pm : Value) (an : Option Addr) (cdv ct : Value) (us : List Value), us.length = ps.length → bindArgs (PySem.W.fnOf m q (defArgs st) (defBody st) (defScope st) .none kV doc pm an cdv ct) ⟨us, []⟩ = pure (ps.zip us))
    (hJ : ∀ (f : Addr) (cdv : Value) (A : Around) (outer : List Env) (s : Shared) (H : Hp) (E : XK), Room k (A.deeper (envOfC q (defScope st) s.heap.objs.size f cdv)) → JSs (cxOf CX0 P w K mg base N q (defScope st) f cdv A outer s H E).nox y0 (defBody st) es)
    (hR : ∀ ds G Q, F ds G Q → es (fin G Q) (startD N.length ds) G) : ∃ fd, FK P w K mg base (k + 1) (He.ma K (He.ga K C) m) fd ps F ∧ Binds K fd ps [] := by
  obtain ⟨fd, h1⟩ := D.ex
  exact ⟨fd, fk_ok h1 S (hJ _) hR, h1.bindsN hb⟩
theorem calM_ok {P : Program} {w : World} {mg : Str → Option Value} {base : Heap} {m : Str} {ps : List Str} {k : Nat} {F : Sf} (c : Cls K (He.ga K C)) (hm : Meth K (He.ga K C) m (He.ma K (He.ga K C) m)) (h : ∃ fd, FK P w K mg base k (He.ma K (He.ga K C) m) fd ps F ∧ Binds K fd ps []) : CalM P w K mg base k C m ps F :=
  let ⟨fd, a, b⟩ := h; ⟨fd, a, c, hm, b⟩
theorem calK_ok {P : Program} {w : World} {mg : Str → Option Value} {base : Heap} {ps : List Str} {k : Nat} {F : Sf} (hm : Mk K (He.ga K C) (He.ma K (He.ga K C) "__init__")) (hg : mg C = some (.ref (He.ga K C))) (h : ∃ fd, FK P w K mg base k (He.ma K (He.ga K C) "__init__") fd ps F ∧ Binds K fd ps []) : CalK P w K mg base k C ps F :=
  let ⟨fd, a, b⟩ := h; ⟨fd, a, hm, b, hg⟩
end
end DL
set_option Elab.async false
set_option linter.all false
set_option maxRecDepth 100000
set_option maxHeartbeats 4000000
namespace LN
/-- sums over 0 .. n - 1 -/
def sumN : Nat → (Nat → Int) → Int
  | 0, _ => 0
  | n + 1, f => sumN n f + f n
def fup {α : Type} (f : Nat → α) (i : Nat) (x : α) : Nat → α := fun j => if j = i then x else f j
theorem fup_same {α : Type} {f : Nat → α} {i : Nat} {x : α} : fup f i x i = x := by unfold fup; rw [if_pos rfl]
theorem fup_ne {α : Type} {f : Nat → α} {i j : Nat} {x : α} (h : j ≠ i) : fup f i x j = f j := by unfold fup; rw [if_neg h]
theorem sumN_congr {f g : Nat → Int} : ∀ {n : Nat}, (∀ i, i < n → f i = g i) → sumN n f = sumN n g
  | 0, _ => rfl
  | n + 1, h => by rw [sumN, sumN, sumN_congr fun i hi => h i (by omega), h n (by omega)]
theorem sumN_add {f g : Nat → Int} : ∀ {n : Nat}, sumN n (fun i => f i + g i) = sumN n f + sumN n g
  | 0 => rfl
  | n + 1 => by simp only [sumN, sumN_add]; omega
theorem sumN_mul {f : Nat → Int} {c : Int} : ∀ {n : Nat}, sumN n (fun i => f i * c) = sumN n f * c
  | 0 => by simp [sumN]
  | n + 1 => by simp only [sumN, sumN_mul, Int.add_mul]
theorem sumN_zero : ∀ {n : Nat}, sumN n (fun _ => 0) = 0
  | 0 => rfl
  | n + 1 => by simp only [sumN, sumN_zero]; rfl
theorem sumN_le {f g : Nat → Int} : ∀ {n : Nat}, (∀ i, i < n → f i ≤ g i) → sumN n f ≤ sumN n g
  | 0, _ => Int.le_refl _
  | n + 1, h => by
    have := sumN_le (f := f) (g := g) (n := n) fun i hi => h i (by omega)
    have := h n (by omega)
    simp only [sumN]; omega
theorem sumN_nonneg {f : Nat → Int} {n : Nat} (h : ∀ i, i < n → 0 ≤ f i) : 0 ≤ sumN n f := by
  have := sumN_le (f := fun _ => 0) (g := f) (n := n) h
  rw [sumN_zero] at this; exact this
theorem sumN_single {f : Nat → Int} {i : Nat} : ∀ {n : Nat}, i < n → (∀ j, j < n → 0 ≤ f j) → f i ≤ sumN n f
  | 0, h, _ => by omega
  | n + 1, h, p => by
    have h0 := sumN_nonneg (f := f) (n := n) fun j hj => p j (by omega)
    have h1 := p n (by omega)
    rw [sumN]
    by_cases e : i = n
    · subst e; omega
    · have := sumN_single (f := f) (i := i) (n := n) (by omega) fun j hj => p j (by omega)
      omega
theorem sumN_swap {f : Nat → Nat → Int} : ∀ {n m : Nat}, sumN n (fun i => sumN m (fun j => f i j)) = sumN m (fun j => sumN n (fun i => f i j))
  | 0, m => by simp only [sumN]; exact sumN_zero.symm
  | n + 1, m => by simp only [sumN, sumN_swap (n := n), ← sumN_add]
/-- one entry changed -/
theorem sumN_fup {f g : Nat → Int} {i : Nat} : ∀ {n : Nat}, i < n → (∀ j, j ≠ i → g j = f j) → sumN n g = sumN n f - f i + g i
  | 0, h, _ => by omega
  | n + 1, h, e => by
    rw [sumN, sumN]
    by_cases hn : i = n
    · subst hn
      rw [sumN_congr (n := i) fun j hj => e j (by omega)]; omega
    · rw [sumN_fup (n := n) (i := i) (by omega) e, e n (fun z => hn z.symm)]; omega
/-- a sum over a part -/
theorem sumN_tele {p : Nat → Int} {b e : Nat} : ∀ {n : Nat}, b ≤ e → e ≤ n → sumN n (fun k => if b ≤ k ∧ k < e then p (k + 1) - p k else 0) = p e - p b := by
  intro n
  induction n generalizing e with
  | zero => intro h1 h2; have hb : b = 0 := by omega
            have he : e = 0 := by omega
            subst hb; subst he; simp [sumN]
  | succ n ih =>
    intro h1 h2
    rw [sumN]
    by_cases he : e = n + 1
    · subst he
      by_cases hb : b = n + 1
      · subst hb
        rw [if_neg (by omega), sumN_congr (g := fun _ => 0) (fun i hi => if_neg (by omega)), sumN_zero]; omega
      · rw [if_pos (by omega)]
        have e1 := ih (e := n) (by omega) (by omega)
        rw [sumN_congr (g := fun k => if b ≤ k ∧ k < n then p (k + 1) - p k else 0) (fun i hi => by
          by_cases hbi : b ≤ i
          · rw [if_pos ⟨hbi, by omega⟩, if_pos ⟨hbi, hi⟩]
          · rw [if_neg (by omega), if_neg (by omega)]), e1]
        omega
    · rw [if_neg (by omega), ih h1 (by omega)]; omega
structure Sp3 where
  b : Nat
  e : Nat
  w : Int
inductive Kd where
  | idle | fill | unidle | unfill | take | leave
  deriving DecidableEq
structure Arc where
  u : Nat
  v : Nat
  g : Int
  k : Kd
  i : Nat
/-- the line's state -/
structure LS where
  n : Nat
  m : Nat
  sp : Nat → Sp3
  must : Nat → Int
  filled : Nat → Int
  idle : Nat → Int
  taken : Nat → Bool
  great : Int
/-- what a unit can do -/
inductive Res (S : LS) : Arc → Prop where
  | idle (k : Nat) : k < S.n → Res S ⟨k, k + 1, 0, .idle, k⟩
  | fill (k : Nat) : k < S.n → S.filled k < S.must k → Res S ⟨k, k + 1, S.great, .fill, k⟩
  | unidle (k : Nat) : k < S.n → 0 < S.idle k → Res S ⟨k + 1, k, 0, .unidle, k⟩
  | unfill (k : Nat) : k < S.n → 0 < S.filled k → Res S ⟨k + 1, k, 0 - S.great, .unfill, k⟩
  | take (i : Nat) : i < S.m → S.taken i = false → Res S ⟨(S.sp i).b, (S.sp i).e, (S.sp i).w, .take, i⟩
  | leave (i : Nat) : i < S.m → S.taken i = true → Res S ⟨(S.sp i).e, (S.sp i).b, 0 - (S.sp i).w, .leave, i⟩
def Pot (S : LS) (p : Nat → Int) : Prop := ∀ a, Res S a → p a.u + a.g ≤ p a.v
def loadK (S : LS) (k : Nat) : Int := sumN S.m fun i => if S.taken i = true ∧ (S.sp i).b ≤ k ∧ k < (S.sp i).e then 1 else 0
def tot (S : LS) (k : Nat) : Int := S.filled k + S.idle k + loadK S k
/-- what never changes -/
structure Fix (S : LS) : Prop where
  sp : ∀ i, i < S.m → (S.sp i).b < (S.sp i).e ∧ (S.sp i).e ≤ S.n ∧ 0 ≤ (S.sp i).w
  gr : S.great = 1 + sumN S.m fun i => (S.sp i).w
  mu : ∀ k, k < S.n → 0 ≤ S.must k
structure Okf (S : LS) : Prop extends Fix S where
  fi : ∀ k, k < S.n → 0 ≤ S.filled k ∧ S.filled k ≤ S.must k
  id : ∀ k, k < S.n → 0 ≤ S.idle k
theorem Fix.wlt {S : LS} (h : Fix S) {i : Nat} (hi : i < S.m) : (S.sp i).w < S.great := by
  have := sumN_single (f := fun i => (S.sp i).w) hi fun j hj => (h.sp j hj).2.2
  rw [h.gr]; omega
theorem Fix.gpos {S : LS} (h : Fix S) : 0 < S.great := by
  have := sumN_nonneg (f := fun i => (S.sp i).w) (n := S.m) fun j hj => (h.sp j hj).2.2
  rw [h.gr]; omega
theorem Res.bds {S : LS} (h : Fix S) {a : Arc} (r : Res S a) : a.u ≤ S.n ∧ a.v ≤ S.n := by
  cases r with
  | idle k hk => exact ⟨by show k ≤ _; omega, by show k + 1 ≤ _; omega⟩
  | fill k hk _ => exact ⟨by show k ≤ _; omega, by show k + 1 ≤ _; omega⟩
  | unidle k hk _ => exact ⟨by show k + 1 ≤ _; omega, by show k ≤ _; omega⟩
  | unfill k hk _ => exact ⟨by show k + 1 ≤ _; omega, by show k ≤ _; omega⟩
  | take i hi _ => have := h.sp i hi; exact ⟨by show (S.sp i).b ≤ _; omega, by show (S.sp i).e ≤ _; omega⟩
  | leave i hi _ => have := h.sp i hi; exact ⟨by show (S.sp i).e ≤ _; omega, by show (S.sp i).b ≤ _; omega⟩
/-- nothing is sent: a potential is there -/
theorem pot0 {S : LS} (h : Fix S) (h1 : ∀ k, S.filled k = 0) (h2 : ∀ k, S.idle k = 0) (h3 : ∀ i, S.taken i = false) : ∃ p, Pot S p := by
  refine ⟨fun k => k * S.great, fun a r => ?_⟩
  have g := h.gpos
  cases r with
  | idle k hk => show (k : Int) * S.great + 0 ≤ ((k + 1 : Nat) : Int) * S.great; rw [Int.natCast_add, Int.add_mul]; simp; omega
  | fill k hk _ => show (k : Int) * S.great + S.great ≤ ((k + 1 : Nat) : Int) * S.great; rw [Int.natCast_add, Int.add_mul]; simp
  | unidle k hk q => rw [h2] at q; omega
  | unfill k hk q => rw [h1] at q; omega
  | take i hi _ =>
    obtain ⟨a1, a2, a3⟩ := h.sp i hi
    have w := h.wlt hi
    show ((S.sp i).b : Int) * S.great + (S.sp i).w ≤ ((S.sp i).e : Int) * S.great
    have : (((S.sp i).b : Int) + 1) * S.great ≤ ((S.sp i).e : Int) * S.great := Int.mul_le_mul_of_nonneg_right (by omega) (by omega)
    rw [Int.add_mul, Int.one_mul] at this
    omega
  | leave i hi q => rw [h3] at q; cases q
abbrev Gn := Nat → Option Int
abbrev La := Nat → Option Arc
/-- v is come to from 0 by d last arcs -/
inductive Rch (l : La) : Nat → Nat → Prop where
  | zero : Rch l 0 0
  | succ {d v : Nat} {a : Arc} : v ≠ 0 → l v = some a → Rch l d a.u → Rch l (d + 1) v
structure RInv (S : LS) (p : Nat → Int) (g : Gn) (l : La) : Prop where
  g0 : g 0 = some 0
  le : ∀ v x, g v = some x → x ≤ p v - p 0
  la : ∀ v x, v ≠ 0 → g v = some x → ∃ a, l v = some a ∧ Res S a ∧ a.v = v ∧ ∃ y, g a.u = some y ∧ x ≤ y + a.g
  rch : ∀ v x, g v = some x → ∃ d, Rch l d v
theorem rch_new {S : LS} {p : Nat → Int} {g : Gn} {l : La} (I : RInv S p g l) (hp : Pot S p) {v : Nat} {a : Arc} (v0 : v ≠ 0) : ∀ (d u : Nat) (y : Int), Rch l d u → g u = some y → (∀ x, g v = some x → p v - x > p u - y) → Rch (fup l v (some a)) d u
  | _, _, _, .zero, _, _ => .zero
  | _, u, y, .succ (d := d) (a := b) u0 e r, hy, h => by
    have ne : u ≠ v := fun z => by subst z; have := h y hy; omega
    refine .succ u0 (by rw [fup_ne ne]; exact e) ?_
    obtain ⟨b', e', rb, bv, y', hy', hle⟩ := I.la u y u0 hy
    rw [e] at e'; cases e'
    have := hp b rb
    rw [bv] at this
    exact rch_new I hp v0 d b.u y' r hy' fun x hx => by have := h x hx; omega
theorem rch_all {l : La} {v : Nat} {a : Arc} (v0 : v ≠ 0) {du : Nat} (hu : Rch (fup l v (some a)) du a.u) : ∀ (d w : Nat), Rch l d w → ∃ d', Rch (fup l v (some a)) d' w
  | _, _, .zero => ⟨0, .zero⟩
  | _, w, .succ (a := b) w0 e r => by
    by_cases hw : w = v
    · subst hw; exact ⟨_, .succ v0 fup_same hu⟩
    · obtain ⟨d', r'⟩ := rch_all v0 hu _ _ r
      exact ⟨_, .succ w0 (by rw [fup_ne hw]; exact e) r'⟩
theorem relaxed {S : LS} {p : Nat → Int} {g : Gn} {l : La} (I : RInv S p g l) (hp : Pot S p) {a : Arc} (ra : Res S a) {y : Int} (hy : g a.u = some y) (hb : ∀ x, g a.v = some x → x < y + a.g) : RInv S p (fup g a.v (some (y + a.g))) (fup l a.v (some a)) := by
  have pa := hp a ra
  have yle := I.le _ _ hy
  have v0 : a.v ≠ 0 := fun z => by
    rw [z] at hb pa
    have := hb 0 I.g0
    omega
  have ne : a.u ≠ a.v := fun z => by
    rw [z] at hy pa
    have := hb y hy
    omega
  have hq : ∀ x, g a.v = some x → p a.v - x > p a.u - y := fun x hx => by have := hb x hx; omega
  obtain ⟨du, ru⟩ := I.rch _ _ hy
  have ru' := rch_new (a := a) I hp v0 du a.u y ru hy hq
  refine ⟨by rw [fup_ne (fun z => v0 z.symm)]; exact I.g0, fun v x hx => ?_, fun v x vz hx => ?_, fun v x hx => ?_⟩
  · by_cases hv : v = a.v
    · subst hv; rw [fup_same] at hx; cases hx; omega
    · rw [fup_ne hv] at hx; exact I.le v x hx
  · by_cases hv : v = a.v
    · subst hv
      rw [fup_same] at hx; cases hx
      exact ⟨a, fup_same, ra, rfl, y, by rw [fup_ne ne]; exact hy, Int.le_refl _⟩
    · rw [fup_ne hv] at hx
      obtain ⟨b, e, rb, bv, z, hz, hle⟩ := I.la v x vz hx
      refine ⟨b, by rw [fup_ne hv]; exact e, rb, bv, ?_⟩
      by_cases hbu : b.u = a.v
      · rw [hbu] at hz ⊢
        have := hb z hz
        exact ⟨_, fup_same, by omega⟩
      · exact ⟨z, by rw [fup_ne hbu]; exact hz, hle⟩
  · by_cases hv : v = a.v
    · subst hv; exact ⟨_, .succ v0 fup_same ru'⟩
    · rw [fup_ne hv] at hx
      obtain ⟨d, r⟩ := I.rch v x hx
      exact rch_all v0 ru' d v r
/-- one arc looked at; whether anything changed -/
structure RS where
  g : Gn
  l : La
  ch : Bool
def relax (s : RS) (a : Arc) : RS := match s.g a.u with
  | none => s
  | some y => match s.g a.v with
    | none => ⟨fup s.g a.v (some (y + a.g)), fup s.l a.v (some a), true⟩
    | some x => if y + a.g > x then ⟨fup s.g a.v (some (y + a.g)), fup s.l a.v (some a), true⟩ else s
def pass (arcs : List Arc) (s : RS) : RS := arcs.foldl relax ⟨s.g, s.l, false⟩
/-- what a change makes less -/
def nones (n : Nat) (g : Gn) : Int := sumN n fun v => if g v = none then 1 else 0
def gap (n : Nat) (p : Nat → Int) (g : Gn) : Int := sumN n fun v => match g v with
  | none => 0
  | some x => p v - p 0 - x
def Less (n : Nat) (p : Nat → Int) (g' g : Gn) : Prop := nones n g' < nones n g ∨ (nones n g' = nones n g ∧ gap n p g' < gap n p g)
theorem Less.trans {n : Nat} {p : Nat → Int} {a b c : Gn} (h : Less n p a b) (k : Less n p b c) : Less n p a c := by
  unfold Less at *; omega
theorem nones_nn {n : Nat} {g : Gn} : 0 ≤ nones n g := sumN_nonneg fun i _ => by split <;> omega
theorem gap_nn {S : LS} {n : Nat} {p : Nat → Int} {g : Gn} {l : La} (I : RInv S p g l) : 0 ≤ gap n p g := sumN_nonneg fun i _ => by
  split
  · exact Int.le_refl _
  · rename_i x hx; have := I.le i x hx; omega
theorem relax_ok {S : LS} {p : Nat → Int} {s : RS} (h : Fix S) (I : RInv S p s.g s.l) (hp : Pot S p) {a : Arc} (ra : Res S a) :
    RInv S p (relax s a).g (relax s a).l ∧ ((relax s a = s ∧ ∀ y, s.g a.u = some y → ∃ x, s.g a.v = some x ∧ y + a.g ≤ x) ∨ ((relax s a).ch = true ∧ Less (S.n + 1) p (relax s a).g s.g)) := by
  have hv := (ra.bds h).2
  have upd : ∀ y, s.g a.u = some y → (∀ x, s.g a.v = some x → x < y + a.g) → Less (S.n + 1) p (fup s.g a.v (some (y + a.g))) s.g := fun y hy hb => by
    unfold Less nones gap
    cases e : s.g a.v with
    | none =>
      left
      rw [sumN_fup (f := fun v => if s.g v = none then 1 else 0) (g := fun v => if fup s.g a.v (some (y + a.g)) v = none then 1 else 0) (i := a.v) (by omega) (fun j hj => by rw [fup_ne hj])]
      simp only [fup_same, e]
      simp
      omega
    | some x =>
      right
      have := hb x e
      refine ⟨?_, ?_⟩
      · rw [sumN_fup (f := fun v => if s.g v = none then 1 else 0) (g := fun v => if fup s.g a.v (some (y + a.g)) v = none then 1 else 0) (i := a.v) (by omega) (fun j hj => by rw [fup_ne hj])]
        simp only [fup_same, e]
        simp
      · rw [sumN_fup (f := fun v => match s.g v with | none => 0 | some x => p v - p 0 - x) (g := fun v => match fup s.g a.v (some (y + a.g)) v with | none => 0 | some x => p v - p 0 - x) (i := a.v) (by omega) (fun j hj => by rw [fup_ne hj])]
        simp only [fup_same, e]
        omega
  unfold relax
  cases e : s.g a.u with
  | none => exact ⟨I, .inl ⟨rfl, fun y hy => by cases hy⟩⟩
  | some y =>
    simp only
    cases e2 : s.g a.v with
    | none =>
      have hb : ∀ x, s.g a.v = some x → x < y + a.g := fun x hx => by rw [e2] at hx; cases hx
      exact ⟨relaxed I hp ra e hb, .inr ⟨rfl, upd y e hb⟩⟩
    | some x =>
      simp only
      by_cases hgt : y + a.g > x
      · rw [if_pos hgt]
        have hb : ∀ z, s.g a.v = some z → z < y + a.g := fun z hz => by rw [e2] at hz; cases hz; omega
        exact ⟨relaxed I hp ra e hb, .inr ⟨rfl, upd y e hb⟩⟩
      · rw [if_neg hgt]
        exact ⟨I, .inl ⟨rfl, fun y' hy' => by cases hy'; exact ⟨x, rfl, by omega⟩⟩⟩
theorem fold_ok {S : LS} {p : Nat → Int} (h : Fix S) (hp : Pot S p) (g0 : Gn) (l0 : La) : ∀ (arcs : List Arc) (s : RS), (∀ a ∈ arcs, Res S a) → RInv S p s.g s.l → ((s = ⟨g0, l0, false⟩) ∨ (s.ch = true ∧ Less (S.n + 1) p s.g g0)) →
    RInv S p (arcs.foldl relax s).g (arcs.foldl relax s).l ∧ ((arcs.foldl relax s = ⟨g0, l0, false⟩ ∧ ∀ a ∈ arcs, ∀ y, g0 a.u = some y → ∃ x, g0 a.v = some x ∧ y + a.g ≤ x) ∨ ((arcs.foldl relax s).ch = true ∧ Less (S.n + 1) p (arcs.foldl relax s).g g0))
  | [], s, _, I, q => ⟨I, q.elim (fun e => .inl ⟨e, fun _ z => (nomatch z)⟩) .inr⟩
  | a :: arcs, s, ha, I, q => by
    rw [List.foldl_cons]
    obtain ⟨I2, q2⟩ := relax_ok h I hp (ha a List.mem_cons_self)
    have ha2 : ∀ b ∈ arcs, Res S b := fun b hb => ha b (List.mem_cons_of_mem _ hb)
    rcases q2 with ⟨e, k⟩ | ⟨e, k⟩
    · rw [e]
      obtain ⟨I3, q3⟩ := fold_ok h hp g0 l0 arcs s ha2 I q
      refine ⟨I3, q3.elim (fun ⟨e3, k3⟩ => .inl ⟨e3, fun b hb y hy => ?_⟩) .inr⟩
      rcases List.mem_cons.mp hb with rfl | hb
      · rcases q with rfl | ⟨q, _⟩
        · exact k y hy
        · exfalso
          have ch : ∀ (l : List Arc) (s : RS), s.ch = true → (l.foldl relax s).ch = true := fun l => by
            induction l with
            | nil => intro s h; exact h
            | cons c l ih =>
              intro s h
              rw [List.foldl_cons]
              apply ih
              unfold relax
              split
              · exact h
              · split
                · rfl
                · split
                  · rfl
                  · exact h
          have := ch arcs s q
          rw [e3] at this
          cases this
      · exact k3 b hb y hy
    · have q' : (relax s a = ⟨g0, l0, false⟩) ∨ ((relax s a).ch = true ∧ Less (S.n + 1) p (relax s a).g g0) := .inr ⟨e, by
        rcases q with rfl | ⟨_, q⟩
        · exact k
        · exact k.trans q⟩
      obtain ⟨I3, q3⟩ := fold_ok h hp g0 l0 arcs (relax s a) ha2 I2 q'
      have ch : ∀ (l : List Arc) (s : RS), s.ch = true → (l.foldl relax s).ch = true := fun l => by
        induction l with
        | nil => intro s h; exact h
        | cons c l ih =>
          intro s h
          rw [List.foldl_cons]
          apply ih
          unfold relax
          split
          · exact h
          · split
            · rfl
            · split
              · rfl
              · exact h
      refine ⟨I3, q3.elim (fun ⟨e3, _⟩ => ?_) .inr⟩
      have := ch arcs _ e
      rw [e3] at this
      cases this
def start : RS := ⟨fup (fun _ => none) 0 (some 0), fun _ => none, true⟩
theorem start_ok {S : LS} {p : Nat → Int} : RInv S p start.g start.l := by
  refine ⟨(fup_same : fup (fun _ => (none : Option Int)) 0 (some 0) 0 = some 0), fun v x h => ?_, fun v x v0 h => ?_, fun v x h => ?_⟩ <;> by_cases hv : v = 0
  · subst hv; unfold start at h; simp only [fup_same] at h; cases h; omega
  · unfold start at h; simp only [fup_ne hv] at h; cases h
  · exact absurd hv v0
  · unfold start at h; simp only [fup_ne hv] at h; cases h
  · subst hv; exact ⟨0, .zero⟩
  · unfold start at h; simp only [fup_ne hv] at h; cases h
/-- passes until one changes nothing -/
inductive Run (arcs : List Arc) : RS → RS → Prop where
  | stop {s : RS} : (pass arcs s).ch = false → Run arcs s (pass arcs s)
  | go {s s' : RS} : (pass arcs s).ch = true → Run arcs (pass arcs s) s' → Run arcs s s'
/-- what is told at last -/
structure Told (S : LS) (p : Nat → Int) (arcs : List Arc) (g : Gn) (l : La) : Prop extends RInv S p g l where
  fin : ∀ a ∈ arcs, ∀ y, g a.u = some y → ∃ x, g a.v = some x ∧ y + a.g ≤ x
theorem passes_end {S : LS} {p : Nat → Int} (h : Fix S) (hp : Pot S p) {arcs : List Arc} (ha : ∀ a ∈ arcs, Res S a) : ∀ (N M : Nat) (s : RS), nones (S.n + 1) s.g ≤ N → gap (S.n + 1) p s.g ≤ M → RInv S p s.g s.l → ∃ s', Run arcs s s' ∧ s'.ch = false ∧ Told S p arcs s'.g s'.l := by
  have one : ∀ s : RS, RInv S p s.g s.l → (∃ s', Run arcs s s' ∧ s'.ch = false ∧ Told S p arcs s'.g s'.l) ∨ ((pass arcs s).ch = true ∧ RInv S p (pass arcs s).g (pass arcs s).l ∧ Less (S.n + 1) p (pass arcs s).g s.g) := fun s I => by
    obtain ⟨I2, q⟩ := fold_ok h hp s.g s.l arcs ⟨s.g, s.l, false⟩ ha I (.inl rfl)
    rcases q with ⟨e, k⟩ | ⟨e, k⟩
    · left
      have e' : pass arcs s = ⟨s.g, s.l, false⟩ := e
      refine ⟨pass arcs s, .stop (by rw [e']), by rw [e'], ?_⟩
      rw [e']
      exact { I with fin := k }
    · exact .inr ⟨e, I2, k⟩
  have step : ∀ (N M : Nat) (s : RS), RInv S p s.g s.l → (∀ N' M' : Nat, N' < N ∨ (N' = N ∧ M' < M) → ∀ s : RS, nones (S.n + 1) s.g ≤ N' → gap (S.n + 1) p s.g ≤ M' → RInv S p s.g s.l → ∃ s', Run arcs s s' ∧ s'.ch = false ∧ Told S p arcs s'.g s'.l) → nones (S.n + 1) s.g ≤ N → gap (S.n + 1) p s.g ≤ M → ∃ s', Run arcs s s' ∧ s'.ch = false ∧ Told S p arcs s'.g s'.l := fun N M s I ih hN hM => by
    rcases one s I with q | ⟨e, I2, k⟩
    · exact q
    · have a1 := nones_nn (n := S.n + 1) (g := (pass arcs s).g)
      have a2 := gap_nn (n := S.n + 1) I2
      unfold Less at k
      obtain ⟨s', r, c, t⟩ := ih (nones (S.n + 1) (pass arcs s).g).toNat (gap (S.n + 1) p (pass arcs s).g).toNat (by omega) (pass arcs s) (by omega) (by omega) I2
      exact ⟨s', .go e r, c, t⟩
  intro N
  induction N using Nat.strongRecOn with
  | _ N ihN =>
    intro M
    induction M using Nat.strongRecOn with
    | _ M ihM =>
      intro s hN hM I
      refine step N M s I (fun N' M' hlt s2 hN2 hM2 I2 => ?_) hN hM
      rcases hlt with q | ⟨q1, q⟩
      · exact ihN N' q M' s2 hN2 hM2 I2
      · subst q1; exact ihM M' q s2 hN2 hM2 I2
theorem roads {S : LS} {p : Nat → Int} (h : Fix S) (hp : Pot S p) {arcs : List Arc} (ha : ∀ a, a ∈ arcs ↔ Res S a) : ∃ s', Run arcs start s' ∧ s'.ch = false ∧ Told S p arcs s'.g s'.l := by
  refine passes_end h hp (fun a q => (ha a).mp q) (nones (S.n + 1) start.g).toNat (gap (S.n + 1) p start.g).toNat start ?_ ?_ start_ok
  · have := nones_nn (n := S.n + 1) (g := start.g); omega
  · have := gap_nn (n := S.n + 1) (p := p) (S := S) (g := start.g) (l := start.l) start_ok; omega
/-- the told gains: a potential, with tight last arcs that lead to 0 -/
structure Road (S : LS) (g : Nat → Int) (l : La) : Prop where
  g0 : g 0 = 0
  pot : Pot S g
  la : ∀ v, v ≠ 0 → v ≤ S.n → ∃ a, l v = some a ∧ Res S a ∧ a.v = v ∧ g a.v = g a.u + a.g
  rch : ∀ v, v ≤ S.n → ∃ d, Rch l d v
theorem Told.road {S : LS} {p : Nat → Int} {arcs : List Arc} {g : Gn} {l : La} (h : Fix S) (ha : ∀ a, a ∈ arcs ↔ Res S a) (t : Told S p arcs g l) : (∀ v, v ≤ S.n → ∃ x, g v = some x) ∧ Road S (fun v => (g v).getD 0) l := by
  have all : ∀ v, v ≤ S.n → ∃ x, g v = some x := fun v => by
    induction v with
    | zero => intro _; exact ⟨0, t.g0⟩
    | succ v ih =>
      intro hv
      obtain ⟨y, hy⟩ := ih (by omega)
      obtain ⟨x, hx, _⟩ := t.fin ⟨v, v + 1, 0, .idle, v⟩ ((ha _).mpr (.idle v (by omega))) y hy
      exact ⟨x, hx⟩
  have pot : Pot S (fun v => (g v).getD 0) := fun a ra => by
    obtain ⟨hu, hv⟩ := ra.bds h
    obtain ⟨y, hy⟩ := all a.u hu
    obtain ⟨x, hx, hle⟩ := t.fin a ((ha a).mpr ra) y hy
    simp only [hy, hx, Option.getD_some]; exact hle
  refine ⟨all, by simp only [t.g0, Option.getD_some], pot, fun v v0 hv => ?_, fun v hv => ?_⟩
  · obtain ⟨x, hx⟩ := all v hv
    obtain ⟨a, e, ra, av, y, hy, hle⟩ := t.la v x v0 hx
    refine ⟨a, e, ra, av, ?_⟩
    have := pot a ra
    simp only [av, hx, hy, Option.getD_some] at this ⊢
    omega
  · obtain ⟨x, hx⟩ := all v hv
    exact t.rch v x hx
def go (S : LS) (a : Arc) : LS := match a.k with
  | .idle => { S with idle := fup S.idle a.i (S.idle a.i + 1) }
  | .unidle => { S with idle := fup S.idle a.i (S.idle a.i - 1) }
  | .fill => { S with filled := fup S.filled a.i (S.filled a.i + 1) }
  | .unfill => { S with filled := fup S.filled a.i (S.filled a.i - 1) }
  | .take => { S with taken := fup S.taken a.i true }
  | .leave => { S with taken := fup S.taken a.i false }
theorem go_fix {S : LS} {a : Arc} : (go S a).n = S.n ∧ (go S a).m = S.m ∧ (go S a).sp = S.sp ∧ (go S a).must = S.must ∧ (go S a).great = S.great := by
  unfold go; split <;> exact ⟨rfl, rfl, rfl, rfl, rfl⟩
theorem go_okf {S : LS} {a : Arc} (h : Okf S) (r : Res S a) : Okf (go S a) := by
  cases r with
  | idle k hk => exact ⟨⟨h.sp, h.gr, h.mu⟩, h.fi, fun j hj => by
      show 0 ≤ fup S.idle k (S.idle k + 1) j
      have := h.id j hj
      by_cases e : j = k
      · subst e; rw [fup_same]; omega
      · rw [fup_ne e]; exact this⟩
  | unidle k hk q => exact ⟨⟨h.sp, h.gr, h.mu⟩, h.fi, fun j hj => by
      show 0 ≤ fup S.idle k (S.idle k - 1) j
      have := h.id j hj
      by_cases e : j = k
      · subst e; rw [fup_same]; omega
      · rw [fup_ne e]; exact this⟩
  | fill k hk q => exact ⟨⟨h.sp, h.gr, h.mu⟩, fun j hj => by
      show 0 ≤ fup S.filled k (S.filled k + 1) j ∧ fup S.filled k (S.filled k + 1) j ≤ S.must j
      have := h.fi j hj
      by_cases e : j = k
      · subst e; rw [fup_same]; omega
      · rw [fup_ne e]; exact this, h.id⟩
  | unfill k hk q => exact ⟨⟨h.sp, h.gr, h.mu⟩, fun j hj => by
      show 0 ≤ fup S.filled k (S.filled k - 1) j ∧ fup S.filled k (S.filled k - 1) j ≤ S.must j
      have := h.fi j hj
      by_cases e : j = k
      · subst e; rw [fup_same]; omega
      · rw [fup_ne e]; exact this, h.id⟩
  | take i hi q => exact ⟨⟨h.sp, h.gr, h.mu⟩, h.fi, h.id⟩
  | leave i hi q => exact ⟨⟨h.sp, h.gr, h.mu⟩, h.fi, h.id⟩
theorem load_fup {S : LS} {i : Nat} {b : Bool} (hi : i < S.m) (k : Nat) : loadK { S with taken := fup S.taken i b } k = loadK S k - (if S.taken i = true ∧ (S.sp i).b ≤ k ∧ k < (S.sp i).e then 1 else 0) + (if b = true ∧ (S.sp i).b ≤ k ∧ k < (S.sp i).e then 1 else 0) := by
  unfold loadK
  show sumN S.m _ = _
  rw [sumN_fup (f := fun i => if S.taken i = true ∧ (S.sp i).b ≤ k ∧ k < (S.sp i).e then 1 else 0) (g := fun j => if fup S.taken i b j = true ∧ (S.sp j).b ≤ k ∧ k < (S.sp j).e then 1 else 0) hi (fun j hj => by rw [fup_ne hj])]
  simp only [fup_same]
/-- how a cut changes -/
theorem go_tot {S : LS} {a : Arc} (h : Fix S) (r : Res S a) (k : Nat) : tot (go S a) k = tot S k + (if a.u ≤ k ∧ k < a.v then 1 else 0) - (if a.v ≤ k ∧ k < a.u then 1 else 0) := by
  cases r with
  | idle j hj =>
    show S.filled k + fup S.idle j (S.idle j + 1) k + loadK S k = _
    unfold tot
    show _ = S.filled k + S.idle k + loadK S k + (if j ≤ k ∧ k < j + 1 then 1 else 0) - (if j + 1 ≤ k ∧ k < j then 1 else 0)
    rw [if_neg (by omega : ¬ (j + 1 ≤ k ∧ k < j))]
    by_cases e : k = j
    · subst e; rw [fup_same, if_pos (by omega)]; omega
    · rw [fup_ne e, if_neg (by omega)]; omega
  | unidle j hj q =>
    show S.filled k + fup S.idle j (S.idle j - 1) k + loadK S k = _
    unfold tot
    show _ = S.filled k + S.idle k + loadK S k + (if j + 1 ≤ k ∧ k < j then 1 else 0) - (if j ≤ k ∧ k < j + 1 then 1 else 0)
    rw [if_neg (by omega : ¬ (j + 1 ≤ k ∧ k < j))]
    by_cases e : k = j
    · subst e; rw [fup_same, if_pos (by omega)]; omega
    · rw [fup_ne e, if_neg (by omega)]; omega
  | fill j hj q =>
    show fup S.filled j (S.filled j + 1) k + S.idle k + loadK S k = _
    unfold tot
    show _ = S.filled k + S.idle k + loadK S k + (if j ≤ k ∧ k < j + 1 then 1 else 0) - (if j + 1 ≤ k ∧ k < j then 1 else 0)
    rw [if_neg (by omega : ¬ (j + 1 ≤ k ∧ k < j))]
    by_cases e : k = j
    · subst e; rw [fup_same, if_pos (by omega)]; omega
    · rw [fup_ne e, if_neg (by omega)]; omega
  | unfill j hj q =>
    show fup S.filled j (S.filled j - 1) k + S.idle k + loadK S k = _
    unfold tot
    show _ = S.filled k + S.idle k + loadK S k + (if j + 1 ≤ k ∧ k < j then 1 else 0) - (if j ≤ k ∧ k < j + 1 then 1 else 0)
    rw [if_neg (by omega : ¬ (j + 1 ≤ k ∧ k < j))]
    by_cases e : k = j
    · subst e; rw [fup_same, if_pos (by omega)]; omega
    · rw [fup_ne e, if_neg (by omega)]; omega
  | take i hi q =>
    have hs := h.sp i hi
    show S.filled k + S.idle k + loadK { S with taken := fup S.taken i true } k = _
    rw [load_fup hi, q]
    unfold tot
    show _ = S.filled k + S.idle k + loadK S k + (if (S.sp i).b ≤ k ∧ k < (S.sp i).e then 1 else 0) - (if (S.sp i).e ≤ k ∧ k < (S.sp i).b then 1 else 0)
    rw [if_neg (by omega : ¬ ((S.sp i).e ≤ k ∧ k < (S.sp i).b))]
    simp
    omega
  | leave i hi q =>
    have hs := h.sp i hi
    show S.filled k + S.idle k + loadK { S with taken := fup S.taken i false } k = _
    rw [load_fup hi, q]
    unfold tot
    show _ = S.filled k + S.idle k + loadK S k + (if (S.sp i).e ≤ k ∧ k < (S.sp i).b then 1 else 0) - (if (S.sp i).b ≤ k ∧ k < (S.sp i).e then 1 else 0)
    rw [if_neg (by omega : ¬ ((S.sp i).e ≤ k ∧ k < (S.sp i).b))]
    simp
    omega
/-- what can be done behind an arc: what could be done, or the arc turned about -/
theorem go_res {S : LS} {a b : Arc} (r : Res S a) (rb : Res (go S a) b) : Res S b ∨ (b.u = a.v ∧ b.v = a.u ∧ b.g = 0 - a.g) := by
  cases r with
  | idle k hk =>
    cases rb with
    | idle j hj => exact .inl (.idle j hj)
    | fill j hj q => exact .inl (.fill j hj q)
    | unidle j hj q =>
      by_cases e : j = k
      · subst e; exact .inr ⟨rfl, rfl, rfl⟩
      · have q' : 0 < fup S.idle k (S.idle k + 1) j := q
        rw [fup_ne e] at q'
        exact .inl (.unidle j hj q')
    | unfill j hj q => exact .inl (.unfill j hj q)
    | take i hi q => exact .inl (.take i hi q)
    | leave i hi q => exact .inl (.leave i hi q)
  | unidle k hk hq =>
    cases rb with
    | idle j hj => exact .inl (.idle j hj)
    | fill j hj q => exact .inl (.fill j hj q)
    | unidle j hj q =>
      have q' : 0 < fup S.idle k (S.idle k - 1) j := q
      by_cases e : j = k
      · subst e; exact .inl (.unidle j hj hq)
      · rw [fup_ne e] at q'
        exact .inl (.unidle j hj q')
    | unfill j hj q => exact .inl (.unfill j hj q)
    | take i hi q => exact .inl (.take i hi q)
    | leave i hi q => exact .inl (.leave i hi q)
  | fill k hk hq =>
    cases rb with
    | idle j hj => exact .inl (.idle j hj)
    | fill j hj q =>
      have q' : fup S.filled k (S.filled k + 1) j < S.must j := q
      by_cases e : j = k
      · subst e; exact .inl (.fill j hj hq)
      · rw [fup_ne e] at q'
        exact .inl (.fill j hj q')
    | unidle j hj q => exact .inl (.unidle j hj q)
    | unfill j hj q =>
      by_cases e : j = k
      · subst e; exact .inr ⟨rfl, rfl, rfl⟩
      · have q' : 0 < fup S.filled k (S.filled k + 1) j := q
        rw [fup_ne e] at q'
        exact .inl (.unfill j hj q')
    | take i hi q => exact .inl (.take i hi q)
    | leave i hi q => exact .inl (.leave i hi q)
  | unfill k hk hq =>
    cases rb with
    | idle j hj => exact .inl (.idle j hj)
    | fill j hj q =>
      by_cases e : j = k
      · subst e; exact .inr ⟨rfl, rfl, by show S.great = 0 - (0 - S.great); omega⟩
      · have q' : fup S.filled k (S.filled k - 1) j < S.must j := q
        rw [fup_ne e] at q'
        exact .inl (.fill j hj q')
    | unidle j hj q => exact .inl (.unidle j hj q)
    | unfill j hj q =>
      have q' : 0 < fup S.filled k (S.filled k - 1) j := q
      by_cases e : j = k
      · subst e; exact .inl (.unfill j hj hq)
      · rw [fup_ne e] at q'
        exact .inl (.unfill j hj q')
    | take i hi q => exact .inl (.take i hi q)
    | leave i hi q => exact .inl (.leave i hi q)
  | take i hi hq =>
    cases rb with
    | idle j hj => exact .inl (.idle j hj)
    | fill j hj q => exact .inl (.fill j hj q)
    | unidle j hj q => exact .inl (.unidle j hj q)
    | unfill j hj q => exact .inl (.unfill j hj q)
    | take j hj q =>
      have q' : fup S.taken i true j = false := q
      by_cases e : j = i
      · subst e; rw [fup_same] at q'; cases q'
      · rw [fup_ne e] at q'; exact .inl (.take j hj q')
    | leave j hj q =>
      by_cases e : j = i
      · subst e; exact .inr ⟨rfl, rfl, rfl⟩
      · have q' : fup S.taken i true j = true := q
        rw [fup_ne e] at q'; exact .inl (.leave j hj q')
  | leave i hi hq =>
    cases rb with
    | idle j hj => exact .inl (.idle j hj)
    | fill j hj q => exact .inl (.fill j hj q)
    | unidle j hj q => exact .inl (.unidle j hj q)
    | unfill j hj q => exact .inl (.unfill j hj q)
    | take j hj q =>
      by_cases e : j = i
      · subst e; exact .inr ⟨rfl, rfl, by show (S.sp j).w = 0 - (0 - (S.sp j).w); omega⟩
      · have q' : fup S.taken i false j = false := q
        rw [fup_ne e] at q'; exact .inl (.take j hj q')
    | leave j hj q =>
      have q' : fup S.taken i false j = true := q
      by_cases e : j = i
      · subst e; rw [fup_same] at q'; cases q'
      · rw [fup_ne e] at q'; exact .inl (.leave j hj q')
/-- an arc to another node can still be gone -/
theorem go_keep {S : LS} {a b : Arc} (r : Res S a) (rb : Res S b) (ne : b.v ≠ a.v) : Res (go S a) b := by
  cases r with
  | idle k hk =>
    cases rb with
    | idle j hj => exact .idle j hj
    | fill j hj q => exact .fill j hj q
    | unidle j hj q =>
      refine .unidle j hj ?_
      show 0 < fup S.idle k (S.idle k + 1) j
      by_cases e : j = k
      · subst e; rw [fup_same]; omega
      · rw [fup_ne e]; exact q
    | unfill j hj q => exact .unfill j hj q
    | take i hi q => exact .take i hi q
    | leave i hi q => exact .leave i hi q
  | unidle k hk hq =>
    cases rb with
    | idle j hj => exact .idle j hj
    | fill j hj q => exact .fill j hj q
    | unidle j hj q =>
      refine .unidle j hj ?_
      show 0 < fup S.idle k (S.idle k - 1) j
      rw [fup_ne (fun e => ne (by subst e; rfl))]; exact q
    | unfill j hj q => exact .unfill j hj q
    | take i hi q => exact .take i hi q
    | leave i hi q => exact .leave i hi q
  | fill k hk hq =>
    cases rb with
    | idle j hj => exact .idle j hj
    | fill j hj q =>
      refine .fill j hj ?_
      show fup S.filled k (S.filled k + 1) j < S.must j
      rw [fup_ne (fun e => ne (by subst e; rfl))]; exact q
    | unidle j hj q => exact .unidle j hj q
    | unfill j hj q =>
      refine .unfill j hj ?_
      show 0 < fup S.filled k (S.filled k + 1) j
      by_cases e : j = k
      · subst e; rw [fup_same]; omega
      · rw [fup_ne e]; exact q
    | take i hi q => exact .take i hi q
    | leave i hi q => exact .leave i hi q
  | unfill k hk hq =>
    cases rb with
    | idle j hj => exact .idle j hj
    | fill j hj q =>
      refine .fill j hj ?_
      show fup S.filled k (S.filled k - 1) j < S.must j
      by_cases e : j = k
      · subst e; rw [fup_same]; omega
      · rw [fup_ne e]; exact q
    | unidle j hj q => exact .unidle j hj q
    | unfill j hj q =>
      refine .unfill j hj ?_
      show 0 < fup S.filled k (S.filled k - 1) j
      rw [fup_ne (fun e => ne (by subst e; rfl))]; exact q
    | take i hi q => exact .take i hi q
    | leave i hi q => exact .leave i hi q
  | take k hk hq =>
    cases rb with
    | idle j hj => exact .idle j hj
    | fill j hj q => exact .fill j hj q
    | unidle j hj q => exact .unidle j hj q
    | unfill j hj q => exact .unfill j hj q
    | take j hj q =>
      refine .take j hj ?_
      show fup S.taken k true j = false
      rw [fup_ne (fun e => ne (by subst e; rfl))]; exact q
    | leave j hj q =>
      refine .leave j hj ?_
      show fup S.taken k true j = true
      by_cases e : j = k
      · subst e; exact fup_same
      · rw [fup_ne e]; exact q
  | leave k hk hq =>
    cases rb with
    | idle j hj => exact .idle j hj
    | fill j hj q => exact .fill j hj q
    | unidle j hj q => exact .unidle j hj q
    | unfill j hj q => exact .unfill j hj q
    | take j hj q =>
      refine .take j hj ?_
      show fup S.taken k false j = false
      by_cases e : j = k
      · subst e; exact fup_same
      · rw [fup_ne e]; exact q
    | leave j hj q =>
      refine .leave j hj ?_
      show fup S.taken k false j = true
      rw [fup_ne (fun e => ne (by subst e; rfl))]; exact q
/-- the gain of all that was sent -/
def val (S : LS) : Int := sumN S.m (fun i => if S.taken i = true then (S.sp i).w else 0) + sumN S.n S.filled * S.great
theorem go_val {S : LS} {a : Arc} (r : Res S a) : val (go S a) = val S + a.g := by
  cases r with
  | idle k hk => show val S = val S + 0; omega
  | unidle k hk q => show val S = val S + 0; omega
  | fill k hk q =>
    show sumN S.m (fun i => if S.taken i = true then (S.sp i).w else 0) + sumN S.n (fup S.filled k (S.filled k + 1)) * S.great = val S + S.great
    rw [sumN_fup (f := S.filled) (i := k) hk (fun j hj => fup_ne hj), fup_same]
    unfold val
    rw [show sumN S.n S.filled - S.filled k + (S.filled k + 1) = sumN S.n S.filled + 1 by omega, Int.add_mul]; omega
  | unfill k hk q =>
    show sumN S.m (fun i => if S.taken i = true then (S.sp i).w else 0) + sumN S.n (fup S.filled k (S.filled k - 1)) * S.great = val S + (0 - S.great)
    rw [sumN_fup (f := S.filled) (i := k) hk (fun j hj => fup_ne hj), fup_same]
    unfold val
    rw [show sumN S.n S.filled - S.filled k + (S.filled k - 1) = sumN S.n S.filled + -1 by omega, Int.add_mul]; omega
  | take i hi q =>
    show sumN S.m (fun j => if fup S.taken i true j = true then (S.sp j).w else 0) + sumN S.n S.filled * S.great = val S + (S.sp i).w
    rw [sumN_fup (f := fun j => if S.taken j = true then (S.sp j).w else 0) (g := fun j => if fup S.taken i true j = true then (S.sp j).w else 0) hi (fun j hj => by rw [fup_ne hj]), fup_same, q]
    unfold val
    simp; omega
  | leave i hi q =>
    show sumN S.m (fun j => if fup S.taken i false j = true then (S.sp j).w else 0) + sumN S.n S.filled * S.great = val S + (0 - (S.sp i).w)
    rw [sumN_fup (f := fun j => if S.taken j = true then (S.sp j).w else 0) (g := fun j => if fup S.taken i false j = true then (S.sp j).w else 0) hi (fun j hj => by rw [fup_ne hj]), fup_same, q]
    unfold val
    simp; omega
theorem rch_uniq {l : La} : ∀ {d d' v : Nat}, Rch l d v → Rch l d' v → d = d'
  | _, _, _, .zero, .zero => rfl
  | _, _, _, .zero, .succ h _ _ => absurd rfl h
  | _, _, _, .succ h _ _, .zero => absurd rfl h
  | _, _, _, .succ _ e r, .succ _ e' r' => by
    rw [e] at e'; cases e'
    rw [rch_uniq r r']
/-- while a unit walks back: S is the line now, v the node -/
structure Walk (S : LS) (g : Nat → Int) (l : La) (U V : Int) (d v : Nat) : Prop where
  ok : Okf S
  pot : Pot S g
  tt : ∀ k, k < S.n → tot S k = U + (if v ≤ k then 1 else 0)
  rc : Rch l d v
  vn : v ≤ S.n
  vl : val S + g v = V
  la : ∀ w d', d' ≤ d → Rch l d' w → w ≠ 0 → w ≤ S.n → ∃ a, l w = some a ∧ Res S a ∧ a.v = w ∧ g a.v = g a.u + a.g
theorem walk_step {S : LS} {g : Nat → Int} {l : La} {U V : Int} {d v : Nat} (W : Walk S g l U V d v) (v0 : v ≠ 0) : ∃ a d', l v = some a ∧ Res S a ∧ d = d' + 1 ∧ Walk (go S a) g l U V d' a.u := by
  obtain ⟨a, e, ra, av, tight⟩ := W.la v d (Nat.le_refl _) W.rc v0 W.vn
  have rc := W.rc
  cases rc with
  | zero => exact absurd rfl v0
  | @succ d' _ b _ e' r =>
    rw [e] at e'; cases e'
    refine ⟨a, d', e, ra, rfl, go_okf W.ok ra, fun b rb => ?_, fun k hk => ?_, r, ?_, ?_, fun w d2 h2 rw_ w0 wn => ?_⟩
    · rcases go_res ra rb with q | ⟨q1, q2, q3⟩
      · exact W.pot b q
      · rw [q1, q2, q3]; omega
    · rw [go_fix.1] at hk
      rw [go_tot W.ok.toFix ra, W.tt k hk, av]
      by_cases h1 : a.u ≤ k <;> by_cases h2 : v ≤ k
      · rw [if_neg (by omega : ¬ (a.u ≤ k ∧ k < v)), if_neg (by omega : ¬ (v ≤ k ∧ k < a.u)), if_pos h1, if_pos h2]; omega
      · rw [if_pos (by omega : a.u ≤ k ∧ k < v), if_neg (by omega : ¬ (v ≤ k ∧ k < a.u)), if_pos h1, if_neg h2]; omega
      · rw [if_neg (by omega : ¬ (a.u ≤ k ∧ k < v)), if_pos (by omega : v ≤ k ∧ k < a.u), if_neg h1, if_pos h2]; omega
      · rw [if_neg (by omega : ¬ (a.u ≤ k ∧ k < v)), if_neg (by omega : ¬ (v ≤ k ∧ k < a.u)), if_neg h1, if_neg h2]; omega
    · rw [go_fix.1]; exact (ra.bds W.ok.toFix).1
    · have := W.vl; rw [go_val ra]; rw [av] at tight; omega
    · obtain ⟨b, eb, rb, bv, tb⟩ := W.la w d2 (by omega) rw_ w0 (by rw [go_fix.1] at wn; exact wn)
      refine ⟨b, eb, go_keep ra rb (fun z => ?_), bv, tb⟩
      have : w = v := by rw [← bv, z, av]
      subst this
      have := rch_uniq rw_ W.rc
      omega
/-- the whole walk -/
inductive Back (l : La) : LS → Nat → LS → Prop where
  | done {S : LS} : Back l S 0 S
  | step {S S' : LS} {v : Nat} {a : Arc} : v ≠ 0 → l v = some a → Res S a → Back l (go S a) a.u S' → Back l S v S'
theorem walk_back {g : Nat → Int} {l : La} {U V : Int} : ∀ (d : Nat) {S : LS} {v : Nat}, Walk S g l U V d v → ∃ S', Back l S v S' ∧ Walk S' g l U V 0 0
  | d, S, v, W => by
    by_cases v0 : v = 0
    · subst v0
      have := rch_uniq W.rc .zero
      subst this
      exact ⟨S, .done, W⟩
    · obtain ⟨a, d', e, ra, rfl, W'⟩ := walk_step W v0
      obtain ⟨S', b, W2⟩ := walk_back d' W'
      exact ⟨S', .step v0 e ra b, W2⟩
/-- a line that units were sent along -/
structure Sent (S : LS) (U : Int) : Prop where
  ok : Okf S
  tt : ∀ k, k < S.n → tot S k = U
  pot : ∃ p, Pot S p
theorem send {S : LS} {U : Int} {g : Nat → Int} {l : La} (h : Sent S U) (r : Road S g l) : ∃ S', Back l S S.n S' ∧ Sent S' (U + 1) ∧ val S' = val S + g S.n := by
  obtain ⟨d, rc⟩ := r.rch S.n (Nat.le_refl _)
  have W : Walk S g l U (val S + g S.n) d S.n := by
    refine ⟨h.ok, r.pot, fun k hk => by rw [h.tt k hk, if_neg (by omega)]; omega, rc, Nat.le_refl _, rfl, fun w d' _ rw_ w0 wn => r.la w w0 wn⟩
  obtain ⟨S', b, W'⟩ := walk_back d W
  exact ⟨S', b, ⟨W'.ok, fun k hk => by rw [W'.tt k hk, if_pos (Nat.zero_le _)], ⟨g, W'.pot⟩⟩, by have := W'.vl; rw [r.g0] at this; omega⟩
/-- sent as many as `most`, all that must be filled is filled -/
theorem all_filled {S : LS} {U : Int} {p : Nat → Int} (h : Okf S) (hp : Pot S p) (tt : ∀ k, k < S.n → tot S k = U) (hm : ∀ k, k < S.n → S.must k ≤ U) {k : Nat} (hk : k < S.n) : S.filled k = S.must k := by
  have hf := h.fi k hk
  rcases Int.lt_or_eq_of_le hf.2 with q | q
  · exfalso
    have g := h.gpos
    have p1 : p k + S.great ≤ p (k + 1) := hp _ (.fill k hk q)
    have hid : S.idle k = 0 := by
      have := h.id k hk
      rcases Int.lt_or_eq_of_le this with z | z
      · have : p (k + 1) + 0 ≤ p k := hp _ (.unidle k hk z)
        omega
      · exact z.symm
    have hl : 0 < loadK S k := by
      have t1 := tt k hk
      have := hm k hk
      unfold tot at t1
      omega
    have up : ∀ j, j < S.n → p j ≤ p (j + 1) := fun j hj => by have : p j + 0 ≤ p (j + 1) := hp _ (.idle j hj); omega
    have mono : ∀ (d a : Nat), a + d ≤ S.n → p a ≤ p (a + d) := fun d => by
      induction d with
      | zero => intro a _; exact Int.le_refl _
      | succ d ih => intro a ha; have := ih a (by omega); have := up (a + d) (by omega); show p a ≤ p (a + d + 1); omega
    have none : loadK S k = 0 := by
      unfold loadK
      rw [sumN_congr (g := fun _ => 0) (fun i hi => ?_), sumN_zero]
      rw [if_neg]
      rintro ⟨t, hb, he⟩
      have hs := h.sp i hi
      have p2 : p (S.sp i).e + (0 - (S.sp i).w) ≤ p (S.sp i).b := hp _ (.leave i hi t)
      have m1 := mono (k - (S.sp i).b) (S.sp i).b (by omega)
      have m2 := mono ((S.sp i).e - (k + 1)) (k + 1) (by omega)
      rw [show (S.sp i).b + (k - (S.sp i).b) = k by omega] at m1
      rw [show k + 1 + ((S.sp i).e - (k + 1)) = (S.sp i).e by omega] at m2
      have := h.wlt hi
      omega
    omega
  · exact q
theorem pot_up {S : LS} {p : Nat → Int} (hp : Pot S p) {j : Nat} (hj : j < S.n) : p j ≤ p (j + 1) := by have : p j + 0 ≤ p (j + 1) := hp _ (.idle j hj); omega
/-- the prices: no more than the gains' steps, nor than gr -/
def price (p : Nat → Int) (gr : Nat → Int) (k : Nat) : Int := if gr k < p (k + 1) - p k then gr k else p (k + 1) - p k
def tollN (n : Nat) (pr : Nat → Int) (s : Sp3) : Int := sumN n fun k => if s.b ≤ k ∧ k < s.e then pr k else 0
theorem price_nn {S : LS} {p gr : Nat → Int} (hp : Pot S p) (hg : ∀ k, k < S.n → 0 ≤ gr k) {k : Nat} (hk : k < S.n) : 0 ≤ price p gr k := by
  unfold price
  have := pot_up hp hk
  have := hg k hk
  split <;> omega
theorem price_idle {S : LS} {p gr : Nat → Int} (hp : Pot S p) (hg : ∀ k, k < S.n → 0 ≤ gr k) {k : Nat} (hk : k < S.n) (hi : 0 < S.idle k) : price p gr k = 0 := by
  have h0 := price_nn hp hg hk
  have h1 : p (k + 1) + 0 ≤ p k := hp _ (.unidle k hk hi)
  unfold price at *
  split <;> rename_i q
  · rw [if_pos q] at h0; omega
  · rw [if_neg q] at h0; omega
theorem toll_taken {S : LS} {p gr : Nat → Int} (h : Okf S) (hp : Pot S p) {i : Nat} (hi : i < S.m) (ht : S.taken i = true) : tollN S.n (price p gr) (S.sp i) ≤ (S.sp i).w := by
  have hs := h.sp i hi
  have p2 : p (S.sp i).e + (0 - (S.sp i).w) ≤ p (S.sp i).b := hp _ (.leave i hi ht)
  have t := sumN_tele (p := p) (b := (S.sp i).b) (e := (S.sp i).e) (n := S.n) (by omega) hs.2.1
  unfold tollN
  have le := sumN_le (f := fun k => if (S.sp i).b ≤ k ∧ k < (S.sp i).e then price p gr k else 0) (g := fun k => if (S.sp i).b ≤ k ∧ k < (S.sp i).e then p (k + 1) - p k else 0) (n := S.n) (fun k hk => by
    show (if (S.sp i).b ≤ k ∧ k < (S.sp i).e then price p gr k else 0) ≤ (if (S.sp i).b ≤ k ∧ k < (S.sp i).e then p (k + 1) - p k else 0)
    split
    · unfold price; split <;> omega
    · exact Int.le_refl _)
  omega
theorem toll_free {S : LS} {p gr : Nat → Int} (h : Okf S) (hp : Pot S p) (hg : ∀ k, k < S.n → 0 ≤ gr k) {i : Nat} (hi : i < S.m) (ht : S.taken i = false) (hgr : ∀ k, (S.sp i).b ≤ k → k < (S.sp i).e → (S.sp i).w ≤ gr k) : (S.sp i).w ≤ tollN S.n (price p gr) (S.sp i) := by
  have hs := h.sp i hi
  have p2 : p (S.sp i).b + (S.sp i).w ≤ p (S.sp i).e := hp _ (.take i hi ht)
  unfold tollN
  by_cases cap : ∃ k, (S.sp i).b ≤ k ∧ k < (S.sp i).e ∧ gr k < p (k + 1) - p k
  · obtain ⟨k, k1, k2, k3⟩ := cap
    have := sumN_single (f := fun k => if (S.sp i).b ≤ k ∧ k < (S.sp i).e then price p gr k else 0) (i := k) (n := S.n) (by omega) (fun j hj => by
      show 0 ≤ (if (S.sp i).b ≤ j ∧ j < (S.sp i).e then price p gr j else 0)
      split
      · exact price_nn hp hg hj
      · exact Int.le_refl _)
    rw [if_pos ⟨k1, k2⟩] at this
    have e : price p gr k = gr k := by unfold price; rw [if_pos k3]
    have := hgr k k1 k2
    omega
  · have t := sumN_tele (p := p) (b := (S.sp i).b) (e := (S.sp i).e) (n := S.n) (by omega) hs.2.1
    rw [sumN_congr (g := fun k => if (S.sp i).b ≤ k ∧ k < (S.sp i).e then p (k + 1) - p k else 0) (fun k hk => ?_), t]
    · omega
    · split
      · rename_i q
        unfold price
        rw [if_neg (fun z => cap ⟨k, q.1, q.2, z⟩)]
      · rfl
/-- what the prices claim within limits is just what the taken are worth -/
theorem claim_is {S : LS} {U : Int} {p gr lim : Nat → Int} (h : Okf S) (hp : Pot S p) (hg : ∀ k, k < S.n → 0 ≤ gr k) (tt : ∀ k, k < S.n → tot S k = U) (hm : ∀ k, k < S.n → S.must k ≤ U)
    (hl : ∀ k, k < S.n → lim k = U - S.must k ∨ (U - S.must k < lim k ∧ loadK S k < U - S.must k)) (hgr : ∀ i k, i < S.m → (S.sp i).b ≤ k → k < (S.sp i).e → (S.sp i).w ≤ gr k) :
    (∀ k, k < S.n → loadK S k ≤ lim k) ∧ (∀ k, k < S.n → loadK S k < lim k → price p gr k = 0) ∧
    sumN S.n (fun k => price p gr k * lim k) + sumN S.m (fun i => max 0 ((S.sp i).w - tollN S.n (price p gr) (S.sp i))) = sumN S.m (fun i => if S.taken i = true then (S.sp i).w else 0) := by
  have ld : ∀ k, k < S.n → S.idle k = U - S.must k - loadK S k := fun k hk => by
    have := tt k hk
    have := all_filled h hp tt hm hk
    unfold tot at *; omega
  have a1 : ∀ k, k < S.n → loadK S k ≤ lim k := fun k hk => by
    have := ld k hk; have := h.id k hk; have := hl k hk; omega
  have a2 : ∀ k, k < S.n → loadK S k < lim k → price p gr k = 0 := fun k hk q => price_idle hp hg hk (by
    have := ld k hk; have := hl k hk; omega)
  refine ⟨a1, a2, ?_⟩
  have e1 : sumN S.n (fun k => price p gr k * lim k) = sumN S.m (fun i => if S.taken i = true then tollN S.n (price p gr) (S.sp i) else 0) := by
    rw [sumN_congr (g := fun k => sumN S.m (fun i => if S.taken i = true ∧ (S.sp i).b ≤ k ∧ k < (S.sp i).e then price p gr k else 0)) (fun k hk => ?_), sumN_swap]
    · refine sumN_congr fun i hi => ?_
      by_cases t : S.taken i = true
      · rw [if_pos t]
        unfold tollN
        refine sumN_congr fun k hk => ?_
        by_cases c : (S.sp i).b ≤ k ∧ k < (S.sp i).e
        · rw [if_pos ⟨t, c⟩, if_pos c]
        · rw [if_neg (fun z => c z.2), if_neg c]
      · rw [if_neg t, sumN_congr (g := fun _ => 0) (fun k _ => if_neg fun z => t z.1), sumN_zero]
    · have e : sumN S.m (fun i => if S.taken i = true ∧ (S.sp i).b ≤ k ∧ k < (S.sp i).e then price p gr k else 0) = loadK S k * price p gr k := by
        unfold loadK
        rw [← sumN_mul]
        refine sumN_congr fun i _ => ?_
        split <;> simp
      rw [e]
      rcases Int.lt_or_eq_of_le (a1 k hk) with q | q
      · rw [a2 k hk q]; simp
      · rw [q, Int.mul_comm]
  rw [e1, ← sumN_add]
  refine sumN_congr fun i hi => ?_
  by_cases t : S.taken i = true
  · rw [if_pos t, if_pos t]
    have := toll_taken (gr := gr) h hp hi t
    rw [Int.max_eq_right (by omega)]; omega
  · have t' : S.taken i = false := by cases e : S.taken i <;> simp_all
    rw [if_neg t, if_neg t]
    have := toll_free h hp hg hi t' (fun k k1 k2 => hgr i k hi k1 k2)
    rw [Int.max_eq_left (by omega)]; omega
end LN
set_option Elab.async false
set_option linter.all false
set_option maxRecDepth 100000
set_option maxHeartbeats 4000000
namespace DL
open PySem PySem.Spec PyProof.Rows L2 LN
def fnL (n : Nat) (f : Nat → D) : List D := (List.range n).map f
@[simp] theorem fnL_len {n : Nat} {f : Nat → D} : (fnL n f).length = n := by simp [fnL]
theorem fnL_at {n k : Nat} {f : Nat → D} (h : k < n) : atI (fnL n f) (k : Int) = some (f k) := by
  refine atI_nat ?_
  simp [fnL, h]
theorem fnL_ix {n k : Nat} (h : k < n) : ixN n (k : Int) = some k := by
  unfold ixN
  simp
  omega
theorem fnL_set {n k : Nat} {f : Nat → D} {d : D} : (fnL n f).set k d = fnL n (fup f k d) := by
  apply List.ext_getElem?
  intro i
  rw [List.getElem?_set]
  unfold fnL
  by_cases hi : k = i
  · subst hi
    rw [if_pos rfl]
    by_cases hk : k < n
    · simp [hk, fup_same]
    · simp [hk]
  · rw [if_neg hi]
    by_cases hk : i < n
    · simp [hk, fup_ne (fun z => hi z.symm)]
    · simp [hk]
theorem fnL_setE {α : Type} {n k : Nat} {f : Nat → α} {e : α → D} {x : α} : (fnL n fun v => e (f v)).set k (e x) = fnL n fun v => e (fup f k x v) := by
  rw [fnL_set]
  congr 1
  funext v
  unfold fup
  split <;> rfl
theorem fnL_congr {n : Nat} {f g : Nat → D} (h : ∀ i, i < n → f i = g i) : fnL n f = fnL n g := by
  unfold fnL
  exact List.map_congr_left fun i hi => h i (by simpa using hi)
theorem fnL_const {α : Type} {d : D} (xs : List α) : xs.map (fun _ => d) = fnL xs.length fun _ => d := by
  apply List.ext_getElem?
  intro i
  unfold fnL
  by_cases h : i < xs.length <;> simp [h]
def kdS : Kd → Str
  | .idle => "idle"
  | .fill => "fill"
  | .unidle => "unidle"
  | .unfill => "unfill"
  | .take => "take"
  | .leave => "leave"
def arcD (a : Arc) : D := .tup [.int (a.u : Nat), .int (a.v : Nat), .int a.g, .str (kdS a.k), .int (a.i : Nat)]
def arcP (a : Arc) : PyData := .tuple [.int (a.u : Nat), .int (a.v : Nat), .int a.g, .str (kdS a.k), .int (a.i : Nat)]
def sp3D (s : Sp3) : D := .tup [.int (s.b : Nat), .int (s.e : Nat), .int s.w]
def encG : Option Int → D
  | none => .non
  | some x => .int x
def encL : Option Arc → D
  | none => .non
  | some a => arcD a
@[simp ↓ high] theorem ixa_0 {a : Arc} {G : Gp} {Q : DK} : oIx (arcD a) (.int 0) G Q = Q (.int (a.u : Nat)) G := by simp [arcD, atI, ixN]
@[simp ↓ high] theorem ixa_1 {a : Arc} {G : Gp} {Q : DK} : oIx (arcD a) (.int 1) G Q = Q (.int (a.v : Nat)) G := by simp [arcD, atI, ixN]
@[simp ↓ high] theorem ixa_2 {a : Arc} {G : Gp} {Q : DK} : oIx (arcD a) (.int 2) G Q = Q (.int a.g) G := by simp [arcD, atI, ixN]
def lineKs : List Str := ["own_spans", "own_must", "filled", "idle", "taken", "great"]
def lineDs (S : LN.LS) (af ai at_ : Addr) : List D := [.lst (fnL S.m fun i => sp3D (S.sp i)), .lst (fnL S.n fun k => .int (S.must k)), .ref af, .ref ai, .ref at_, .int S.great]
def lineO (S : LN.LS) (dx af ai at_ : Addr) : GO := .ins "Line" dx lineKs (lineDs S af ai at_)
section
variable {S : LN.LS} {af ai at_ : Addr}
@[simp] theorem lf_spans : lkF "own_spans" lineKs (lineDs S af ai at_) = some (.lst (fnL S.m fun i => sp3D (S.sp i))) := by simp [lineKs, lineDs]
@[simp] theorem lf_must : lkF "own_must" lineKs (lineDs S af ai at_) = some (.lst (fnL S.n fun k => .int (S.must k))) := by simp [lineKs, lineDs]
@[simp] theorem lf_filled : lkF "filled" lineKs (lineDs S af ai at_) = some (.ref af) := by simp [lineKs, lineDs]
@[simp] theorem lf_idle : lkF "idle" lineKs (lineDs S af ai at_) = some (.ref ai) := by simp [lineKs, lineDs]
@[simp] theorem lf_taken : lkF "taken" lineKs (lineDs S af ai at_) = some (.ref at_) := by simp [lineKs, lineDs]
@[simp] theorem lf_great : lkF "great" lineKs (lineDs S af ai at_) = some (.int S.great) := by simp [lineKs, lineDs]
@[simp] theorem lm_1 : ("piece_arcs" : Str) ∉ lineKs := by simp [lineKs]
@[simp] theorem lm_2 : ("span_arc" : Str) ∉ lineKs := by simp [lineKs]
@[simp] theorem lm_3 : ("arcs_left" : Str) ∉ lineKs := by simp [lineKs]
@[simp] theorem lm_4 : ("roads_told" : Str) ∉ lineKs := by simp [lineKs]
@[simp] theorem lm_5 : ("go_along" : Str) ∉ lineKs := by simp [lineKs]
@[simp] theorem lm_6 : ("send_unit" : Str) ∉ lineKs := by simp [lineKs]
@[simp] theorem lm_7 : ("greatest_over" : Str) ∉ lineKs := by simp [lineKs]
@[simp] theorem lm_8 : ("prices_now" : Str) ∉ lineKs := by simp [lineKs]
@[simp] theorem lm_9 : ("taken_now" : Str) ∉ lineKs := by simp [lineKs]
end
/-- a line stands at x -/
structure LnA (G : Gp) (x dx af ai at_ : Addr) (S : LN.LS) : Prop where
  ob : G x = some (lineO S dx af ai at_)
  fi : G af = some (.lst (fnL S.n fun k => .int (S.filled k)))
  id : G ai = some (.lst (fnL S.n fun k => .int (S.idle k)))
  tk : G at_ = some (.lst (fnL S.m fun i => .bl (S.taken i)))
  n1 : af ≠ ai
  n2 : af ≠ at_
  n3 : ai ≠ at_
  zn : S.n ≤ 1000
  zm : S.m ≤ 1000
/-- all but the line's three lists is as it was -/
def But3 (af ai at_ : Addr) (G G' : Gp) : Prop := ∀ b, b ≠ af → b ≠ ai → b ≠ at_ → G' b = G b
def pieceArcs (S : LN.LS) (k : Nat) : List Arc := [⟨k, k + 1, 0, .idle, k⟩] ++ (if S.filled k < S.must k then [⟨k, k + 1, S.great, .fill, k⟩] else []) ++ (if 0 < S.idle k then [⟨k + 1, k, 0, .unidle, k⟩] else []) ++ (if 0 < S.filled k then [⟨k + 1, k, 0 - S.great, .unfill, k⟩] else [])
def spanArc (S : LN.LS) (i : Nat) : Arc := if S.taken i = true then ⟨(S.sp i).e, (S.sp i).b, 0 - (S.sp i).w, .leave, i⟩ else ⟨(S.sp i).b, (S.sp i).e, (S.sp i).w, .take, i⟩
def arcsLeft (S : LN.LS) : List Arc := (List.range S.n).flatMap (pieceArcs S) ++ (List.range S.m).map (spanArc S)
theorem arcs_iff {S : LN.LS} (a : Arc) : a ∈ arcsLeft S ↔ Res S a := by
  unfold arcsLeft
  rw [List.mem_append, List.mem_flatMap, List.mem_map]
  constructor
  · rintro (⟨k, hk, h⟩ | ⟨i, hi, rfl⟩)
    · have hk : k < S.n := by simpa using hk
      unfold pieceArcs at h
      simp only [List.mem_append, List.mem_singleton] at h
      rcases h with ((h | h) | h) | h
      · subst h; exact .idle k hk
      · split at h
        · simp at h; subst h; exact .fill k hk (by assumption)
        · simp at h
      · split at h
        · simp at h; subst h; exact .unidle k hk (by assumption)
        · simp at h
      · split at h
        · simp at h; subst h; have := Res.unfill (S := S) k hk (by assumption); simpa using this
        · simp at h
    · have hi : i < S.m := by simpa using hi
      unfold spanArc
      split
      · exact .leave i hi (by assumption)
      · rename_i q; exact .take i hi (by simpa using q)
  · intro r
    cases r with
    | idle k hk => exact .inl ⟨k, by simpa using hk, by simp [pieceArcs]⟩
    | fill k hk q => exact .inl ⟨k, by simpa using hk, by simp [pieceArcs, q]⟩
    | unidle k hk q => exact .inl ⟨k, by simpa using hk, by simp [pieceArcs, q]⟩
    | unfill k hk q => exact .inl ⟨k, by simpa using hk, by simp [pieceArcs, q]⟩
    | take i hi q => exact .inr ⟨i, by simpa using hi, by simp [spanArc, q]⟩
    | leave i hi q => exact .inr ⟨i, by simpa using hi, by simp [spanArc, q]⟩
theorem piece_len {S : LN.LS} {k : Nat} : (pieceArcs S k).length ≤ 4 := by
  unfold pieceArcs
  simp only [List.length_append, List.length_singleton]
  split <;> split <;> split <;> simp
/-- the arcs as sorted -/
def srtArcs (S : LN.LS) : List Arc := (arcsLeft S).mergeSort fun a b => PySem.W.dataLe false (fun z : D × PyData => z.2) (arcD a, arcP a) (arcD b, arcP b)
theorem srt_iff {S : LN.LS} (a : Arc) : a ∈ srtArcs S ↔ Res S a := by
  unfold srtArcs
  rw [List.mem_mergeSort, arcs_iff]
theorem sorted_arcs (S : LN.LS) : ((((arcsLeft S).map arcD).zip ((arcsLeft S).map arcP)).mergeSort (PySem.W.dataLe false (fun z : D × PyData => z.2))).map (·.1) = (srtArcs S).map arcD := by
  have e : ((arcsLeft S).map arcD).zip ((arcsLeft S).map arcP) = (arcsLeft S).map fun a => (arcD a, arcP a) := by rw [List.zip_map']
  rw [e, ← merge_map, List.map_map]
  rfl
open Classical in
/-- the roads as told -/
noncomputable def roadS (S : LN.LS) : RS := if h : ∃ s', Run (srtArcs S) LN.start s' ∧ s'.ch = false ∧ ∃ p, Told S p (srtArcs S) s'.g s'.l then h.choose else LN.start
noncomputable def gS (S : LN.LS) (v : Nat) : Int := ((roadS S).g v).getD 0
noncomputable def lS (S : LN.LS) : La := (roadS S).l
theorem roadS_ok {S : LN.LS} (hF : Fix S) (hp : ∃ p, Pot S p) : Run (srtArcs S) LN.start (roadS S) ∧ (roadS S).ch = false ∧ (∀ v, v ≤ S.n → (roadS S).g v = some (gS S v)) ∧ Road S (gS S) (lS S) := by
  obtain ⟨p, hp⟩ := hp
  obtain ⟨s', a, b, c⟩ := roads hF hp (arcs := srtArcs S) srt_iff
  have h : ∃ s', Run (srtArcs S) LN.start s' ∧ s'.ch = false ∧ ∃ p, Told S p (srtArcs S) s'.g s'.l := ⟨s', a, b, p, c⟩
  have e : roadS S = h.choose := by unfold roadS; rw [dif_pos h]
  obtain ⟨q1, q2, p2, q3⟩ := h.choose_spec
  rw [← e] at q1 q2 q3
  obtain ⟨all, road⟩ := q3.road hF srt_iff
  refine ⟨q1, q2, fun v hv => ?_, road⟩
  obtain ⟨x, hx⟩ := all v hv
  unfold gS
  rw [hx]; rfl
open Classical in
/-- a unit sent -/
noncomputable def sendS (S : LN.LS) : LN.LS := if h : ∃ S', Back (lS S) S S.n S' ∧ ∃ U, Sent S' (U + 1) ∧ Sent S U ∧ val S' = val S + gS S S.n then h.choose else S
theorem back_fix {l : La} {S S' : LN.LS} {v : Nat} (b : Back l S v S') : S'.n = S.n ∧ S'.m = S.m ∧ S'.sp = S.sp ∧ S'.must = S.must ∧ S'.great = S.great := by
  induction b with
  | done => exact ⟨rfl, rfl, rfl, rfl, rfl⟩
  | step _ _ _ _ ih =>
    obtain ⟨i1, i2, i3, i4, i5⟩ := ih
    obtain ⟨q1, q2, q3, q4, q5⟩ := go_fix (S := _) (a := _)
    exact ⟨i1.trans q1, i2.trans q2, i3.trans q3, i4.trans q4, i5.trans q5⟩
theorem sent_n0 {S : LN.LS} {U V : Int} (a : Sent S U) (b : Sent S V) (h : 0 < S.n) : U = V := by
  rw [← a.tt 0 h, b.tt 0 h]
theorem sendS_ok {S : LN.LS} {U : Int} (hs : Sent S U) : Back (lS S) S S.n (sendS S) ∧ Sent (sendS S) (U + 1) ∧ val (sendS S) = val S + gS S S.n ∧ (sendS S).n = S.n ∧ (sendS S).m = S.m ∧ (sendS S).sp = S.sp ∧ (sendS S).must = S.must ∧ (sendS S).great = S.great := by
  obtain ⟨_, _, _, road⟩ := roadS_ok hs.ok.toFix hs.pot
  obtain ⟨S', b, hs', hv⟩ := send hs road
  have h : ∃ S', Back (lS S) S S.n S' ∧ ∃ U, Sent S' (U + 1) ∧ Sent S U ∧ val S' = val S + gS S S.n := ⟨S', b, U, hs', hs, hv⟩
  have e : sendS S = h.choose := by unfold sendS; rw [dif_pos h]
  obtain ⟨q1, V, q2, q3, q4⟩ := h.choose_spec
  rw [← e] at q1 q2 q4
  obtain ⟨f1, f2, f3, f4, f5⟩ := back_fix q1
  refine ⟨q1, ⟨q2.ok, fun k hk => ?_, q2.pot⟩, q4, f1, f2, f3, f4, f5⟩
  rw [q2.tt k hk, sent_n0 hs q3 (by rw [f1] at hk; omega)]
end DL
set_option Elab.async false
set_option linter.all false
set_option maxRecDepth 100000
set_option maxHeartbeats 4000000
namespace DL
open PySem PySem.Spec PyProof.Rows L2 LN
theorem LnA.mono {G G' : Gp} {x dx af ai at_ : Addr} {S : LN.LS} (L : LnA G x dx af ai at_ S) (h : ∀ a o, G a = some o → G' a = some o) : LnA G' x dx af ai at_ S := ⟨h _ _ L.ob, h _ _ L.fi, h _ _ L.id, h _ _ L.tk, L.n1, L.n2, L.n3, L.zn, L.zm⟩
def F_Line_piece_arcs : Sf := fun ds G Q => ∃ (x dx af ai at_ : Addr) (S : LN.LS) (k : Nat), ds = [.ref x, .int (k : Nat)] ∧ LnA G x dx af ai at_ S ∧ k < S.n ∧ Q (.lst ((pieceArcs S k).map arcD)) G
def F_Line_span_arc : Sf := fun ds G Q => ∃ (x dx af ai at_ : Addr) (S : LN.LS) (i : Nat), ds = [.ref x, .int (i : Nat)] ∧ LnA G x dx af ai at_ S ∧ i < S.m ∧ Q (arcD (spanArc S i)) G
def F_Line_arcs_left : Sf := fun ds G Q => ∃ (x dx af ai at_ : Addr) (S : LN.LS), ds = [.ref x] ∧ LnA G x dx af ai at_ S ∧ Q (.lst ((arcsLeft S).map arcD)) G
def F_Line_roads_told : Sf := fun ds G Q => ∃ (x dx af ai at_ : Addr) (S : LN.LS), ds = [.ref x] ∧ LnA G x dx af ai at_ S ∧ Fix S ∧ (∃ p, Pot S p) ∧
  ∀ (a1 a2 : Addr), G a1 = none → G a2 = none → a1 ≠ a2 → Q (.tup [.ref a1, .ref a2]) (gput (gput G a1 (.lst (fnL (S.n + 1) fun v => .int (gS S v)))) a2 (.lst (fnL (S.n + 1) fun v => encL (lS S v))))
def F_Line_go_along : Sf := fun ds G Q => ∃ (x dx af ai at_ : Addr) (S : LN.LS) (a : Arc), ds = [.ref x, arcD a] ∧ LnA G x dx af ai at_ S ∧ Res S a ∧ ∀ G', LnA G' x dx af ai at_ (go S a) → But3 af ai at_ G G' → Q .non G'
def F_Line_send_unit : Sf := fun ds G Q => ∃ (x dx af ai at_ : Addr) (S : LN.LS) (U : Int), ds = [.ref x] ∧ LnA G x dx af ai at_ S ∧ Sent S U ∧ ∀ G', LnA G' x dx af ai at_ (sendS S) → But3 af ai at_ G G' → Q .non G'
def r_Line_piece_arcs : ES :=
  (sSeq (sAsg (eLstO (eCons (eTup (eCons (eVar 1) (eCons (eOp oAdd (eVar 1) (eC (.int 1))) (eCons (eC (.int 0)) (eCons (eC (.str "idle")) (eCons (eVar 1) eNil)))))) eNil)) (.nm 2))
  (sSeq (sIf (eT (eOp oLt (eOp oIx (eFld "Line" "filled" (eVar 0)) (eVar 1)) (eOp oIx (eFld "Line" "own_must" (eVar 0)) (eVar 1)))) (sDrop (eBm mApp (eVar 2) (eCons (eTup (eCons (eVar 1) (eCons (eOp oAdd (eVar 1) (eC (.int 1))) (eCons (eFld "Line" "great" (eVar 0)) (eCons (eC (.str "fill")) (eCons (eVar 1) eNil)))))) eNil))) sNext)
  (sSeq (sIf (eT (eOp oGt (eOp oIx (eFld "Line" "idle" (eVar 0)) (eVar 1)) (eC (.int 0)))) (sDrop (eBm mApp (eVar 2) (eCons (eTup (eCons (eOp oAdd (eVar 1) (eC (.int 1))) (eCons (eVar 1) (eCons (eC (.int 0)) (eCons (eC (.str "unidle")) (eCons (eVar 1) eNil)))))) eNil))) sNext)
  (sSeq (sIf (eT (eOp oGt (eOp oIx (eFld "Line" "filled" (eVar 0)) (eVar 1)) (eC (.int 0)))) (sDrop (eBm mApp (eVar 2) (eCons (eTup (eCons (eOp oAdd (eVar 1) (eC (.int 1))) (eCons (eVar 1) (eCons (eOp oSub (eC (.int 0)) (eFld "Line" "great" (eVar 0))) (eCons (eC (.str "unfill")) (eCons (eVar 1) eNil)))))) eNil))) sNext)
  (sRet (eVar 2))))))
def r_Line_span_arc : ES :=
  (sSeq (sAsg (eOp oIx (eFld "Line" "own_spans" (eVar 0)) (eVar 1)) (.tp [2, 3, 4]))
  (sSeq (sIf (eTru (eOp oIx (eFld "Line" "taken" (eVar 0)) (eVar 1))) (sRet (eTup (eCons (eVar 3) (eCons (eVar 2) (eCons (eOp oSub (eC (.int 0)) (eVar 4)) (eCons (eC (.str "leave")) (eCons (eVar 1) eNil))))))) sNext)
  (sRet (eTup (eCons (eVar 2) (eCons (eVar 3) (eCons (eVar 4) (eCons (eC (.str "take")) (eCons (eVar 1) eNil)))))))))
def r_Line_arcs_left_L1 : ES :=
  (sDrop (eBm mExt (eVar 1) (eCons (eMeth "Line" "piece_arcs" F_Line_piece_arcs (eVar 0) (eCons (eVar 2) eNil)) eNil)))
def r_Line_arcs_left : ES :=
  (sSeq (sAsg (eLstO eNil) (.nm 1))
  (sSeq (sFor (iR1 (eCons (eCB cLen (eCons (eFld "Line" "own_must" (eVar 0)) eNil)) eNil)) (.nm 2) r_Line_arcs_left_L1)
  (sRet (eOp oAdd (eVar 1) (eLc (iR1 (eCons (eCB cLen (eCons (eFld "Line" "own_spans" (eVar 0)) eNil)) eNil)) (.nm 3) eYes (eMeth "Line" "span_arc" F_Line_span_arc (eVar 0) (eCons (eVar 3) eNil)) [3])))))
def r_Line_roads_told_L1 : ES :=
  (sIf (eT (eOp oNotN (eOp oIx (eVar 2) (eOp oIx (eVar 6) (eC (.int 0)))) (eC .non))) (sSeq (sAsg (eOp oAdd (eOp oIx (eVar 2) (eOp oIx (eVar 6) (eC (.int 0)))) (eOp oIx (eVar 6) (eC (.int 2)))) (.nm 7))
  (sIf (eOr (eT (eOp oIsN (eOp oIx (eVar 2) (eOp oIx (eVar 6) (eC (.int 1)))) (eC .non))) (eT (eOp oGt (eVar 7) (eOp oIx (eVar 2) (eOp oIx (eVar 6) (eC (.int 1))))))) (sSeq (sSetIx (eVar 7) (eVar 2) (eOp oIx (eVar 6) (eC (.int 1))))
  (sSeq (sSetIx (eVar 6) (eVar 3) (eOp oIx (eVar 6) (eC (.int 1))))
  (sAsg (eC (.bl true)) (.nm 5)))) sNext)) sNext)
def r_Line_roads_told_L2 : ES :=
  (sSeq (sAsg (eC (.bl false)) (.nm 5))
  (sFor (iL (eVar 4)) (.nm 6) r_Line_roads_told_L1))
def r_Line_roads_told : ES :=
  (sSeq (sAsg (eOp oAdd (eCB cLen (eCons (eFld "Line" "own_must" (eVar 0)) eNil)) (eC (.int 1))) (.nm 1))
  (sSeq (sAsg (eLcO (iR1 (eCons (eVar 1) eNil)) (.nm 8) eYes (eC .non) [8]) (.nm 2))
  (sSeq (sSetIx (eC (.int 0)) (eVar 2) (eC (.int 0)))
  (sSeq (sAsg (eLcO (iR1 (eCons (eVar 1) eNil)) (.nm 8) eYes (eC .non) [8]) (.nm 3))
  (sSeq (sAsg (eCB cSrtD (eCons (eMeth "Line" "arcs_left" F_Line_arcs_left (eVar 0) eNil) eNil)) (.nm 4))
  (sSeq (sAsg (eC (.bl true)) (.nm 5))
  (sSeq (sWhile (eTru (eVar 5)) r_Line_roads_told_L2)
  (sRet (eTup (eCons (eVar 2) (eCons (eVar 3) eNil)))))))))))
def r_Line_go_along : ES :=
  (sSeq (sAsg (eSlT (eVar 1) (ePart (eC (.int 3))) eNoPart) (.tp [2, 3]))
  (sIf (eT (eOp oEq (eVar 2) (eC (.str "idle")))) (sSetIx (eOp oAdd (eOp oIx (eFld "Line" "idle" (eVar 0)) (eVar 3)) (eC (.int 1))) (eFld "Line" "idle" (eVar 0)) (eVar 3)) (sIf (eT (eOp oEq (eVar 2) (eC (.str "unidle")))) (sSetIx (eOp oSub (eOp oIx (eFld "Line" "idle" (eVar 0)) (eVar 3)) (eC (.int 1))) (eFld "Line" "idle" (eVar 0)) (eVar 3)) (sIf (eT (eOp oEq (eVar 2) (eC (.str "fill")))) (sSetIx (eOp oAdd (eOp oIx (eFld "Line" "filled" (eVar 0)) (eVar 3)) (eC (.int 1))) (eFld "Line" "filled" (eVar 0)) (eVar 3)) (sIf (eT (eOp oEq (eVar 2) (eC (.str "unfill")))) (sSetIx (eOp oSub (eOp oIx (eFld "Line" "filled" (eVar 0)) (eVar 3)) (eC (.int 1))) (eFld "Line" "filled" (eVar 0)) (eVar 3)) (sSetIx (eOp oEq (eVar 2) (eC (.str "take"))) (eFld "Line" "taken" (eVar 0)) (eVar 3)))))))
def r_Line_send_unit_L1 : ES :=
  (sSeq (sAsg (eOp oIx (eVar 2) (eVar 3)) (.nm 4))
  (sSeq (sDrop (eMeth "Line" "go_along" F_Line_go_along (eVar 0) (eCons (eVar 4) eNil)))
  (sAsg (eOp oIx (eVar 4) (eC (.int 0))) (.nm 3))))
def r_Line_send_unit : ES :=
  (sSeq (sAsg (eMeth "Line" "roads_told" F_Line_roads_told (eVar 0) eNil) (.tp [1, 2]))
  (sSeq (sAsg (eCB cLen (eCons (eFld "Line" "own_must" (eVar 0)) eNil)) (.nm 3))
  (sWhile (eT (eOp oNe (eVar 3) (eC (.int 0)))) r_Line_send_unit_L1)))
theorem d_Line_piece_arcs (ds : List D) (G : Gp) (Q : DK) (h : F_Line_piece_arcs ds G Q) : r_Line_piece_arcs (fin G Q) (startD 3 ds) G := by
  obtain ⟨x, dx, af, ai, at_, S, k, rfl, L, hk, kk⟩ := h
  refine seq_gen fun W hW => ?_
  simp [startD]
  intro q hq
  have L1 : ∀ ds, LnA (gput G q (.lst ds)) x dx af ai at_ S := fun ds => L.mono (gsub hq)
  have ob := fun ds => (L1 ds).ob
  have fi := fun ds => (L1 ds).fi
  have id := fun ds => (L1 ds).id
  have hW' : W [some (.ref x), some (.int (k : Nat)), some (.ref q)] (gput G q (.lst (([⟨k, k + 1, 0, .idle, k⟩] : List Arc).map arcD))) := hW _ _ (seq_gen fun W2 hW2 => by
    have s2 : W2 [some (.ref x), some (.int (k : Nat)), some (.ref q)] (gput G q (.lst (([⟨k, k + 1, 0, .idle, k⟩] ++ (if S.filled k < S.must k then [⟨k, k + 1, S.great, .fill, k⟩] else []) : List Arc).map arcD))) := hW2 _ _ (seq_gen fun W3 hW3 => by
      have s3 : W3 [some (.ref x), some (.int (k : Nat)), some (.ref q)] (gput G q (.lst (([⟨k, k + 1, 0, .idle, k⟩] ++ (if S.filled k < S.must k then [⟨k, k + 1, S.great, .fill, k⟩] else []) ++ (if 0 < S.idle k then [⟨k + 1, k, 0, .unidle, k⟩] else []) : List Arc).map arcD))) := hW3 _ _ (seq_gen fun W4 hW4 => by
        have s4 : W4 [some (.ref x), some (.int (k : Nat)), some (.ref q)] (gput G q (.lst ((pieceArcs S k).map arcD))) := hW4 _ _ (by
          simp
          exact fin_lst (gsub hq) gput_same hq (refIns_plain (plainDs_map (fun a => by simp [arcD, plainD, plainDs]) _)) kk)
        have hl := piece_len (S := S) (k := k)
        unfold pieceArcs at s4 hl
        generalize ([⟨k, k + 1, 0, .idle, k⟩] ++ (if S.filled k < S.must k then [⟨k, k + 1, S.great, .fill, k⟩] else []) ++ (if 0 < S.idle k then [⟨k + 1, k, 0, .unidle, k⟩] else []) : List Arc) = acc at s4 hl ⊢
        simp [ob, fi, lineO, fnL_at hk, gput_same, gput_gput]
        split
        · rename_i q0
          rw [if_pos q0] at s4 hl
          simp at hl
          exact ⟨by omega, by simpa [arcD, kdS] using s4⟩
        · rename_i q0
          rw [if_neg q0] at s4
          simpa using s4)
      have hl : ([⟨k, k + 1, 0, .idle, k⟩] ++ (if S.filled k < S.must k then [⟨k, k + 1, S.great, .fill, k⟩] else []) : List Arc).length ≤ 4 := by split <;> simp
      generalize ([⟨k, k + 1, 0, .idle, k⟩] ++ (if S.filled k < S.must k then [⟨k, k + 1, S.great, .fill, k⟩] else []) : List Arc) = acc at s3 hl ⊢
      simp [ob, id, lineO, fnL_at hk, gput_same, gput_gput]
      split
      · rename_i q0
        rw [if_pos q0] at s3
        exact ⟨by omega, by simpa [arcD, kdS] using s3⟩
      · rename_i q0
        rw [if_neg q0] at s3
        simpa using s3)
    simp [ob, fi, lineO, fnL_at hk, gput_same, gput_gput]
    split
    · rename_i q0
      rw [if_pos q0] at s2
      simpa [arcD, kdS] using s2
    · rename_i q0
      rw [if_neg q0] at s2
      simpa using s2)
  simpa [arcD, kdS] using hW'
theorem d_Line_span_arc (ds : List D) (G : Gp) (Q : DK) (h : F_Line_span_arc ds G Q) : r_Line_span_arc (fin G Q) (startD 5 ds) G := by
  obtain ⟨x, dx, af, ai, at_, S, i, rfl, L, hi, kk⟩ := h
  refine seq_gen fun W hW => ?_
  simp [startD, L.ob, lineO, fnL_at hi, sp3D]
  refine hW _ _ (seq_gen fun W2 hW2 => ?_)
  simp [L.ob, lineO, L.tk, fnL_at hi]
  unfold spanArc at kk
  split
  · rename_i t
    rw [if_pos t] at kk
    exact fin_id (by simpa [arcD, kdS] using kk)
  · rename_i t
    rw [if_neg (by simp [t])] at kk
    refine hW2 _ _ ?_
    simp
    exact fin_id (by simpa [arcD, kdS] using kk)
theorem d_Line_arcs_left (ds : List D) (G : Gp) (Q : DK) (h : F_Line_arcs_left ds G Q) : r_Line_arcs_left (fin G Q) (startD 4 ds) G := by
  obtain ⟨x, dx, af, ai, at_, S, rfl, L, kk⟩ := h
  have zn := L.zn
  have zm := L.zm
  refine seq_gen fun W hW => ?_
  simp [startD]
  intro q hq
  have L1 : ∀ ds, LnA (gput G q (.lst ds)) x dx af ai at_ S := fun ds => L.mono (gsub hq)
  have ob := fun ds => (L1 ds).ob
  refine hW _ _ (seq_gen fun W2 hW2 => ?_)
  simp [ob, lineO]
  refine ⟨by omega, ?_⟩
  unfold rngD
  refine forW_ind (fun r s G' => ∃ (done : List Nat) (o2 : Option D), s = [some (.ref x), some (.ref q), o2, none] ∧ G' = gput G q (.lst ((done.flatMap (pieceArcs S)).map arcD)) ∧ done ++ r = List.range S.n) (fun _ _ _ _ => trivial) ?_ ?_ (List.range S.n) _ _ ⟨[], none, rfl, by simp, rfl⟩
  · rintro k r s G' W ⟨done, o2, rfl, rfl, hr⟩ hW
    have hk : k < S.n := by
      have : k ∈ List.range S.n := by rw [← hr]; simp
      simpa using this
    have hl : (done.flatMap (pieceArcs S)).length ≤ 4 * done.length := by
      clear hr
      induction done with
      | nil => simp
      | cons a l ih => simp only [List.flatMap_cons, List.length_append, List.length_cons]; have := piece_len (S := S) (k := a); omega
    have hd : done.length ≤ S.n := by have := congrArg List.length hr; simp at this; omega
    simp [r_Line_arcs_left_L1, gput_same]
    simp [ob, lineO]
    refine ⟨x, dx, af, ai, at_, S, k, rfl, L1 _, hk, ?_⟩
    simp [gput_same, gput_gput]
    have := piece_len (S := S) (k := k)
    refine ⟨by rw [← List.length_flatMap]; omega, hW _ _ ⟨done ++ [k], _, rfl, by simp, by simpa using hr⟩⟩
  · rintro s G' ⟨done, o2, rfl, rfl, hr⟩
    simp only [List.append_nil] at hr
    subst hr
    have hl : ((List.range S.n).flatMap (pieceArcs S)).length ≤ 4 * S.n := by
      have : ∀ l : List Nat, (l.flatMap (pieceArcs S)).length ≤ 4 * l.length := fun l => by
        induction l with
        | nil => simp
        | cons a l ih => simp only [List.flatMap_cons, List.length_append, List.length_cons]; have := piece_len (S := S) (k := a); omega
      have := this (List.range S.n)
      simpa using this
    refine hW2 _ _ ?_
    simp [ob, lineO]
    refine ⟨by omega, ?_⟩
    unfold rngD
    refine compW_all (f := fun i : Nat => arcD (spanArc S i)) True.intro (List.range S.m) [] (fun i hi => ⟨_, rfl, fun R r => ?_⟩) ?_
    · simp [ob, lineO]
      exact ⟨x, dx, af, ai, at_, S, i, rfl, L1 _, by simpa using hi, r⟩
    · simp [gput_same]
      refine ⟨by rw [← List.length_flatMap]; omega, ?_⟩
      refine fin_back (gsub hq) (refIn_plain ?_) ?_
      · simp only [plainD]
        refine plainDs_app (plainDs_map (fun a => by simp [arcD, plainD, plainDs]) _) (plainDs_map (fun a => by simp [arcD, plainD, plainDs]) _)
      · simpa [arcsLeft, Function.comp_def] using kk
@[simp] theorem encG_n : encG none = .non := rfl
@[simp] theorem encG_s {x : Int} : encG (some x) = .int x := rfl
def RG (G : Gp) (n : Nat) (a1 a2 : Addr) (s : RS) : Gp := gput (gput G a1 (.lst (fnL (n + 1) fun v => encG (s.g v)))) a2 (.lst (fnL (n + 1) fun v => encL (s.l v)))
theorem fup_enc {α : Type} {e : α → D} {f : Nat → α} {k : Nat} {x : α} : (fun v => e (fup f k x v)) = fup (fun v => e (f v)) k (e x) := by
  funext v; unfold fup; split <;> rfl
/-- one pass over the arcs -/
theorem pass_loop {G : Gp} {n : Nat} {x a1 a2 : Addr} {N : En} {o1 o4 o8 : Option D} (h12 : a1 ≠ a2) : ∀ (arcs : List Arc) (s : RS) (o6 o7 : Option D), (∀ a ∈ arcs, a.u ≤ n ∧ a.v ≤ n) →
    (∀ o6 o7, N.nx [some (.ref x), o1, some (.ref a1), some (.ref a2), o4, some (.bl (arcs.foldl relax s).ch), o6, o7, o8] (RG G n a1 a2 (arcs.foldl relax s))) →
    forW (.nm 6) r_Line_roads_told_L1 (fun _ => True) N (arcs.map arcD) [some (.ref x), o1, some (.ref a1), some (.ref a2), o4, some (.bl s.ch), o6, o7, o8] (RG G n a1 a2 s)
  | [], s, o6, o7, _, k => ⟨trivial, k o6 o7⟩
  | a :: arcs, s, o6, o7, hb, k => by
    refine ⟨trivial, ?_⟩
    obtain ⟨hu, hv⟩ := hb a List.mem_cons_self
    have ih := fun s' o6 o7 kk => pass_loop (G := G) (n := n) (x := x) (N := N) (o1 := o1) (o4 := o4) (o8 := o8) h12 arcs s' o6 o7 (fun b q => hb b (List.mem_cons_of_mem _ q)) kk
    rw [List.foldl_cons] at k
    generalize forW (.nm 6) r_Line_roads_told_L1 (fun _ => True) N (arcs.map arcD) = W at ih ⊢
    have go2 : ∀ (o6 o7 : Option D), W [some (.ref x), o1, some (.ref a1), some (.ref a2), o4, some (.bl (relax s a).ch), o6, o7, o8] (RG G n a1 a2 (relax s a)) := fun o6 o7 => ih _ _ _ k
    have e1 : ∀ G', (gput (gput G' a1 (.lst (fnL (n + 1) fun v => encG (s.g v)))) a2 (.lst (fnL (n + 1) fun v => encL (s.l v)))) a1 = some (.lst (fnL (n + 1) fun v => encG (s.g v))) := fun G' => by rw [gput_ne h12, gput_same]
    have au : atI (fnL (n + 1) fun v => encG (s.g v)) (a.u : Nat) = some (encG (s.g a.u)) := fnL_at (by omega)
    have av : atI (fnL (n + 1) fun v => encG (s.g v)) (a.v : Nat) = some (encG (s.g a.v)) := fnL_at (by omega)
    have iv : ixN (n + 1) (a.v : Nat) = some a.v := fnL_ix (by omega)
    have setG : ∀ z, gput (gput (RG G n a1 a2 s) a1 (.lst ((fnL (n + 1) fun v => encG (s.g v)).set a.v (.int z)))) a2 (.lst ((fnL (n + 1) fun v => encL (s.l v)).set a.v (arcD a))) = RG G n a1 a2 ⟨fup s.g a.v (some z), fup s.l a.v (some a), true⟩ := fun z => by
      unfold RG
      rw [fnL_set, fnL_set]
      have q1 : (fun v => encG (fup s.g a.v (some z) v)) = fup (fun v => encG (s.g v)) a.v (.int z) := fup_enc
      have q2 : (fun v => encL (fup s.l a.v (some a) v)) = fup (fun v => encL (s.l v)) a.v (arcD a) := fup_enc
      rw [q1, q2]
      funext b
      by_cases h2 : b = a2
      · subst h2; rw [gput_same, gput_same]
      · rw [gput_ne h2, gput_ne h2]
        by_cases h1 : b = a1
        · subst h1; rw [gput_same, gput_same]
        · rw [gput_ne h1, gput_ne h1, gput_ne h2, gput_ne h1]
    have rg1 : (RG G n a1 a2 s) a1 = some (.lst (fnL (n + 1) fun v => encG (s.g v))) := e1 G
    have rg2 : ∀ o, gput (RG G n a1 a2 s) a1 o a2 = some (.lst (fnL (n + 1) fun v => encL (s.l v))) := fun o => by rw [gput_ne h12.symm]; unfold RG; exact gput_same
    simp only [asg]
    show r_Line_roads_told_L1 { N with nx := W, ct := W, bk := N.nx } [some (.ref x), o1, some (.ref a1), some (.ref a2), o4, some (.bl s.ch), some (arcD a), o7, o8] (RG G n a1 a2 s)
    unfold relax at go2
    cases eu : s.g a.u with
    | none =>
      rw [eu] at au go2
      simp [r_Line_roads_told_L1, rg1, au]
      exact go2 _ _
    | some y =>
      rw [eu] at au go2
      simp [r_Line_roads_told_L1, rg1, au]
      refine seq_gen fun W2 hW2 => ?_
      simp [rg1, au]
      refine hW2 _ _ ?_
      simp only at go2
      cases ev : s.g a.v with
      | none =>
        rw [ev] at av go2
        simp [rg1, av]
        refine seq_gen fun W3 hW3 => ?_
        simp [rg1, iv]
        refine hW3 _ _ (seq_gen fun W4 hW4 => ?_)
        simp [rg2, iv]
        refine hW4 _ _ ?_
        simp
        rw [setG]
        exact go2 _ _
      | some z =>
        rw [ev] at av go2
        simp [rg1, av]
        simp only at go2
        split
        · rename_i q
          rw [if_pos q] at go2
          refine seq_gen fun W3 hW3 => ?_
          simp [rg1, iv]
          refine hW3 _ _ (seq_gen fun W4 hW4 => ?_)
          simp [rg2, iv]
          refine hW4 _ _ ?_
          simp
          rw [setG]
          exact go2 _ _
        · rename_i q
          rw [if_neg q] at go2
          exact go2 _ _
/-- the passes -/
theorem run_loop {G : Gp} {n : Nat} {x a1 a2 : Addr} {N : En} {o1 o8 : Option D} {arcs : List Arc} (h12 : a1 ≠ a2) (hb : ∀ a ∈ arcs, a.u ≤ n ∧ a.v ≤ n) {s s' : RS} (r : Run arcs s s') (hf : s'.ch = false)
    (k : ∀ o6 o7, N.nx [some (.ref x), o1, some (.ref a1), some (.ref a2), some (.lst (arcs.map arcD)), some (.bl false), o6, o7, o8] (RG G n a1 a2 s')) :
    ∃ f, ∀ o6 o7, whW (eTru (eVar 5)) r_Line_roads_told_L2 N f [some (.ref x), o1, some (.ref a1), some (.ref a2), some (.lst (arcs.map arcD)), some (.bl true), o6, o7, o8] (RG G n a1 a2 s) := by
  induction r with
  | @stop s e =>
    refine ⟨2, fun o6 o7 => ?_⟩
    rw [whW]
    simp
    refine seq_gen fun W hW => ?_
    simp
    refine hW _ _ ?_
    simp
    refine pass_loop h12 arcs ⟨s.g, s.l, false⟩ o6 o7 hb fun o6 o7 => ?_
    have e' : (arcs.foldl relax ⟨s.g, s.l, false⟩).ch = false := e
    dsimp only
    rw [whW, e']
    simp
    exact k _ _
  | @go s s' e r ih =>
    obtain ⟨f, hf2⟩ := ih hf k
    refine ⟨f + 1, fun o6 o7 => ?_⟩
    rw [whW]
    simp
    refine seq_gen fun W hW => ?_
    simp
    refine hW _ _ ?_
    simp
    refine pass_loop h12 arcs ⟨s.g, s.l, false⟩ o6 o7 hb fun o6 o7 => ?_
    have e' : (arcs.foldl relax ⟨s.g, s.l, false⟩).ch = true := e
    rw [e']
    exact hf2 _ _
theorem toPys_arcs {G : Gp} (arcs : List Arc) : toPys G (arcs.map arcD) = some (arcs.map arcP) := toPys_map (fun a => by simp [arcD, arcP]) arcs
theorem arcs_alike (arcs : List Arc) : PySem.W.AllAlike (arcs.map arcP) ∧ PySem.W.Sortable (arcs.map arcP) ∧ ∀ p ∈ arcs.map arcP, p.depth ≤ 40 := by
  refine ⟨fun d hd d' hd' => ?_, .inl fun d hd => ?_, fun d hd => ?_⟩
  · obtain ⟨a, _, rfl⟩ := List.mem_map.mp hd
    obtain ⟨b, _, rfl⟩ := List.mem_map.mp hd'
    simp [arcP, PySem.W.alike, PySem.W.alikeAll]
  · obtain ⟨a, _, rfl⟩ := List.mem_map.mp hd
    exact ⟨_, _, rfl⟩
  · obtain ⟨a, _, rfl⟩ := List.mem_map.mp hd
    simp [arcP, PyData.depth, PyData.depthAll]
theorem d_Line_roads_told (ds : List D) (G : Gp) (Q : DK) (h : F_Line_roads_told ds G Q) : r_Line_roads_told (fin G Q) (startD 9 ds) G := by
  obtain ⟨x, dx, af, ai, at_, S, rfl, L, hF, hp, kk⟩ := h
  have zn := L.zn
  refine seq_gen fun W hW => ?_
  simp [startD, L.ob, lineO]
  refine hW _ _ (seq_gen fun W2 hW2 => ?_)
  simp
  refine ⟨by omega, by omega, ?_⟩
  unfold rngD
  refine compW_all (f := fun _ : Nat => D.non) True.intro (List.range (S.n + 1)) [] (fun i hi => ⟨_, rfl, fun R r => by simpa using r⟩) ?_
  intro a1 h1
  rw [List.nil_append, fnL_const, List.length_range]
  refine hW2 _ _ (seq_gen fun W3 hW3 => ?_)
  have i0 : ixN (S.n + 1) 0 = some 0 := fnL_ix (k := 0) (by omega)
  simp [gput_same, i0, gput_gput]
  refine hW3 _ _ (seq_gen fun W4 hW4 => ?_)
  simp
  refine ⟨by omega, by omega, ?_⟩
  unfold rngD
  refine compW_all (f := fun _ : Nat => D.non) True.intro (List.range (S.n + 1)) [] (fun i hi => ⟨_, rfl, fun R r => by simpa using r⟩) ?_
  intro a2 h2
  rw [List.nil_append, fnL_const, List.length_range]
  have h12 : a1 ≠ a2 := fun e => by subst e; rw [gput_same] at h2; cases h2
  have h2' : G a2 = none := by rw [gput_ne h12.symm] at h2; exact h2
  have e0 : gput (gput G a1 (.lst ((fnL (S.n + 1) fun _ => D.non).set 0 (.int 0)))) a2 (.lst (fnL (S.n + 1) fun _ => D.non)) = RG G S.n a1 a2 LN.start := by
    unfold RG
    rw [fnL_set]
    congr 2
    congr 2
    funext v
    exact (congrFun (fup_enc (e := encG) (f := fun _ => none) (k := 0) (x := some 0)) v).symm
  rw [e0]
  refine hW4 _ _ (seq_gen fun W5 hW5 => ?_)
  have sub : ∀ s, ∀ a o, G a = some o → RG G S.n a1 a2 s a = some o := fun s a o e => by
    unfold RG
    rw [gput_ne (fun z => by subst z; rw [h2'] at e; cases e), gput_ne (fun z => by subst z; rw [h1] at e; cases e)]
    exact e
  have L1 := fun s => L.mono (sub s)
  have ob := fun s => (L1 s).ob
  simp [ob, lineO]
  refine ⟨x, dx, af, ai, at_, S, rfl, L1 _, ?_⟩
  obtain ⟨q1, q2, q3⟩ := arcs_alike (arcsLeft S)
  simp only [lkL_lst, toPys_arcs]
  refine ⟨q1, q2, q3, ?_⟩
  rw [sorted_arcs]
  have ha : ∀ a, a ∈ srtArcs S ↔ Res S a := srt_iff
  refine hW5 _ _ (seq_gen fun W6 hW6 => ?_)
  simp
  refine hW6 _ _ (seq_gen fun W7 hW7 => ?_)
  obtain ⟨run, hc, all, road⟩ := roadS_ok hF hp
  obtain ⟨f, hf⟩ := run_loop (G := G) (n := S.n) (x := x) (a1 := a1) (a2 := a2) (N := { (fin G Q) with nx := W7 }) (o1 := some (.int ((S.n : Int) + 1))) (o8 := none) h12 (fun a q => ((ha a).mp q).bds hF) run hc (fun o6 o7 => hW7 _ _ (by
    simp
    refine fin_id ?_
    have := kk a1 a2 h1 h2' h12
    unfold RG
    rw [fnL_congr (g := fun v => encG ((roadS S).g v)) (fun v hv => by
      rw [all v (by omega)]; rfl)] at this
    exact this))
  exact ⟨f, hf _ _⟩
theorem d_Line_go_along (ds : List D) (G : Gp) (Q : DK) (h : F_Line_go_along ds G Q) : r_Line_go_along (fin G Q) (startD 4 ds) G := by
  obtain ⟨x, dx, af, ai, at_, S, a, rfl, L, ra, kk⟩ := h
  refine seq_gen fun W hW => ?_
  have ecut : ∀ d1 d2 d3 d4 d5 : D, cutD [d1, d2, d3, d4, d5] (some 3) none = [d4, d5] := fun _ _ _ _ _ => rfl
  have xf : x ≠ af := fun e => by have := L.ob; rw [e, L.fi] at this; cases this
  have xi : x ≠ ai := fun e => by have := L.ob; rw [e, L.id] at this; cases this
  have xt : x ≠ at_ := fun e => by have := L.ob; rw [e, L.tk] at this; cases this
  have sh : ∀ k : Kd, SeqAt.shaped (.str (kdS k)) = true := fun k => by cases k <;> decide +kernel
  have shl : SeqAt.shaped (.str "idle") = true ∧ SeqAt.shaped (.str "unidle") = true ∧ SeqAt.shaped (.str "fill") = true ∧ SeqAt.shaped (.str "unfill") = true ∧ SeqAt.shaped (.str "take") = true := by decide +kernel
  have sid := fun (f : Nat → Int) (k : Nat) (z : Int) => fnL_setE (n := S.n) (f := f) (e := D.int) (k := k) (x := z)
  have upI : ∀ (k : Nat) (z : Int), LnA (gput G ai (.lst (fnL S.n fun v => .int (fup S.idle k z v)))) x dx af ai at_ { S with idle := fup S.idle k z } ∧ But3 af ai at_ G (gput G ai (.lst (fnL S.n fun v => .int (fup S.idle k z v)))) := fun k z =>
    ⟨⟨by rw [gput_ne xi]; exact L.ob, by rw [gput_ne L.n1]; exact L.fi, gput_same, by rw [gput_ne L.n3.symm]; exact L.tk, L.n1, L.n2, L.n3, L.zn, L.zm⟩, fun b _ h2 _ => gput_ne h2⟩
  have upF : ∀ (k : Nat) (z : Int), LnA (gput G af (.lst (fnL S.n fun v => .int (fup S.filled k z v)))) x dx af ai at_ { S with filled := fup S.filled k z } ∧ But3 af ai at_ G (gput G af (.lst (fnL S.n fun v => .int (fup S.filled k z v)))) := fun k z =>
    ⟨⟨by rw [gput_ne xf]; exact L.ob, gput_same, by rw [gput_ne L.n1.symm]; exact L.id, by rw [gput_ne L.n2.symm]; exact L.tk, L.n1, L.n2, L.n3, L.zn, L.zm⟩, fun b h1 _ _ => gput_ne h1⟩
  have upT : ∀ (k : Nat) (z : Bool), LnA (gput G at_ (.lst (fnL S.m fun v => .bl (fup S.taken k z v)))) x dx af ai at_ { S with taken := fup S.taken k z } ∧ But3 af ai at_ G (gput G at_ (.lst (fnL S.m fun v => .bl (fup S.taken k z v)))) := fun k z =>
    ⟨⟨by rw [gput_ne xt]; exact L.ob, by rw [gput_ne L.n2]; exact L.fi, by rw [gput_ne L.n3]; exact L.id, gput_same, L.n1, L.n2, L.n3, L.zn, L.zm⟩, fun b _ _ h3 => gput_ne h3⟩
  have done : ∀ G', LnA G' x dx af ai at_ (go S a) ∧ But3 af ai at_ G G' → (fin G Q).nx [] G' := fun G' q => ⟨.non, G', fz_id, kk G' q.1 q.2⟩
  simp [startD, arcD, ecut, HT.sIx]
  cases ra with
  | idle k hk =>
    refine hW _ _ ?_
    have ek : PyData.eqv (.str (kdS .idle)) (.str "idle") = true := by decide +kernel
    simp [sh, shl, ek, L.ob, lineO, L.id, fnL_at hk, fnL_ix hk]
    refine done _ ?_
    rw [sid]
    exact upI k _
  | unidle k hk q =>
    refine hW _ _ ?_
    have e1 : PyData.eqv (.str (kdS .unidle)) (.str "idle") = false := by decide +kernel
    have e2 : PyData.eqv (.str (kdS .unidle)) (.str "unidle") = true := by decide +kernel
    simp [sh, shl, e1, e2, L.ob, lineO, L.id, fnL_at hk, fnL_ix hk]
    refine done _ ?_
    rw [sid]
    exact upI k _
  | fill k hk q =>
    refine hW _ _ ?_
    have e1 : PyData.eqv (.str (kdS .fill)) (.str "idle") = false := by decide +kernel
    have e2 : PyData.eqv (.str (kdS .fill)) (.str "unidle") = false := by decide +kernel
    have e3 : PyData.eqv (.str (kdS .fill)) (.str "fill") = true := by decide +kernel
    simp [sh, shl, e1, e2, e3, L.ob, lineO, L.fi, fnL_at hk, fnL_ix hk]
    refine done _ ?_
    rw [sid]
    exact upF k _
  | unfill k hk q =>
    refine hW _ _ ?_
    have e1 : PyData.eqv (.str (kdS .unfill)) (.str "idle") = false := by decide +kernel
    have e2 : PyData.eqv (.str (kdS .unfill)) (.str "unidle") = false := by decide +kernel
    have e3 : PyData.eqv (.str (kdS .unfill)) (.str "fill") = false := by decide +kernel
    have e4 : PyData.eqv (.str (kdS .unfill)) (.str "unfill") = true := by decide +kernel
    simp [sh, shl, e1, e2, e3, e4, L.ob, lineO, L.fi, fnL_at hk, fnL_ix hk]
    refine done _ ?_
    rw [sid]
    exact upF k _
  | take k hk q =>
    refine hW _ _ ?_
    have e1 : PyData.eqv (.str (kdS .take)) (.str "idle") = false := by decide +kernel
    have e2 : PyData.eqv (.str (kdS .take)) (.str "unidle") = false := by decide +kernel
    have e3 : PyData.eqv (.str (kdS .take)) (.str "fill") = false := by decide +kernel
    have e4 : PyData.eqv (.str (kdS .take)) (.str "unfill") = false := by decide +kernel
    have e5 : PyData.eqv (.str (kdS .take)) (.str "take") = true := by decide +kernel
    simp [sh, shl, e1, e2, e3, e4, e5, L.ob, lineO, L.tk, fnL_at hk, fnL_ix hk]
    refine done _ ?_
    rw [fnL_setE (n := S.m) (f := S.taken) (e := D.bl)]
    exact upT k _
  | leave k hk q =>
    refine hW _ _ ?_
    have e1 : PyData.eqv (.str (kdS .leave)) (.str "idle") = false := by decide +kernel
    have e2 : PyData.eqv (.str (kdS .leave)) (.str "unidle") = false := by decide +kernel
    have e3 : PyData.eqv (.str (kdS .leave)) (.str "fill") = false := by decide +kernel
    have e4 : PyData.eqv (.str (kdS .leave)) (.str "unfill") = false := by decide +kernel
    have e5 : PyData.eqv (.str (kdS .leave)) (.str "take") = false := by decide +kernel
    simp [sh, shl, e1, e2, e3, e4, e5, L.ob, lineO, L.tk, fnL_at hk, fnL_ix hk]
    refine done _ ?_
    rw [fnL_setE (n := S.m) (f := S.taken) (e := D.bl)]
    exact upT k _
/-- the walk back, by the told arcs -/
theorem back_loop {x dx af ai at_ a1 a2 : Addr} {N : En} {l : La} {n : Nat} {gl : List D} {k : LN.LS → Gp → Prop} {G0 : Gp} (ne : ∀ b, b = af ∨ b = ai ∨ b = at_ → b ≠ a1 ∧ b ≠ a2) {S S' : LN.LS} {v : Nat} (b : Back l S v S') (hv : v ≤ n) (hn : S.n = n)
    (hF : Fix S) (hN : ∀ G o4, LnA G x dx af ai at_ S' → But3 af ai at_ G0 G → N.nx [some (.ref x), some (.ref a1), some (.ref a2), some (.int 0), o4] G) :
    ∃ f, ∀ G o4, LnA G x dx af ai at_ S → But3 af ai at_ G0 G → G a2 = some (.lst (fnL (n + 1) fun v => encL (l v))) → whW (eT (eOp oNe (eVar 3) (eC (.int 0)))) r_Line_send_unit_L1 N f [some (.ref x), some (.ref a1), some (.ref a2), some (.int (v : Nat)), o4] G := by
  induction b with
  | done =>
    refine ⟨1, fun G o4 L hb h2 => ?_⟩
    rw [whW]
    simp
    exact hN G o4 L hb
  | @step S S' v a v0 e ra b ih =>
    have hF2 : Fix (go S a) := by
      obtain ⟨q1, q2, q3, q4, q5⟩ := go_fix (S := S) (a := a)
      exact ⟨by rw [q1, q2, q3]; exact hF.sp, by rw [q2, q3, q5]; exact hF.gr, by rw [q1, q4]; exact hF.mu⟩
    obtain ⟨f, hf⟩ := ih (by have := (ra.bds hF).1; omega) (by rw [go_fix.1]; exact hn) hF2 hN
    refine ⟨f + 1, fun G o4 L hb h2 => ?_⟩
    rw [whW]
    simp [v0]
    refine seq_gen fun W hW => ?_
    simp [h2, fnL_at (show v < n + 1 by omega), e]
    refine hW _ _ (seq_gen fun W2 hW2 => ?_)
    simp [L.ob, lineO, encL]
    refine ⟨x, dx, af, ai, at_, S, a, rfl, L, ra, fun G' L' hb' => hW2 _ _ ?_⟩
    simp
    refine hf G' _ L' (fun b h1 h2 h3 => by rw [hb' b h1 h2 h3]; exact hb b h1 h2 h3) ?_
    rw [hb' a2 (fun z => (ne af (.inl rfl)).2 z.symm) (fun z => (ne ai (.inr (.inl rfl))).2 z.symm) (fun z => (ne at_ (.inr (.inr rfl))).2 z.symm)]
    exact h2
theorem d_Line_send_unit (ds : List D) (G : Gp) (Q : DK) (h : F_Line_send_unit ds G Q) : r_Line_send_unit (fin G Q) (startD 5 ds) G := by
  obtain ⟨x, dx, af, ai, at_, S, U, rfl, L, hs, kk⟩ := h
  refine seq_gen fun W hW => ?_
  simp [startD, L.ob, lineO]
  refine ⟨x, dx, af, ai, at_, S, rfl, L, hs.ok.toFix, hs.pot, fun a1 a2 h1 h2 h12 => ?_⟩
  simp
  have sub : ∀ a o, G a = some o → gput (gput G a1 (.lst (fnL (S.n + 1) fun v => .int (gS S v)))) a2 (.lst (fnL (S.n + 1) fun v => encL (lS S v))) a = some o := fun a o e => by
    rw [gput_ne (fun z => by subst z; rw [h2] at e; cases e), gput_ne (fun z => by subst z; rw [h1] at e; cases e)]
    exact e
  have L1 := L.mono sub
  refine hW _ _ (seq_gen fun W2 hW2 => ?_)
  simp [L1.ob, lineO]
  refine hW2 _ _ ?_
  obtain ⟨bk, _⟩ := sendS_ok hs
  have ne : ∀ b, b = af ∨ b = ai ∨ b = at_ → b ≠ a1 ∧ b ≠ a2 := fun b hb => by
    have : ∃ o, G b = some o := by
      rcases hb with rfl | rfl | rfl
      · exact ⟨_, L.fi⟩
      · exact ⟨_, L.id⟩
      · exact ⟨_, L.tk⟩
    obtain ⟨o, e⟩ := this
    exact ⟨fun z => (by subst z; rw [h1] at e; cases e), fun z => (by subst z; rw [h2] at e; cases e)⟩
  obtain ⟨f, hf⟩ := back_loop (x := x) (dx := dx) (N := fin G Q) (k := fun _ _ => True) (gl := []) (n := S.n) (G0 := gput (gput G a1 (.lst (fnL (S.n + 1) fun v => .int (gS S v)))) a2 (.lst (fnL (S.n + 1) fun v => encL (lS S v)))) ne bk (Nat.le_refl _) rfl hs.ok.toFix (fun G' o4 L' hb => by
    -- the roads are let go
    refine ⟨.non, fun b => if b = a1 ∨ b = a2 then none else G' b, fz_sub (fun b o e => ?_) (fun b o e => ?_) (fun b o e => ?_) (by simp only [RefIn]), kk _ ?_ ?_⟩
    · split at e
      · cases e
      · exact e
    · have n1 : b ≠ a1 := fun z => by subst z; rw [h1] at e; cases e
      have n2 : b ≠ a2 := fun z => by subst z; rw [h2] at e; cases e
      rw [if_neg (by simp [n1, n2])]
      by_cases hb3 : b = af ∨ b = ai ∨ b = at_
      · rcases hb3 with rfl | rfl | rfl
        · exact ⟨_, L'.fi⟩
        · exact ⟨_, L'.id⟩
        · exact ⟨_, L'.tk⟩
      · have q : b ≠ af ∧ b ≠ ai ∧ b ≠ at_ := ⟨fun z => hb3 (.inl z), fun z => hb3 (.inr (.inl z)), fun z => hb3 (.inr (.inr z))⟩
        rw [hb b q.1 q.2.1 q.2.2, sub b o e]
        exact ⟨o, rfl⟩
    · split at e
      · cases e
      · rename_i nb
        by_cases hb3 : b = af ∨ b = ai ∨ b = at_
        · left
          rcases hb3 with rfl | rfl | rfl
          · rw [L'.fi] at e; cases e; exact refIns_plain (plainDs_map (fun _ => rfl) _)
          · rw [L'.id] at e; cases e; exact refIns_plain (plainDs_map (fun _ => rfl) _)
          · rw [L'.tk] at e; cases e; exact refIns_plain (plainDs_map (fun _ => rfl) _)
        · right
          have q : b ≠ af ∧ b ≠ ai ∧ b ≠ at_ := ⟨fun z => hb3 (.inl z), fun z => hb3 (.inr (.inl z)), fun z => hb3 (.inr (.inr z))⟩
          rw [hb b q.1 q.2.1 q.2.2, gput_ne (fun z => nb (.inr z)), gput_ne (fun z => nb (.inl z))] at e
          exact e
    · have xn : ∃ o, G x = some o := ⟨_, L.ob⟩
      obtain ⟨ox, ex⟩ := xn
      have x1 : x ≠ a1 := fun z => by subst z; rw [h1] at ex; cases ex
      have x2 : x ≠ a2 := fun z => by subst z; rw [h2] at ex; cases ex
      have f1 := ne af (.inl rfl)
      have f2 := ne ai (.inr (.inl rfl))
      have f3 := ne at_ (.inr (.inr rfl))
      exact ⟨by rw [if_neg (by simp [x1, x2])]; exact L'.ob, by rw [if_neg (by simp [f1])]; exact L'.fi, by rw [if_neg (by simp [f2])]; exact L'.id, by rw [if_neg (by simp [f3])]; exact L'.tk, L'.n1, L'.n2, L'.n3, L'.zn, L'.zm⟩
    · intro b q1 q2 q3
      show (if b = a1 ∨ b = a2 then none else G' b) = G b
      by_cases z : b = a1 ∨ b = a2
      · rw [if_pos z]
        rcases z with rfl | rfl
        · exact h1.symm
        · exact h2.symm
      · rw [if_neg z, hb b q1 q2 q3, gput_ne (fun w => z (.inr w)), gput_ne (fun w => z (.inl w))])
  exact ⟨f, hf _ _ L1 (fun _ _ _ _ => rfl) gput_same⟩
end DL
set_option Elab.async false
set_option linter.all false
set_option maxRecDepth 100000
set_option maxHeartbeats 4000000
namespace DL
open PySem PySem.Spec PyProof.Rows L2 LN
theorem sum_fn (f : Nat → Int) : ∀ n, ((List.range n).map f).sum = sumN n f
  | 0 => rfl
  | n + 1 => by rw [List.range_succ, List.map_append, List.sum_append, sum_fn f n, sumN]; simp
/-- nothing sent yet -/
def line0 (n m : Nat) (sp : Nat → Sp3) (must : Nat → Int) : LN.LS := ⟨n, m, sp, must, fun _ => 0, fun _ => 0, fun _ => false, 1 + sumN m fun i => (sp i).w⟩
/-- the greatest worth over a piece -/
structure GrOk (S : LN.LS) (k : Nat) (v : Int) : Prop where
  nn : 0 ≤ v
  ge : ∀ i, i < S.m → (S.sp i).b ≤ k → k < (S.sp i).e → (S.sp i).w ≤ v
  at_ : v = 0 ∨ ∃ i, i < S.m ∧ (S.sp i).b ≤ k ∧ k < (S.sp i).e ∧ v = (S.sp i).w
/-- the greatest, 0 at least -/
def maxN : Nat → (Nat → Int) → Int
  | 0, _ => 0
  | n + 1, f => max (maxN n f) (f n)
theorem maxN_nn : ∀ {n : Nat} {f : Nat → Int}, 0 ≤ maxN n f
  | 0, _ => Int.le_refl _
  | n + 1, f => by have := maxN_nn (n := n) (f := f); rw [maxN]; omega
theorem maxN_ge {f : Nat → Int} {i : Nat} : ∀ {n : Nat}, i < n → f i ≤ maxN n f
  | 0, h => by omega
  | n + 1, h => by
    rw [maxN]
    by_cases e : i = n
    · subst e; omega
    · have := maxN_ge (n := n) (f := f) (i := i) (by omega); omega
theorem maxN_at {f : Nat → Int} : ∀ {n : Nat}, maxN n f = 0 ∨ ∃ i, i < n ∧ maxN n f = f i
  | 0 => .inl rfl
  | n + 1 => by
    rw [maxN]
    rcases Int.le_total (maxN n f) (f n) with q | q
    · right; exact ⟨n, by omega, by omega⟩
    · rcases maxN_at (n := n) (f := f) with z | ⟨i, hi, z⟩
      · left; omega
      · right; exact ⟨i, by omega, by omega⟩
theorem maxN_uniq {n : Nat} {f : Nat → Int} {v : Int} (h0 : 0 ≤ v) (h1 : ∀ i, i < n → f i ≤ v) (h2 : v = 0 ∨ ∃ i, i < n ∧ v = f i) : v = maxN n f := by
  have a := maxN_nn (n := n) (f := f)
  have b : maxN n f ≤ v := by
    rcases maxN_at (n := n) (f := f) with z | ⟨i, hi, z⟩
    · omega
    · rw [z]; exact h1 i hi
  rcases h2 with z | ⟨i, hi, z⟩
  · omega
  · have := maxN_ge (f := f) hi; omega
def grS (S : LN.LS) (k : Nat) : Int := maxN S.m fun i => if (S.sp i).b ≤ k ∧ k < (S.sp i).e then (S.sp i).w else 0
theorem gr_ok (S : LN.LS) (k : Nat) : GrOk S k (grS S k) := by
  refine ⟨maxN_nn, fun i hi h1 h2 => ?_, ?_⟩
  · have := maxN_ge (f := fun i => if (S.sp i).b ≤ k ∧ k < (S.sp i).e then (S.sp i).w else 0) hi
    rw [if_pos ⟨h1, h2⟩] at this
    exact this
  · unfold grS
    rcases maxN_at (n := S.m) (f := fun i => if (S.sp i).b ≤ k ∧ k < (S.sp i).e then (S.sp i).w else 0) with z | ⟨i, hi, z⟩
    · exact .inl z
    · by_cases c : (S.sp i).b ≤ k ∧ k < (S.sp i).e
      · rw [if_pos c] at z; exact .inr ⟨i, hi, c.1, c.2, z⟩
      · rw [if_neg c] at z; exact .inl z
theorem gr_uniq {S : LN.LS} {k : Nat} {v w : Int} (h : GrOk S k v) (h2 : GrOk S k w) : v = w := by
  have a := h.nn
  have b := h2.nn
  rcases h.at_ with z | ⟨i, hi, b1, b2, z⟩ <;> rcases h2.at_ with y | ⟨j, hj, c1, c2, y⟩
  · omega
  · have := h.ge j hj c1 c2; omega
  · have := h2.ge i hi b1 b2; omega
  · have := h.ge j hj c1 c2; have := h2.ge i hi b1 b2; omega
noncomputable def priceS (S : LN.LS) (k : Nat) : Int := price (gS S) (grS S) k
def F_Line___init__ : Sf := fun ds G Q => ∃ (x dx : Addr) (n m : Nat) (sp : Nat → Sp3) (must : Nat → Int), ds = [.ref x, .lst (fnL m fun i => sp3D (sp i)), .lst (fnL n fun k => .int (must k))] ∧ G x = some (.ins "Line" dx [] []) ∧ n ≤ 1000 ∧ m ≤ 1000 ∧
  ∀ (af ai at_ : Addr) (G' : Gp), LnA G' x dx af ai at_ (line0 n m sp must) → G af = none → G ai = none → G at_ = none → (∀ b, b ≠ x → b ≠ af → b ≠ ai → b ≠ at_ → G' b = G b) → Q .non G'
def F_Line_greatest_over : Sf := fun ds G Q => ∃ (x dx af ai at_ : Addr) (S : LN.LS) (k : Nat), ds = [.ref x, .int (k : Nat)] ∧ LnA G x dx af ai at_ S ∧ (∀ i, i < S.m → 0 ≤ (S.sp i).w) ∧ Q (.int (grS S k)) G
def F_Line_prices_now : Sf := fun ds G Q => ∃ (x dx af ai at_ : Addr) (S : LN.LS), ds = [.ref x] ∧ LnA G x dx af ai at_ S ∧ Fix S ∧ (∃ p, Pot S p) ∧ Q (.lst (fnL S.n fun k => .int (priceS S k))) G
def takenL (S : LN.LS) : List Nat := (List.range S.m).filter S.taken
def F_Line_taken_now : Sf := fun ds G Q => ∃ (x dx af ai at_ : Addr) (S : LN.LS), ds = [.ref x] ∧ LnA G x dx af ai at_ S ∧ Q (.lst (nD (takenL S))) G
/-- what is chosen within limits, with prices -/
structure Chosen (n m : Nat) (sp : Nat → Sp3) (lim : Nat → Int) (tk : Nat → Bool) (pr : Nat → Int) : Prop where
  ld : ∀ k, k < n → (sumN m fun i => if tk i = true ∧ (sp i).b ≤ k ∧ k < (sp i).e then 1 else 0) ≤ lim k
  sl : ∀ k, k < n → (sumN m fun i => if tk i = true ∧ (sp i).b ≤ k ∧ k < (sp i).e then 1 else 0) < lim k → pr k = 0
  nn : ∀ k, k < n → 0 ≤ pr k
  gr : ∀ k, k < n → pr k = 0 ∨ ∃ i, i < m ∧ (sp i).b ≤ k ∧ k < (sp i).e ∧ pr k ≤ (sp i).w
  cl : sumN n (fun k => pr k * lim k) + sumN m (fun i => max 0 ((sp i).w - tollN n pr (sp i))) = sumN m fun i => if tk i = true then (sp i).w else 0
def olN (m : Nat) (lim : Nat → Int) (k : Nat) : Int := if (m : Int) + 1 < lim k then (m : Int) + 1 else lim k
def mostN (n m : Nat) (lim : Nat → Int) : Int := maxN n (olN m lim)
noncomputable def lineU (S : LN.LS) : Nat → LN.LS
  | 0 => S
  | u + 1 => sendS (lineU S u)
noncomputable def lineC (n m : Nat) (sp : Nat → Sp3) (lim : Nat → Int) : LN.LS := lineU (line0 n m sp fun k => mostN n m lim - olN m lim k) (mostN n m lim).toNat
noncomputable def chT (n m : Nat) (sp : Nat → Sp3) (lim : Nat → Int) : Nat → Bool := (lineC n m sp lim).taken
noncomputable def chP (n m : Nat) (sp : Nat → Sp3) (lim : Nat → Int) : Nat → Int := priceS (lineC n m sp lim)
def F_chosen_within : Sf := fun ds G Q => ∃ (n m : Nat) (sp : Nat → Sp3) (lim : Nat → Int), ds = [.lst (fnL m fun i => sp3D (sp i)), .lst (fnL n fun k => .int (lim k))] ∧ n ≤ 1000 ∧ m ≤ 1000 ∧
  (∀ i, i < m → (sp i).b < (sp i).e ∧ (sp i).e ≤ n ∧ 0 ≤ (sp i).w) ∧ (∀ k, k < n → 0 ≤ lim k) ∧ Q (.tup [.lst (nD ((List.range m).filter (chT n m sp lim))), .lst (fnL n fun k => .int (chP n m sp lim k))]) G
def r_Line___init__ : ES :=
  (sSeq (sFldD "Line" "own_spans" (eCB cList (eCons (eVar 1) eNil)) (eVar 0))
  (sSeq (sFldD "Line" "own_must" (eCB cList (eCons (eVar 2) eNil)) (eVar 0))
  (sSeq (sFldD "Line" "filled" (eLcO (iL (eVar 2)) (.nm 3) eYes (eC (.int 0)) [3]) (eVar 0))
  (sSeq (sFldD "Line" "idle" (eLcO (iL (eVar 2)) (.nm 3) eYes (eC (.int 0)) [3]) (eVar 0))
  (sSeq (sFldD "Line" "taken" (eLcO (iL (eVar 1)) (.nm 4) eYes (eC (.bl false)) [4]) (eVar 0))
  (sFldD "Line" "great" (eOp oAdd (eC (.int 1)) (eCB cSum (eCons (eLc (iL (eVar 1)) (.tp [5, 6, 7]) eYes (eVar 7) [5, 6, 7]) eNil))) (eVar 0)))))))
def r_Line_greatest_over : ES :=
  (sRet (eMaxD (eLc (iL (eFld "Line" "own_spans" (eVar 0))) (.tp [2, 3, 4]) (eT (eChain oLe oLt (eVar 2) (eVar 1) (eVar 3))) (eVar 4) [2, 3, 4]) (eC (.int 0))))
def r_Line_prices_now_L1 : ES :=
  (sDrop (eBm mApp (eVar 3) (eCons (eCB cMin2 (eCons (eOp oSub (eOp oIx (eVar 1) (eOp oAdd (eVar 4) (eC (.int 1)))) (eOp oIx (eVar 1) (eVar 4))) (eCons (eMeth "Line" "greatest_over" F_Line_greatest_over (eVar 0) (eCons (eVar 4) eNil)) eNil))) eNil)))
def r_Line_prices_now : ES :=
  (sSeq (sAsg (eMeth "Line" "roads_told" F_Line_roads_told (eVar 0) eNil) (.tp [1, 2]))
  (sSeq (sAsg (eLstO eNil) (.nm 3))
  (sSeq (sFor (iR1 (eCons (eCB cLen (eCons (eFld "Line" "own_must" (eVar 0)) eNil)) eNil)) (.nm 4) r_Line_prices_now_L1)
  (sRet (eVar 3)))))
def r_Line_taken_now : ES :=
  (sRet (eLc (iR1 (eCons (eCB cLen (eCons (eFld "Line" "own_spans" (eVar 0)) eNil)) eNil)) (.nm 1) (eTru (eOp oIx (eFld "Line" "taken" (eVar 0)) (eVar 1))) (eVar 1) [1]))
def r_chosen_within_L1 : ES :=
  (sDrop (eMeth "Line" "send_unit" F_Line_send_unit (eVar 4) eNil))
def r_chosen_within : ES :=
  (sSeq (sAsg (eLc (iL (eVar 1)) (.nm 6) eYes (eCB cMin2 (eCons (eVar 6) (eCons (eOp oAdd (eCB cLen (eCons (eVar 0) eNil)) (eC (.int 1))) eNil))) [6]) (.nm 2))
  (sSeq (sAsg (eMaxD (eVar 2) (eC (.int 0))) (.nm 3))
  (sSeq (sAsg (eMake "Line" F_Line___init__ (eCons (eVar 0) (eCons (eLc (iL (eVar 2)) (.nm 6) eYes (eOp oSub (eVar 3) (eVar 6)) [6]) eNil))) (.nm 4))
  (sSeq (sFor (iR1 (eCons (eVar 3) eNil)) (.nm 5) r_chosen_within_L1)
  (sRet (eTup (eCons (eMeth "Line" "taken_now" F_Line_taken_now (eVar 4) eNil) (eCons (eMeth "Line" "prices_now" F_Line_prices_now (eVar 4) eNil) eNil))))))))
theorem d_Line_taken_now (ds : List D) (G : Gp) (Q : DK) (h : F_Line_taken_now ds G Q) : r_Line_taken_now (fin G Q) (startD 2 ds) G := by
  obtain ⟨x, dx, af, ai, at_, S, rfl, L, kk⟩ := h
  have zm := L.zm
  simp [startD, r_Line_taken_now, L.ob, lineO]
  refine ⟨by omega, ?_⟩
  unfold rngD
  refine compW_map (p := fun i => S.taken i) (f := fun i : Nat => D.int (i : Nat)) True.intro (List.range S.m) [] (fun i hi => ⟨_, rfl, fun R r => ?_, fun _ R r => ?_⟩) ?_
  · have hi : i < S.m := by simpa using hi
    simp [L.ob, lineO, L.tk, fnL_at hi]
    exact r
  · simpa using r
  · exact fin_id (by simpa [takenL, nD] using kk)
theorem d_Line_greatest_over (ds : List D) (G : Gp) (Q : DK) (h : F_Line_greatest_over ds G Q) : r_Line_greatest_over (fin G Q) (startD 5 ds) G := by
  obtain ⟨x, dx, af, ai, at_, S, k, rfl, L, hw, kk⟩ := h
  simp [startD, r_Line_greatest_over, L.ob, lineO]
  unfold fnL
  refine compW_map (p := fun i => decide ((S.sp i).b ≤ k) && decide (k < (S.sp i).e)) (f := fun i : Nat => D.int (S.sp i).w) (g := fun i => sp3D (S.sp i)) (by simp) (List.range S.m) [] (fun i hi => ⟨_, rfl, fun R r => ?_, fun _ R r => ?_⟩) ?_
  · simp
    split
    · rename_i q
      have q' : (S.sp i).b ≤ k := by omega
      simp [q'] at r
      exact r
    · rename_i q
      have q' : ¬ (S.sp i).b ≤ k := by omega
      simp [q'] at r
      exact r
  · simpa using r
  · have ei : intsD (((List.range S.m).filter fun i => decide ((S.sp i).b ≤ k) && decide (k < (S.sp i).e)).map fun i : Nat => D.int (S.sp i).w) = some (((List.range S.m).filter fun i => decide ((S.sp i).b ≤ k) && decide (k < (S.sp i).e)).map fun i => (S.sp i).w) := intsD_f _
    simp only [List.nil_append, lkL_lst, Option.bind_some, ei]
    have q1 : ∀ v, GrOk S k v → (fin G Q).rt (.int v) G := fun v hv => by rw [gr_uniq hv (gr_ok S k)]; exact fin_id kk
    refine ⟨fun z => q1 0 ⟨Int.le_refl _, fun i hi h1 h2 => ?_, .inl rfl⟩, fun _ m hm hy => q1 m ?_⟩
    · have : (S.sp i).w ∈ (((List.range S.m).filter fun i => decide ((S.sp i).b ≤ k) && decide (k < (S.sp i).e)).map fun i => (S.sp i).w) := List.mem_map.mpr ⟨i, by simp [hi, h1, h2], rfl⟩
      rw [z] at this
      cases this
    · obtain ⟨i, hi, rfl⟩ := List.mem_map.mp hm
      simp at hi
      exact ⟨hw i hi.1, fun j hj h1 h2 => hy _ (List.mem_map.mpr ⟨j, by simp [hj, h1, h2], rfl⟩), .inr ⟨i, hi.1, hi.2.1, hi.2.2, rfl⟩⟩
theorem d_Line_prices_now (ds : List D) (G : Gp) (Q : DK) (h : F_Line_prices_now ds G Q) : r_Line_prices_now (fin G Q) (startD 5 ds) G := by
  obtain ⟨x, dx, af, ai, at_, S, rfl, L, hF, hp, kk⟩ := h
  have zn := L.zn
  refine seq_gen fun W hW => ?_
  simp [startD, L.ob, lineO]
  refine ⟨x, dx, af, ai, at_, S, rfl, L, hF, hp, fun a1 a2 h1 h2 h12 => ?_⟩
  simp
  refine hW _ _ (seq_gen fun W2 hW2 => ?_)
  simp
  intro q hq
  have hq2 : q ≠ a2 := fun z => by subst z; rw [gput_same] at hq; cases hq
  have hq1 : q ≠ a1 := fun z => by subst z; rw [gput_ne hq2, gput_same] at hq; cases hq
  have hq0 : G q = none := by rw [gput_ne hq2, gput_ne hq1] at hq; exact hq
  have sub : ∀ ds a o, G a = some o → gput (gput (gput G a1 (.lst (fnL (S.n + 1) fun v => .int (gS S v)))) a2 (.lst (fnL (S.n + 1) fun v => encL (lS S v)))) q (.lst ds) a = some o := fun ds a o e => by
    rw [gput_ne (fun z => by subst z; rw [hq0] at e; cases e), gput_ne (fun z => by subst z; rw [h2] at e; cases e), gput_ne (fun z => by subst z; rw [h1] at e; cases e)]
    exact e
  have ga : ∀ ds, gput (gput (gput G a1 (.lst (fnL (S.n + 1) fun v => .int (gS S v)))) a2 (.lst (fnL (S.n + 1) fun v => encL (lS S v)))) q (.lst ds) a1 = some (.lst (fnL (S.n + 1) fun v => .int (gS S v))) := fun ds => by
    rw [gput_ne hq1.symm, gput_ne h12, gput_same]
  have L1 := fun ds => L.mono (sub ds)
  have ob := fun ds => (L1 ds).ob
  refine hW2 _ _ (seq_gen fun W3 hW3 => ?_)
  simp [ob, lineO]
  refine ⟨by omega, ?_⟩
  unfold rngD
  refine forW_ind (fun r s G' => ∃ (done : List Nat) (o4 : Option D), s = [some (.ref x), some (.ref a1), some (.ref a2), some (.ref q), o4] ∧ done ++ r = List.range S.n ∧
    G' = gput (gput (gput G a1 (.lst (fnL (S.n + 1) fun v => .int (gS S v)))) a2 (.lst (fnL (S.n + 1) fun v => encL (lS S v)))) q (.lst (done.map fun k => .int (priceS S k)))) (fun _ _ _ _ => trivial) ?_ ?_ (List.range S.n) _ _ ⟨[], none, rfl, rfl, rfl⟩
  · rintro k r s G' W ⟨done, o4, rfl, hr, rfl⟩ hW
    have hk : k < S.n := by
      have : k ∈ List.range S.n := by rw [← hr]; simp
      simpa using this
    have hd : done.length ≤ S.n := by have := congrArg List.length hr; simp at this; omega
    have a1k : atI (fnL (S.n + 1) fun v => D.int (gS S v)) ((k : Int) + 1) = some (.int (gS S (k + 1))) := fnL_at (k := k + 1) (by omega)
    simp [r_Line_prices_now_L1, gput_same]
    simp [ga, fnL_at (show k < S.n + 1 by omega), a1k]
    simp [ob, lineO]
    refine ⟨x, dx, af, ai, at_, S, k, rfl, L1 _, fun i hi => (hF.sp i hi).2.2, ?_⟩
    simp [gput_same, gput_gput]
    refine ⟨by omega, hW _ _ ⟨done ++ [k], _, rfl, by simpa using hr, ?_⟩⟩
    rw [List.map_append]
    rfl
  · rintro s G' ⟨done, o4, rfl, hr, rfl⟩
    simp only [List.append_nil] at hr
    subst hr
    refine hW3 _ _ ?_
    simp
    exact fin_lst (sub _) gput_same hq0 (refIns_plain (plainDs_map (fun _ => rfl) _)) kk
theorem d_Line___init__ (ds : List D) (G : Gp) (Q : DK) (h : F_Line___init__ ds G Q) : r_Line___init__ (fin G Q) (startD 8 ds) G := by
  obtain ⟨x, dx, n, m, sp, must, rfl, hx, zn, zm, kk⟩ := h
  have comp0 : ∀ (G : Gp) (s0 : Sd) (j : Nat) (d : D) (k : Nat) (f : Nat → D) (Q : List D → Gp → Prop), Q (fnL k fun _ => d) G → compW s0 (.nm j) eYes (eC d) (fun _ => True) (fnL k f) [] G Q := fun G s0 j d k f Q q => by
    refine compW_all (f := fun _ : Nat => d) (g := f) True.intro (List.range k) [] (fun i hi => ⟨_, rfl, fun R r => by simpa using r⟩) ?_
    rw [List.nil_append, fnL_const, List.length_range]
    exact q
  refine seq_gen fun W hW => ?_
  simp [startD, hx]
  refine hW _ _ (seq_gen fun W2 hW2 => ?_)
  simp [gput_same, gput_gput]
  refine hW2 _ _ (seq_gen fun W3 hW3 => ?_)
  simp
  refine comp0 _ _ _ _ _ _ _ fun af h1 => ?_
  have xf : x ≠ af := fun z => by subst z; rw [gput_same] at h1; cases h1
  have h1' : G af = none := by rw [gput_ne xf.symm] at h1; exact h1
  simp [gput_ne xf, gput_same]
  rw [gput_swap xf.symm]
  refine hW3 _ _ (seq_gen fun W4 hW4 => ?_)
  simp
  refine comp0 _ _ _ _ _ _ _ fun ai h2 => ?_
  have fi : af ≠ ai := fun z => by subst z; rw [gput_same] at h2; cases h2
  have xi : x ≠ ai := fun z => by subst z; rw [gput_ne xf, gput_same] at h2; cases h2
  have h2' : G ai = none := by rw [gput_ne fi.symm, gput_ne xi.symm] at h2; exact h2
  have sw : ∀ (o o' : GO) (a b : GO), gput (gput (gput (gput G x o) af a) ai b) x o' = gput (gput (gput G x o') af a) ai b := fun o o' a b => by
    funext c
    by_cases c1 : c = ai
    · subst c1; rw [gput_ne xi.symm, gput_same, gput_same]
    · by_cases c2 : c = x
      · subst c2; rw [gput_same, gput_ne c1, gput_ne xf, gput_same]
      · rw [gput_ne c2, gput_ne c1, gput_ne c1]
        by_cases c3 : c = af
        · subst c3; rw [gput_same, gput_same]
        · rw [gput_ne c3, gput_ne c3, gput_ne c2, gput_ne c2]
  simp [gput_ne xi, gput_ne xf, gput_same]
  rw [sw]
  refine hW4 _ _ (seq_gen fun W5 hW5 => ?_)
  simp
  refine comp0 _ _ _ _ _ _ _ fun at_ h3 => ?_
  have it : ai ≠ at_ := fun z => by subst z; rw [gput_same] at h3; cases h3
  have ft : af ≠ at_ := fun z => by subst z; rw [gput_ne fi, gput_same] at h3; cases h3
  have xt : x ≠ at_ := fun z => by subst z; rw [gput_ne xi, gput_ne xf, gput_same] at h3; cases h3
  have h3' : G at_ = none := by rw [gput_ne it.symm, gput_ne ft.symm, gput_ne xt.symm] at h3; exact h3
  simp [gput_ne xt, gput_ne xi, gput_ne xf, gput_same]
  refine hW5 _ _ ?_
  simp
  unfold fnL
  refine compW_all (f := fun i : Nat => D.int (sp i).w) (g := fun i => sp3D (sp i)) True.intro (List.range m) [] (fun i hi => ⟨_, rfl, fun R r => by simpa using r⟩) ?_
  have ei : intsD ((List.range m).map fun i : Nat => D.int (sp i).w) = some ((List.range m).map fun i => (sp i).w) := intsD_f _
  simp only [List.nil_append, lkL_lst, Option.bind_some, ei, sum_fn]
  simp [gput_same, gput_gput]
  refine ⟨.non, _, fz_id, kk af ai at_ _ ⟨?_, ?_, ?_, ?_, fi, ft, it, zn, zm⟩ h1' h2' h3' fun b b1 b2 b3 b4 => ?_⟩
  · rw [gput_same]; rfl
  · rw [gput_ne xf.symm, gput_ne ft, gput_ne fi, gput_same]; rfl
  · rw [gput_ne xi.symm, gput_ne it, gput_same]; rfl
  · rw [gput_ne xt.symm, gput_same]; rfl
  · rw [gput_ne b1, gput_ne b4, gput_ne b3, gput_ne b2, gput_ne b1]
theorem load_le {m : Nat} {tk : Nat → Bool} {sp : Nat → Sp3} {k : Nat} : (sumN m fun i => if tk i = true ∧ (sp i).b ≤ k ∧ k < (sp i).e then 1 else 0) ≤ m := by
  have e : ∀ m : Nat, sumN m (fun _ => 1) = m := fun m => by induction m with
    | zero => rfl
    | succ m ih => rw [sumN, ih]; omega
  rw [← e m]
  refine sumN_le fun i _ => ?_
  split <;> omega
theorem line0_sent {n m : Nat} {sp : Nat → Sp3} {must : Nat → Int} (hs : ∀ i, i < m → (sp i).b < (sp i).e ∧ (sp i).e ≤ n ∧ 0 ≤ (sp i).w) (hm : ∀ k, k < n → 0 ≤ must k) : Sent (line0 n m sp must) 0 := by
  have hF : Fix (line0 n m sp must) := ⟨hs, rfl, hm⟩
  refine ⟨⟨hF, fun k hk => ⟨Int.le_refl _, hm k hk⟩, fun k hk => Int.le_refl _⟩, fun k hk => ?_, pot0 hF (fun _ => rfl) (fun _ => rfl) (fun _ => rfl)⟩
  unfold tot loadK
  show (0 : Int) + 0 + sumN m (fun i => if false = true ∧ _ then 1 else 0) = 0
  rw [sumN_congr (g := fun _ => 0) (fun i _ => if_neg (fun z => by cases z.1)), sumN_zero]; rfl
theorem lineU_ok {S : LN.LS} (hs : Sent S 0) : ∀ u : Nat, Sent (lineU S u) u ∧ (lineU S u).n = S.n ∧ (lineU S u).m = S.m ∧ (lineU S u).sp = S.sp ∧ (lineU S u).must = S.must ∧ (lineU S u).great = S.great
  | 0 => ⟨hs, rfl, rfl, rfl, rfl, rfl⟩
  | u + 1 => by
    obtain ⟨a, b, c, d, e, f⟩ := lineU_ok hs u
    obtain ⟨_, a', _, b', c', d', e', f'⟩ := sendS_ok a
    exact ⟨by rw [lineU, Int.natCast_add]; exact a', b'.trans b, c'.trans c, d'.trans d, e'.trans e, f'.trans f⟩
theorem most_bd {n m : Nat} {lim : Nat → Int} : 0 ≤ mostN n m lim ∧ mostN n m lim ≤ (m : Int) + 1 ∧ ∀ k, k < n → olN m lim k ≤ mostN n m lim := by
  refine ⟨maxN_nn, ?_, fun k hk => maxN_ge hk⟩
  unfold mostN
  rcases maxN_at (n := n) (f := olN m lim) with z | ⟨k, hk, z⟩
  · omega
  · rw [z]; unfold olN; split <;> omega
theorem lineC_ok {n m : Nat} {sp : Nat → Sp3} {lim : Nat → Int} (hs : ∀ i, i < m → (sp i).b < (sp i).e ∧ (sp i).e ≤ n ∧ 0 ≤ (sp i).w) : Sent (lineC n m sp lim) (mostN n m lim) ∧ (lineC n m sp lim).n = n ∧ (lineC n m sp lim).m = m ∧ (lineC n m sp lim).sp = sp ∧ (lineC n m sp lim).must = fun k => mostN n m lim - olN m lim k := by
  obtain ⟨b1, b2, b3⟩ := most_bd (n := n) (m := m) (lim := lim)
  have h0 := line0_sent (n := n) (m := m) (sp := sp) (must := fun k => mostN n m lim - olN m lim k) hs (fun k hk => by have := b3 k hk; show 0 ≤ mostN n m lim - olN m lim k; omega)
  obtain ⟨a, b, c, d, e, f⟩ := lineU_ok h0 (mostN n m lim).toNat
  rw [show (((mostN n m lim).toNat : Nat) : Int) = mostN n m lim by omega] at a
  exact ⟨a, b, c, d, e⟩
theorem chosen_ok {n m : Nat} {sp : Nat → Sp3} {lim : Nat → Int} (hs : ∀ i, i < m → (sp i).b < (sp i).e ∧ (sp i).e ≤ n ∧ 0 ≤ (sp i).w) (hl : ∀ k, k < n → 0 ≤ lim k) : Chosen n m sp lim (chT n m sp lim) (chP n m sp lim) := by
  obtain ⟨hS, e1, e2, e3, e4⟩ := lineC_ok (lim := lim) hs
  obtain ⟨_, _, _, road⟩ := roadS_ok hS.ok.toFix hS.pot
  unfold chT chP
  generalize lineC n m sp lim = S at *
  have ol0 : ∀ k, k < n → 0 ≤ olN m lim k := fun k hk => by have := hl k hk; unfold olN; split <;> omega
  have hm1 : ∀ k, k < S.n → S.must k ≤ mostN n m lim := fun k hk => by rw [e4]; have := ol0 k (by omega); show mostN n m lim - olN m lim k ≤ mostN n m lim; omega
  have hll : ∀ k, k < S.n → lim k = mostN n m lim - S.must k ∨ (mostN n m lim - S.must k < lim k ∧ loadK S k < mostN n m lim - S.must k) := fun k hk => by
    rw [e4]
    show lim k = mostN n m lim - (mostN n m lim - olN m lim k) ∨ (mostN n m lim - (mostN n m lim - olN m lim k) < lim k ∧ loadK S k < mostN n m lim - (mostN n m lim - olN m lim k))
    have ll := load_le (m := S.m) (tk := S.taken) (sp := S.sp) (k := k)
    unfold loadK
    by_cases q : (m : Int) + 1 < lim k
    · right
      have : olN m lim k = (m : Int) + 1 := if_pos q
      rw [e2] at ll ⊢
      omega
    · left
      have : olN m lim k = lim k := if_neg q
      omega
  have hgr := gr_ok S
  obtain ⟨c1, c2, c3⟩ := claim_is (gr := grS S) (lim := lim) hS.ok road.pot (fun k hk => (hgr k).nn) hS.tt hm1 hll (fun i k hi h1 h2 => (hgr k).ge i hi h1 h2)
  unfold loadK at c1 c2
  rw [e1, e2, e3] at c1 c2 c3
  refine ⟨c1, c2, fun k hk => price_nn road.pot (fun k hk => (hgr k).nn) (by omega), fun k hk => ?_, c3⟩
  have nn := price_nn (gr := grS S) road.pot (fun k hk => (hgr k).nn) (show k < S.n by omega)
  have le : price (gS S) (grS S) k ≤ grS S k := by unfold price; split <;> omega
  unfold priceS
  rcases (hgr k).at_ with z | ⟨i, hi, h1, h2, h3⟩
  · left; omega
  · right; rw [e3] at h1 h2 h3; exact ⟨i, by omega, h1, h2, by omega⟩
theorem d_chosen_within (ds : List D) (G : Gp) (Q : DK) (h : F_chosen_within ds G Q) : r_chosen_within (fin G Q) (startD 7 ds) G := by
  obtain ⟨n, m, sp, lim, rfl, zn, zm, hs, hl, kk⟩ := h
  refine seq_gen fun W hW => ?_
  simp [startD]
  have ol0 : ∀ k, k < n → 0 ≤ olN m lim k := fun k hk => by have := hl k hk; unfold olN; split <;> omega
  obtain ⟨b1, b2, b3⟩ := most_bd (n := n) (m := m) (lim := lim)
  have hW' : W [some (.lst (fnL m fun i => sp3D (sp i))), some (.lst (fnL n fun k => .int (lim k))), some (.lst (fnL n fun k => .int (olN m lim k))), none, none, none, none] G := by
    refine hW _ _ (seq_gen fun W2 hW2 => ?_)
    have ei : intsD (fnL n fun k => .int (olN m lim k)) = some ((List.range n).map (olN m lim)) := intsD_f _
    simp only [sAsg, eMaxD, eVar, eC, List.getElem?_cons_succ, List.getElem?_cons_zero, lkL_lst, Option.bind_some, ei, asg, List.set_cons_succ, List.set_cons_zero]
    have main : W2 [some (.lst (fnL m fun i => sp3D (sp i))), some (.lst (fnL n fun k => .int (lim k))), some (.lst (fnL n fun k => .int (olN m lim k))), some (.int (mostN n m lim)), none, none, none] G := by
      refine hW2 _ _ (seq_gen fun W3 hW3 => ?_)
      simp
      refine compW_all (f := fun k : Nat => D.int (mostN n m lim - olN m lim k)) (g := fun k => .int (olN m lim k)) True.intro (List.range n) [] (fun i hi => ⟨_, rfl, fun R r => by simpa using r⟩) ?_
      intro x dx hx
      refine ⟨x, dx, n, m, sp, fun k => mostN n m lim - olN m lim k, rfl, gput_same, zn, zm, fun af ai at_ G' L hf hi ht hb => ⟨rfl, hW3 _ _ (seq_gen fun W4 hW4 => ?_)⟩⟩
      have fr : ∀ G2, But3 af ai at_ G' G2 → ∀ a o, G a = some o → G2 a = some o := fun G2 hB a o e => by
        have n0 : G a ≠ none := by rw [e]; simp
        have nx : a ≠ x := fun z => n0 (by rw [z]; exact hx)
        have q1 : a ≠ af := fun z => n0 (by rw [gput_ne (by rw [← z]; exact nx)] at hf; rw [z]; exact hf)
        have q2 : a ≠ ai := fun z => n0 (by rw [gput_ne (by rw [← z]; exact nx)] at hi; rw [z]; exact hi)
        have q3 : a ≠ at_ := fun z => n0 (by rw [gput_ne (by rw [← z]; exact nx)] at ht; rw [z]; exact ht)
        rw [hB a q1 q2 q3, hb a nx q1 q2 q3, gput_ne nx]; exact e
      have h0 := line0_sent (n := n) (m := m) (sp := sp) (must := fun k => mostN n m lim - olN m lim k) hs (fun k hk => by have := b3 k hk; show 0 ≤ mostN n m lim - olN m lim k; omega)
      simp
      refine ⟨by omega, by omega, ?_⟩
      unfold rngD
      refine forW_ind (fun r s G2 => ∃ (o5 : Option D) (u : Nat), s = [some (.lst (fnL m fun i => sp3D (sp i))), some (.lst (fnL n fun k => .int (lim k))), some (.lst (fnL n fun k => .int (olN m lim k))), some (.int (mostN n m lim)), some (.ref x), o5, none] ∧ u + r.length = (mostN n m lim).toNat ∧ LnA G2 x dx af ai at_ (lineU (line0 n m sp fun k => mostN n m lim - olN m lim k) u) ∧ But3 af ai at_ G' G2) (fun _ _ _ _ => trivial) ?_ ?_ (List.range (mostN n m lim).toNat) _ _ ⟨_, 0, rfl, by simp, L, fun _ _ _ _ => rfl⟩
      · rintro j r s G2 W5 ⟨o5, u, rfl, hu, L2, hB⟩ hW5
        simp [r_chosen_within_L1, L2.ob, lineO]
        refine ⟨x, dx, af, ai, at_, _, _, rfl, L2, (lineU_ok h0 u).1, fun G3 L3 hB3 => hW5 _ _ ⟨_, u + 1, rfl, by simp at hu; omega, L3, fun b q1 q2 q3 => by rw [hB3 b q1 q2 q3]; exact hB b q1 q2 q3⟩⟩
      · rintro s G2 ⟨o5, u, rfl, hu, L2, hB⟩
        refine hW4 _ _ ?_
        simp only [List.length_nil, Nat.add_zero] at hu
        subst hu
        have L2 : LnA G2 x dx af ai at_ (lineC n m sp lim) := L2
        obtain ⟨hS, e1, e2, e3, e4⟩ := lineC_ok (lim := lim) hs
        simp [L2.ob, lineO]
        refine ⟨x, dx, af, ai, at_, _, rfl, L2, ?_⟩
        simp [L2.ob, lineO]
        refine ⟨x, dx, af, ai, at_, _, rfl, L2, hS.ok.toFix, hS.pot, ?_⟩
        simp
        refine fin_back (fr G2 hB) (refIn_plain ?_) ?_
        · simp only [plainD, plainDs, Bool.and_true, Bool.and_eq_true]
          exact ⟨plainDs_map (fun _ => rfl) _, plainDs_map (fun _ => rfl) _⟩
        · unfold takenL
          rw [e1, e2]
          exact kk
    refine ⟨fun z => ?_, fun _ mx hmx hy => ?_⟩
    · have n0 : n = 0 := by simpa using z
      have e : mostN n m lim = 0 := by subst n0; rfl
      rw [e] at main
      exact main
    · obtain ⟨k, hk, rfl⟩ := List.mem_map.mp hmx
      have hk : k < n := by simpa using hk
      have e : olN m lim k = mostN n m lim := maxN_uniq (ol0 k hk) (fun j hj => hy _ (List.mem_map.mpr ⟨j, by simpa using hj, rfl⟩)) (.inr ⟨k, hk, rfl⟩)
      rw [e]
      exact main
  refine compW_all (f := fun k : Nat => D.int (olN m lim k)) (g := fun k => .int (lim k)) True.intro (List.range n) [] (fun i hi => ⟨_, rfl, fun R r => ?_⟩) ?_
  · simp
    exact r
  · simpa [fnL] using hW'
end DL
set_option Elab.async false
set_option linter.all false
set_option maxRecDepth 100000
set_option maxHeartbeats 4000000
namespace DL
open PySem PySem.Spec PyProof.Rows L2 LN
def nPc (bk : List Stretch) : Nat := (momentsOf bk).length - 1
theorem sum_filter {p : Nat → Bool} {f : Nat → Int} : ∀ n : Nat, (((List.range n).filter p).map f).sum = sumN n fun i => if p i = true then f i else 0
  | 0 => rfl
  | n + 1 => by
    rw [List.range_succ, List.filter_append, List.map_append, List.sum_append, sum_filter n, sumN]
    cases e : p n <;> simp [e]
theorem len_filter {p q : Nat → Bool} : ∀ n : Nat, ((((List.range n).filter p).filter q).length : Int) = sumN n fun i => if p i = true ∧ q i = true then 1 else 0
  | 0 => rfl
  | n + 1 => by
    rw [List.range_succ, List.filter_append, List.filter_append, List.length_append, Int.natCast_add, len_filter n, sumN]
    cases e : p n <;> cases e2 : q n <;> simp [e, e2]
/-- the paper of prices at moments of the pieces -/
def paperP (n : Nat) (pm pr : Nat → Int) : Paper := ((List.range n).filter fun k => decide (0 < pr k)).map fun k => (pm k, pr k)
theorem paper_sum {n : Nat} {pm pr : Nat → Int} (nn : ∀ k, k < n → 0 ≤ pr k) (B : Int → Int) : ((paperP n pm pr).map fun x => x.2 * B x.1).sum = sumN n fun k => pr k * B (pm k) := by
  unfold paperP
  rw [List.map_map, show ((fun x : Int × Int => x.2 * B x.1) ∘ fun k => (pm k, pr k)) = fun k => pr k * B (pm k) from rfl, sum_filter]
  refine sumN_congr fun k hk => ?_
  have := nn k hk
  by_cases q : 0 < pr k
  · simp [q]
  · have e : pr k = 0 := by omega
    simp [e]
/-- what most_of tells -/
structure MostOk (bk : List Stretch) (lm : Int → Int) (l : List Nat) (pp : Paper) : Prop where
  some : Some bk.length l
  fits : ∀ m, (∃ i, i < bk.length ∧ over (st bk i) m = true) → (loadAt bk l m : Int) ≤ lm m
  clm : (bk.map fun s => restOf s pp).sum + (pp.map fun x => x.2 * lm x.1).sum = worthOf bk l
  len : pp.length ≤ nPc bk
  up : pp.Pairwise fun x y => x.1 < y.1
  p1 : ∀ x ∈ pp, 1 ≤ x.2
  ov : ∀ x ∈ pp, ∃ i, i < bk.length ∧ over (st bk i) x.1 = true ∧ x.2 ≤ (st bk i).w
  sl : ∀ x ∈ pp, (loadAt bk l x.1 : Int) = lm x.1
end DL
set_option Elab.async false
set_option linter.all false
set_option maxRecDepth 100000
set_option maxHeartbeats 4000000
namespace DL
open PySem PySem.Spec PyProof.Rows L2 LN
end DL
set_option Elab.async false
set_option linter.all false
set_option maxRecDepth 100000
set_option maxHeartbeats 4000000
namespace DL
open PySem PySem.Spec PyProof.Rows L2
mutual
def frzD (G : Gp) : D → Option D
  | .ref a => match G a with
    | some (.lst es) => if plainDs es = true then some (.lst es) else none
    | _ => none
  | .lst ds => (frzDs G ds).map .lst
  | .tup ds => (frzDs G ds).map .tup
  | .dct ks ds => (frzDs G ds).map (.dct ks)
  | .non => some .non
  | .bl b => some (.bl b)
  | .int b => some (.int b)
  | .str b => some (.str b)
  | .ty b => some (.ty b)
  | .cl b => some (.cl b)
  | .exc _ _ _ _ => none
  | .scr b => some (.scr b)
def frzDs (G : Gp) : List D → Option (List D)
  | [] => some []
  | d :: ds => match frzD G d, frzDs G ds with
    | some a, some r => some (a :: r)
    | _, _ => none
end
mutual
def flatT : D → Bool
  | .non => true
  | .bl _ => true
  | .int _ => true
  | .str _ => true
  | .tup ds => flatTs ds
  | _ => false
def flatTs : List D → Bool
  | [] => true
  | d :: ds => flatT d && flatTs ds
end
mutual
def resT : D → Bool
  | .non => true
  | .bl _ => true
  | .int _ => true
  | .str _ => true
  | .ref _ => true
  | .tup ds => resTs ds
  | _ => false
def resTs : List D → Bool
  | [] => true
  | d :: ds => resT d && resTs ds
end
def flatO : GO → Bool
  | .lst ds => flatTs ds
  | _ => false
def gmerge (G G' : Gp) : Gp := fun a => match G' a with
  | some o => some o
  | none => G a
@[simp] theorem gmerge_none {G : Gp} : gmerge G (fun _ => none) = G := rfl
@[simp] theorem gmerge_put {G G' : Gp} {a : Addr} {o : GO} : gmerge G (gput G' a o) = gput (gmerge G G') a o := by
  funext b
  unfold gmerge
  by_cases h : b = a
  · subst h; rw [gput_same, gput_same]
  · rw [gput_ne h, gput_ne h]
@[simp] def eCallB (F : Sf) (ea : EA) : EE := fun s G Q => ea s G fun ds G1 => match frzDs G1 ds with
  | some ds' => F ds' (fun _ => none) fun d G' => resT d = true ∧ (∀ a o, G' a = some o → flatO o = true) ∧ ((∀ a o, G' a = some o → G1 a = none) → Q d (gmerge G1 G'))
  | none => False
section
variable {K : PySem.W.Frag} {P : Addr → Prop} {G : Gp} {H : Hp}
mutual
theorem Rep.bare (w : Wo K P G H) : ∀ {d : D} {v : V}, plainD d = true → Rep K H G P d v → Rep K H (fun _ => none) P d v
  | .non, _, _, h => by unfold Rep at h ⊢; exact h
  | .bl _, _, _, h => by unfold Rep at h ⊢; exact h
  | .int _, _, _, h => by unfold Rep at h ⊢; exact h
  | .str _, _, _, h => by unfold Rep at h ⊢; exact h
  | .ty _, _, _, h => by unfold Rep at h ⊢; exact h
  | .cl _, _, _, h => by unfold Rep at h ⊢; exact h
  | .ref a, _, q, h => by simp [plainD] at q
  | .exc a dd f e, _, q, h => by simp [plainD] at q
  | .scr ns, _, _, h => by
    unfold Rep at h ⊢
    obtain ⟨a, rfl, z, ⟨⟨o, h⟩, g⟩ | ⟨h, g, pp⟩ | h⟩ := h
    · exact ⟨a, rfl, z, .inl ⟨⟨o, h⟩, rfl⟩⟩
    · exact ⟨a, rfl, z, .inr (.inl ⟨h, rfl, pp⟩)⟩
    · exact ⟨a, rfl, z, .inr (.inr h)⟩
  | .lst ds, _, q, h => by
    unfold Rep at h ⊢
    obtain ⟨a, xs, rfl, g, p, r, z, t⟩ := h
    simp only [plainD] at q
    exact ⟨a, xs, rfl, rfl, p, r, z, Reps.bare w q t⟩
  | .tup ds, _, q, h => by
    unfold Rep at h ⊢
    obtain ⟨a, xs, rfl, g, p, r, z, t⟩ := h
    simp only [plainD] at q
    exact ⟨a, xs, rfl, rfl, p, r, z, Reps.bare w q t⟩
  | .dct ks ds, _, q, h => by
    unfold Rep at h ⊢
    obtain ⟨a, xs, rfl, g, p, r, z, t⟩ := h
    simp only [plainD] at q
    exact ⟨a, xs, rfl, rfl, p, r, z, Reps.bare w q t⟩
theorem Reps.bare (w : Wo K P G H) : ∀ {ds : List D} {vs : List V}, plainDs ds = true → Reps K H G P ds vs → Reps K H (fun _ => none) P ds vs
  | [], _, _, h => by unfold Reps at h ⊢; exact h
  | d :: ds, _, q, h => by
    unfold Reps at h ⊢
    obtain ⟨x, r, rfl, h1, h2⟩ := h
    simp only [plainDs, Bool.and_eq_true] at q
    exact ⟨x, r, rfl, Rep.bare w q.1 h1, Reps.bare w q.2 h2⟩
end
/-- H' holds all that H held -/
theorem not_tup {H H' : Hp} (w : Wo K P G H) (ext : ∀ a o, H a = some o → H' a = some o) {a : Addr} {xs : List V} (h : H' a = some (.tup xs)) : G a = none := by
  cases e : G a with
  | none => rfl
  | some o =>
    obtain ⟨ho, e1, r⟩ := w.own a o e
    have e2 := ext a _ e1
    rw [h] at e2
    cases e2
    cases o with
    | lst ds => obtain ⟨xs, e, _⟩ := r; cases e
    | dct ks ds => obtain ⟨xs, e, _⟩ := r; cases e
    | ins C dx ks ds => obtain ⟨xs, e, _⟩ := r; cases e
    | own x => cases r
    | set S n => cases r
    | gen r0 ds => obtain ⟨_, _, e, _⟩ := r; exact absurd rfl (e _)
    | tbl f q a => obtain ⟨_, ps, e, _⟩ := r; cases e
mutual
theorem Rep.backR {H H' : Hp} {G' : Gp} (w : Wo K P G H) (ext : ∀ a o, H a = some o → H' a = some o) : ∀ {d : D} {v : V}, resT d = true → Rep K H' G' P d v → Rep K H' (gmerge G G') P d v
  | .non, _, _, h => by unfold Rep at h ⊢; exact h
  | .bl _, _, _, h => by unfold Rep at h ⊢; exact h
  | .int _, _, _, h => by unfold Rep at h ⊢; exact h
  | .str _, _, _, h => by unfold Rep at h ⊢; exact h
  | .ref a, _, _, h => by
    unfold Rep at h ⊢
    obtain ⟨rfl, o, e⟩ := h
    exact ⟨rfl, o, by unfold gmerge; rw [e]⟩
  | .tup ds, _, q, h => by
    unfold Rep at h ⊢
    obtain ⟨a, xs, rfl, g, p, r, z, t⟩ := h
    simp only [resT] at q
    exact ⟨a, xs, rfl, by unfold gmerge; rw [g]; exact not_tup w ext r, p, r, z, Reps.backR w ext q t⟩
  | .ty _, _, q, h => by simp [resT] at q
  | .cl _, _, q, h => by simp [resT] at q
  | .exc _ _ _ _, _, q, h => by simp [resT] at q
  | .scr _, _, q, h => by simp [resT] at q
  | .lst _, _, q, h => by simp [resT] at q
  | .dct _ _, _, q, h => by simp [resT] at q
theorem Reps.backR {H H' : Hp} {G' : Gp} (w : Wo K P G H) (ext : ∀ a o, H a = some o → H' a = some o) : ∀ {ds : List D} {vs : List V}, resTs ds = true → Reps K H' G' P ds vs → Reps K H' (gmerge G G') P ds vs
  | [], _, _, h => by unfold Reps at h ⊢; exact h
  | d :: ds, _, q, h => by
    unfold Reps at h ⊢
    obtain ⟨x, r, rfl, h1, h2⟩ := h
    simp only [resTs, Bool.and_eq_true] at q
    exact ⟨x, r, rfl, Rep.backR w ext q.1 h1, Reps.backR w ext q.2 h2⟩
end
end
@[simp] theorem frzDs_nil {G : Gp} : frzDs G [] = some [] := by simp only [frzDs]
@[simp] theorem frzDs_cons {G : Gp} {d : D} {ds : List D} : frzDs G (d :: ds) = match frzD G d, frzDs G ds with
    | some a, some r => some (a :: r)
    | _, _ => none := by rw [frzDs]
@[simp] theorem frzD_int {G : Gp} {i : Int} : frzD G (.int i) = some (.int i) := by simp only [frzD]
@[simp] theorem frzD_bl {G : Gp} {i : Bool} : frzD G (.bl i) = some (.bl i) := by simp only [frzD]
@[simp] theorem frzD_str {G : Gp} {i : Str} : frzD G (.str i) = some (.str i) := by simp only [frzD]
@[simp] theorem frzD_non {G : Gp} : frzD G .non = some .non := by simp only [frzD]
@[simp] theorem frzD_tup {G : Gp} {ds : List D} : frzD G (.tup ds) = (frzDs G ds).map .tup := by rw [frzD]
end DL
set_option Elab.async false
set_option linter.all false
set_option maxRecDepth 100000
set_option maxHeartbeats 4000000
namespace DL
open PySem PySem.Spec PyProof.Rows L2
section
variable {X : Cx} {K : PySem.W.Frag} {P : Addr → Prop} {G : Gp} {H : Hp} {tg : Expr}
/-- what is walked: a tuple -/
@[simp] def iT (t : EE) : EI := fun s G Q => t s G fun x G1 => match x with
  | .tup ds => Q ds (fun _ => True) G1
  | _ => False
theorem ji_tup {l : Expr} {el : EE} (hl : JE X l el) : JI X tg l (iT el) := ⟨pi_tup hl.pe, fun P s G Q σ H R h r k => by
  refine hl.le P s G _ σ H _ h r fun x G1 u H1 s1 w1 r1 h1 => ?_
  split at h1
  · rename_i ds
    obtain ⟨a, xs, rfl, g, p, rr, z, q⟩ := rep_t r1
    refine ⟨a, rfl, ⟨xs, SqT.of rr⟩, k ds _ G1 _ H1 s1 w1 ⟨z, fun P' G2 H2 i hP st w kp => ?_⟩ h1⟩
    have q2 : Reps X.K H2 G2 P' ds xs := Reps.mono st hP q
    have rr2 := (st.keep a _ rr g).1
    refine ⟨fun d hd => ?_, fun hi => ⟨xs, SqT.of rr2, by rw [← q2.length]; exact hi⟩⟩
    obtain ⟨v, e1, r1⟩ := q2.get hd
    refine ⟨⟨xs, v, SqT.of rr2, e1⟩, fun y H' hy => ?_⟩
    obtain ⟨rfl, f⟩ := hy
    have := f xs (SqT.of rr2)
    rw [e1] at this
    cases this
    exact ⟨Step.refl _ _, w, r1⟩
  · exact h1.elim⟩
/-- xs.pop(i) -/
@[simp] def mPopAt : MD := fun x xs G Q => match x, xs with
  | .ref p, [.int i] => (match G p with
    | some (.lst ds) => 0 ≤ i ∧ i < 2 ^ 62 ∧ (match ds[i.toNat]? with
      | some d => Q d (gput G p (.lst (ds.eraseIdx i.toNat)))
      | none => False)
    | _ => False)
  | _, _ => False
end
end DL
set_option Elab.async false
set_option linter.all false
set_option maxRecDepth 100000
set_option maxHeartbeats 4000000
namespace DL
open PySem PySem.Spec PyProof.Rows L2 LN
def F__law_is_paper : Sf := fun ds G Q => ∃ (pp : Paper), ds = [.lst (pp.map qD)] ∧ POk pp ∧ Q (.bl true) G
def r__law_is_paper_L1 : ES :=
  (sIf (eOr (eNot (eTru (eCB cIsi (eCons (eVar 3) (eCons (eC (.ty "int")) eNil))))) (eTru (eCB cIsi (eCons (eVar 3) (eCons (eC (.ty "bool")) eNil))))) (sRet (eC (.bl false))) sNext)
def r__law_is_paper_L2 : ES :=
  (sSeq (sIf (eOr (eNot (eTru (eCB cIsi (eCons (eVar 2) (eCons (eC (.ty "tuple")) eNil))))) (eT (eOp oNe (eCB cLen (eCons (eVar 2) eNil)) (eC (.int 2))))) (sRet (eC (.bl false))) sNext)
  (sSeq (sFor (iT (eVar 2)) (.nm 3) r__law_is_paper_L1)
  (sSeq (sIf (eOr (eT (eOp oLe (eOp oIx (eVar 2) (eC (.int 0))) (eVar 1))) (eOr (eT (eOp oGe (eOp oIx (eVar 2) (eC (.int 0))) (eOp oPow (eC (.int 10)) (eC (.int 12))))) (eOr (eT (eOp oLt (eOp oIx (eVar 2) (eC (.int 1))) (eC (.int 1)))) (eT (eOp oGt (eOp oIx (eVar 2) (eC (.int 1))) (eOp oPow (eC (.int 10)) (eC (.int 13)))))))) (sRet (eC (.bl false))) sNext)
  (sAsg (eOp oIx (eVar 2) (eC (.int 0))) (.nm 1)))))
def r__law_is_paper : ES :=
  (sSeq (sIf (eOr (eNot (eTru (eCB cIsi (eCons (eVar 0) (eCons (eC (.ty "list")) eNil))))) (eT (eOp oGt (eCB cLen (eCons (eVar 0) eNil)) (eC (.int 48))))) (sRet (eC (.bl false))) sNext)
  (sSeq (sAsg (eOp oSub (eUn oNeg (eOp oPow (eC (.int 10)) (eC (.int 12)))) (eC (.int 1))) (.nm 1))
  (sSeq (sFor (iL (eVar 0)) (.nm 2) r__law_is_paper_L2)
  (sRet (eC (.bl true))))))
theorem d__law_is_paper (ds : List D) (G : Gp) (Q : DK) (h : F__law_is_paper ds G Q) : r__law_is_paper (fin G Q) (startD 4 ds) G := by
  obtain ⟨pp, rfl, hp, k⟩ := h
  have hl := hp.len
  refine seq_gen fun W hW => ?_
  simp [startD]
  rw [if_neg (by omega)]
  refine hW _ _ (seq_gen fun W2 hW2 => ?_)
  simp
  refine hW2 _ _ (seq_gen fun W3 hW3 => ?_)
  simp
  refine forW_ind (fun r s G' => G' = G ∧ ∃ (done : Paper) (last : Int) (o2 o3 : Option D), done ++ r = pp ∧ (∀ x ∈ r, last < x.1) ∧ s = [some (.lst (pp.map qD)), some (.int last), o2, o3]) (fun _ _ _ _ => trivial) ?_ ?_ pp _ _ ⟨rfl, [], -1000000000001, none, none, rfl, fun x hx => by have := hp.lo x hx; omega, rfl⟩
  · rintro x r sd G' W ⟨rfl, done, last, o2, o3, hr, hlast, rfl⟩ hW
    have hx : x ∈ pp := by rw [← hr]; simp
    refine seq_gen fun W4 hW4 => ?_
    simp [qD]
    refine hW4 _ _ (seq_gen fun W5 hW5 => ?_)
    simp [forW, r__law_is_paper_L1]
    refine hW5 _ _ (seq_gen fun W6 hW6 => ?_)
    have a1 := hp.hi x hx
    have a2 := hp.p1 x hx
    have a3 := hp.p2 x hx
    have a4 := hlast x List.mem_cons_self
    simp [atI, ixN]
    rw [if_neg (by omega), if_neg (by omega), if_neg (by omega), if_neg (by omega)]
    refine hW6 _ _ ?_
    simp [atI, ixN]
    refine hW _ _ ⟨rfl, done ++ [x], _, _, _, by simpa using hr, fun z hz => ?_, rfl⟩
    have up := hp.up
    rw [← hr, List.pairwise_append] at up
    exact (List.pairwise_cons.mp up.2.1).1 z hz
  · rintro sd G' ⟨rfl, done, last, o2, o3, hr, _, rfl⟩
    refine hW3 _ _ ?_
    simp
    exact fin_id k
theorem MostOk.claim {bk : List Stretch} {n : Int} {l : List Nat} {pp : Paper} (h : MostOk bk (fun _ => n) l pp) : claimOf bk n pp = worthOf bk l := by
  have := h.clm
  rw [← this]
  unfold claimOf
  rw [← sum_mul, Int.add_comm]
  congr 2
  exact List.map_congr_left fun x _ => Int.mul_comm _ _
theorem MostOk.load {bk : List Stretch} {n : Int} {l : List Nat} {pp : Paper} (h : MostOk bk (fun _ => n) l pp) (hn : 0 ≤ n) (m : Int) : (loadAt bk l m : Int) ≤ n := by
  by_cases q : ∃ i, i < bk.length ∧ over (st bk i) m = true
  · exact h.fits m q
  · have : loadAt bk l m = 0 := by
      unfold loadAt
      rw [List.length_eq_zero_iff, List.filter_eq_nil_iff]
      exact fun i hi z => q ⟨i, h.some.lt i hi, z⟩
    omega
end DL
set_option Elab.async false
set_option linter.all false
set_option maxRecDepth 100000
set_option maxHeartbeats 4000000
namespace DL
open PySem PySem.Spec PyProof.Rows L2 LN
end DL
set_option Elab.async false
set_option linter.all false
set_option maxRecDepth 100000
set_option maxHeartbeats 4000000
namespace DL
open PySem PySem.Spec PyProof.Rows L2 LN
end DL
set_option Elab.async false
set_option linter.all false
set_option maxRecDepth 100000
set_option maxHeartbeats 4000000
namespace DL
open PySem PySem.Spec PyProof.Rows L2 LN
theorem len_of {G : Gp} {x : D} {ds : List D} {Q : DK} (e : lkL G x = some ds) (h : Q (.int ds.length) G) : cLen [x] G Q := by
  cases x with
  | lst es => cases e; exact h
  | ref a => simp only [cLen, lkQ_ref, e]; exact h
  | scr ns => cases e; simpa using h
  | _ => cases e
end DL
set_option Elab.async false
set_option linter.all false
set_option maxRecDepth 100000
set_option maxHeartbeats 4000000
namespace DL
open PySem PySem.Spec PyProof.Rows L2
def sqP : PyData → Option (List PyData)
  | .list xs => some xs
  | .tuple xs => some xs
  | _ => none
variable {K : PySem.W.Frag}
/-- x in xs, of any data -/
@[simp] def oInD (neg : Bool) : OD := fun x y G Q => match toPy G x, toPy G y with
  | some a, some b => match sqP b with
    | some ds => SeqAt.shaped a = true ∧ a.depth ≤ 60 ∧ SeqAt.shaped b = true ∧ Q (.bl (if neg then !(ds.any fun z => PyData.eqv z a) else ds.any fun z => PyData.eqv z a)) G
    | none => False
  | _, _ => False
@[simp] theorem sqP_list {xs : List PyData} : sqP (.list xs) = some xs := rfl
@[simp] theorem sqP_tuple {xs : List PyData} : sqP (.tuple xs) = some xs := rfl
end DL
set_option Elab.async false
set_option linter.all false
set_option maxRecDepth 100000
set_option maxHeartbeats 4000000
namespace DL
open PySem PySem.Spec PyProof.Rows L2 LN
theorem LnA.put {G : Gp} {x dx af ai at_ q : Addr} {o : GO} {S : LN.LS} (L : LnA G x dx af ai at_ S) (n0 : q ≠ x) (n1 : q ≠ af) (n2 : q ≠ ai) (n3 : q ≠ at_) : LnA (gput G q o) x dx af ai at_ S :=
  ⟨by rw [gput_ne (Ne.symm n0)]; exact L.ob, by rw [gput_ne (Ne.symm n1)]; exact L.fi, by rw [gput_ne (Ne.symm n2)]; exact L.id, by rw [gput_ne (Ne.symm n3)]; exact L.tk, L.n1, L.n2, L.n3, L.zn, L.zm⟩
theorem sumN_le {f g : Nat → Int} : ∀ {n : Nat}, (∀ k, k < n → f k ≤ g k) → sumN n f ≤ sumN n g
  | 0, _ => Int.le_refl _
  | n + 1, h => by rw [sumN, sumN]; have := sumN_le (n := n) fun k hk => h k (by omega); have := h n (by omega); omega
end DL
set_option Elab.async false
set_option linter.all false
set_option maxRecDepth 100000
set_option maxHeartbeats 4000000
namespace DL
open PySem PySem.Spec PyProof.Rows L2 LN
end DL
set_option Elab.async false
set_option linter.all false
set_option maxRecDepth 100000
set_option maxHeartbeats 4000000
namespace DL
open PySem PySem.Spec PyProof.Rows L2
/-- sorted(xs, reverse=True) of ints -/
@[simp] def eSrtR (te td : EE) : EE := fun s G Q => te s G fun x G1 => td s G1 fun d G2 => match d with
  | .bl true => (match (lkL G2 x).bind intsD with
    | some ns => ∀ ms : List Int, ms.Perm ns → ms.Pairwise (· ≥ ·) → Q (.lst (ms.map D.int)) G2
    | none => False)
  | _ => False
end DL
set_option Elab.async false
set_option linter.all false
set_option maxRecDepth 100000
set_option maxHeartbeats 4000000
namespace DL
open PySem PySem.Spec PyProof.Rows L2 LN
end DL
set_option Elab.async false
set_option linter.all false
set_option maxRecDepth 100000
set_option maxHeartbeats 4000000
namespace DL
open PySem PySem.Spec PyProof.Rows L2 LN
def putF (f : Nat → Addr) (u : Nat) (a : Addr) : Nat → Addr := fun v => if v = u then a else f v
end DL
set_option Elab.async false
set_option linter.all false
set_option maxRecDepth 100000
set_option maxHeartbeats 4000000
namespace DL
open PySem PySem.Spec PyProof.Rows L2 LN
abbrev F__law_whole : Sf := F_is_whole
def r__law_whole : ES :=
  (sRet (eAndT (eCB cIsi (eCons (eVar 0) (eCons (eC (.ty "int")) eNil))) (eNotT (eCB cIsi (eCons (eVar 0) (eCons (eC (.ty "bool")) eNil))))))
theorem d__law_whole (ds : List D) (G : Gp) (Q : DK) (h : F__law_whole ds G Q) : r__law_whole (fin G Q) (startD 1 ds) G := d_is_whole ds G Q h
end DL
set_option Elab.async false
set_option linter.all false
set_option maxRecDepth 100000
set_option maxHeartbeats 4000000
namespace DL
open PySem PySem.Spec PyProof.Rows L2 LN
end DL
set_option Elab.async false
set_option linter.all false
set_option maxRecDepth 100000
set_option maxHeartbeats 4000000
namespace DL
open PySem PySem.Spec PyProof.Rows L2 LN
end DL
set_option Elab.async false
set_option linter.all false
set_option maxRecDepth 100000
set_option maxHeartbeats 4000000
namespace DL
open PySem PySem.Spec PyProof.Rows L2
section
variable {X : Cx} {K : PySem.W.Frag} {a b : Expr} {ea eb : EE} {pos : Pos}
@[simp] def oRepO : OD := fun x y G Q => match lkL G x, y with
  | some ds, .int k => (∀ ns, x ≠ .scr ns) ∧ -(2 ^ 63) ≤ k ∧ k < 2 ^ 63 ∧ ds.length * k.toNat ≤ sizeLine ∧ ∀ p, G p = none → Q (.ref p) (gput G p (.lst (List.replicate k.toNat ds).flatten))
  | _, _ => False
theorem lo_repO : LO K rRep oRepO := fun P G H x y u v Q R h w rx ry k => by
  unfold oRepO at h
  split at h
  · rename_i ds kk e1
    obtain ⟨n1, k1, k2, z, q⟩ := h
    rw [rep_i ry]
    obtain ⟨a, xs, rfl, r1, q1, z1⟩ := lk_hp w rx e1 n1
    refine ⟨a, kk, xs, rfl, rfl, r1, k1, k2, by rw [← q1.length]; exact z, fun p hp => ?_⟩
    obtain ⟨st, w', r'⟩ := own_lst w hp (reps_rep q1 kk.toNat) (by simp [List.length_flatten]; rw [Nat.mul_comm]; exact z)
    exact k _ _ _ _ st w' r' (q p (w.fresh hp).1)
  · exact h.elim
theorem j_repO (ha : JE X a ea) (hb : JE X b eb) : JE X (.BinOp a .Mult b pos) (eOp oRepO ea eb) := j_bin op_rep lo_repO ha hb
/-- list(d): its keys, ints; frozen -/
@[simp] def cListDI : CD := fun xs G Q => match xs with
  | [x] => (match (lkD G x).bind fun p => intKs p.1 with
    | some ns => ns.length ≤ 1000 ∧ Q (.lst (ns.map D.int)) G
    | none => False)
  | _ => False
/-- a, b = e, e's value a list -/
@[simp] def sAsgL (te : EE) (is : List Nat) : ES := fun N s G => te s G fun d G1 => match lkL G1 d with
  | some ds => (match setAll s is ds with
    | some s' => N.nx s' G1
    | none => False)
  | none => False
end
end DL
set_option Elab.async false
set_option linter.all false
set_option maxRecDepth 100000
set_option maxHeartbeats 4000000
namespace L2
open PySem PySem.Spec PyProof.Rows
end L2
namespace DL
open PySem PySem.Spec PyProof.Rows L2
@[simp] def oNeNil : OD := fun x y G Q => match lkL G x, lkL G y with
  | some ds, some [] => Q (.bl (!ds.isEmpty)) G
  | _, _ => False
end DL
set_option Elab.async false
set_option linter.all false
set_option maxRecDepth 100000
set_option maxHeartbeats 4000000
namespace L2
open PySem PySem.Spec PyProof.Rows
end L2
namespace DL
open PySem PySem.Spec PyProof.Rows L2
section
variable {K : PySem.W.Frag}
@[simp] def cListX : CD := fun xs G Q => match xs with
  | [.str z] => z.length ≤ sizeLine ∧ Q (.lst (sgnD z)) G
  | _ => False
@[simp] def cTupX : CD := fun xs G Q => match xs with
  | [.str z] => z.length ≤ sizeLine ∧ Q (.tup (sgnD z)) G
  | _ => False
end
end DL
set_option Elab.async false
set_option linter.all false
set_option maxRecDepth 100000
set_option maxHeartbeats 4000000
namespace DL
open PySem PySem.Spec PyProof.Rows L2
/-- as FnOk, where no repr is under way -/
structure FnG (P : Program) (w : World) (K : PySem.W.Frag) (mg : Str → Option Value) (base : Heap) (k : Nat) (f : Addr) (fd : FuncData) (ps : List Str) (sp : Sp) : Prop where
  ln : ∀ vs H Q E, sp vs H Q E → vs.length = ps.length
  go : ∀ (A : Around) (l : List Env) (s : Shared) (H : Hp) (ar : Args) (us : List Value) (vs : List V) (Q : VK) (E : XK), Room k A → A.guards = some [] → Env0 P w K mg base A l s H → BindsTo s fd ar (ps.zip us) → Vals vs us → sp vs H Q E → codeAny (model P w) A (.call (.ref f) ar) (CR CX0 l P w H s Q E) s
theorem fnG_ok {P : Program} {w : World} {K : PySem.W.Frag} {mg : Str → Option Value} {base : Heap} {x qual : Str} {params : Arguments} {body : List Stmt} {scope : Scope} {kws : List (Str × V)} {dvs : List V} {f : Addr} {fd : FuncData} {N ps : List Str} {k : Nat} {sp : Sp}
    (FF : FunD K x qual params body scope dvs kws f fd) (S : FnScope N ps scope) (ln : ∀ vs H Q E, sp vs H Q E → vs.length = ps.length)
    (hb : ∀ (cdv : Value) (A : Around) (l : List Env) (s : Shared) (H : Hp) (vs : List V) (Q : VK) (E : XK), Room k (A.deeper (envOfC qual scope s.heap.objs.size f cdv)) → A.guards = some [] → sp vs H Q E → ∃ t, PSs (cxOf CX0 P w K mg base N qual scope f cdv A l s H E) body t ∧ t { nx := fun _ H' => Q .non H', rt := Q } (L2.start N vs) H) :
    FnG P w K mg base (k + 1) f fd ps sp := by
  obtain ⟨oc, od, dV, kV, doc, pm, an, cdv, ct, osl, rfl, lk, hcd, _, _⟩ := FF.ex
  refine ⟨ln, fun A l s H ar us vs Q E room gd e0 bt rel hs => ?_⟩
  have hl := ln _ _ _ _ hs
  have kin := e0.mod.kin.keeps fun b o e => (e0.bs b o e).1
  have lim := e0.mod.nolimit.keeps fun b o e => (e0.bs b o e).1
  refine codeAny_call_function room.depth (kin _ _ lk) rfl S.co S.gen rfl (PySem.W.codeRec_of kin hcd) (bt _ _ _ _ ?_)
  refine wpAny_newFunctionEnv_cells S.kind (fun y hy => ?_) fun env he s1 ic => ?_
  · rcases S.par y.1 (List.of_mem_zip (a := y.1) (b := y.2) hy).1 with q | q
    · exact .inl q
    · exact .inr ⟨q, PySem.W.cellsFrom_some _ _ _ (.inl q)⟩
  subst he
  obtain ⟨t, pt, tq⟩ := hb cdv A l s H vs Q E (room.deeper _) gd hs
  refine ⟨lim.keeps ic.toInCall.keep, codeAny_func (wpAny_mono (pt.run [] s1 (L2.start N vs) H _ (inv_start S room.hd e0 hl rel ic) tq) (fun fl s' out => ?_) fun _ _ z => z)⟩
  cases fl with
  | ret u => exact let ⟨v, _, H', J, rv, q⟩ := out; ⟨v, H', J.os, J.bare, J.base, J.hok, rv, q⟩
  | next => exact let ⟨_, H', J, q⟩ := out; ⟨V.non, H', J.os, J.bare, J.base, J.hok, rfl, q⟩
  | brk => exact let ⟨_, _, _, q⟩ := out; q.elim
  | cont => exact let ⟨_, _, _, q⟩ := out; q.elim
abbrev FKG (P : Program) (w : World) (K : PySem.W.Frag) (mg : Str → Option Value) (base : Heap) (k : Nat) (f : Addr) (fd : FuncData) (ps : List Str) (F : Sf) : Prop := FnG P w K mg base k f fd ps (Lf K ps.length F)
/-- the rule for such a def -/
theorem fkG_ok {P : Program} {w : World} {K : PySem.W.Frag} {mg : Str → Option Value} {base : Heap} {x qual : Str} {params : Arguments} {body : List Stmt} {scope : Scope} {kws : List (Str × V)} {dvs : List V} {f : Addr} {fd : FuncData} {N ps : List Str} {k : Nat} {F : Sf} {es : ES}
    (FF : FunD K x qual params body scope dvs kws f fd) (S : FnScope N ps scope)
    (hJ : ∀ (cdv : Value) (A : Around) (outer : List Env) (s : Shared) (H : Hp) (E : XK), Room k (A.deeper (envOfC qual scope s.heap.objs.size f cdv)) → A.guards = some [] → JSs (cxOf CX0 P w K mg base N qual scope f cdv A outer s H E).nox y0 body es)
    (hR : ∀ ds G Q, F ds G Q → es (fin G Q) (startD N.length ds) G) : FKG P w K mg base (k + 1) f fd ps F := by
  refine fnG_ok FF S (fun vs H Q E h => h.1) fun cdv A outer s H vs Q E hr gd h => ?_
  obtain ⟨_, P', ds, G, Q', wo, r, hf, kk⟩ := h
  have j := hJ cdv A outer s H E hr gd
  refine ⟨_, PSs.nox j.ps, j.ls P' (startD N.length ds) G (fin G Q') (L2.start N vs) H _ (hR ds G Q' hf) (rl_start wo r) ⟨fun s' G' σ' H' st rl hq => ?_, fun d G' v H' st w' rp hq => ?_, fun _ _ _ _ _ _ hq => hq.elim, fun _ _ _ _ _ _ hq => hq.elim, fun _ _ _ _ _ _ _ _ _ _ hq => hq.elim⟩⟩
  · obtain ⟨d2, G2, fz, q2⟩ := hq
    obtain ⟨b1, b2, b3⟩ := fz K P' H H' .non wo st rl.wo rep_non
    exact kk d2 G2 .non H' b1 b2 b3 q2
  · obtain ⟨d2, G2, fz, q2⟩ := hq
    obtain ⟨b1, b2, b3⟩ := fz K P' H H' v wo st w' rp
    exact kk d2 G2 v H' b1 b2 b3 q2
/-- what the law's call leaves -/
def Good (s₁ : Shared) (r : Result) (s' : Shared) : Prop := r = .ok (.ret (.bool true)) ∧ OldK s₁.heap s'.heap ∧ s'.os = s₁.os ∧ AllBare s'.gens
section
variable {P : Program} {w : World} {K : PySem.W.Frag} {mg mb : Str → Option Value} {k : Nat} {fa a : Addr} {fd : FuncData} {x : Str} {F : Sf} {s₁ : Shared} {vs : List Value} {ns : List Int}
/-- from an abstract heap that tracks at most the script -/
theorem lawG_at {H : Hp} (KX : K.In s₁.heap) (hns : s₁.heap.Ns mainGlobals mg) (hb : s₁.heap.Ns builtinsNs mb) (hbb : ∀ x : Str, x ≠ "__name__" → mb x = bootBuiltins x) (hlim : s₁.heap.NoLimit) (hsy : ∃ m, s₁.heap.Ns sysModules m) (hg : s₁.gens = #[])
    (ha : s₁.heap.get? a = some { cls := .type "list", data := .seq vs.toArray }) (room : Room k callerA) (hF : ∀ base : Heap, K.In base → base.Ns mainGlobals mg → (∃ m, base.Ns sysModules m) → FKG P w K mg base k fa fd [x] F) (hbind : ∀ (s : Shared) (u : Value), BindsTo s fd ⟨[u], []⟩ [(x, u)])
    (hsp : Lf K 1 F [.ref a] H (fun v _ => v = .bl true) fun _ _ _ => False) (hO : Only H) (hok : HOk P w H s₁.heap) (hA : ∀ b, H b ≠ none → b = a) (hK : H a ≠ none → K.lookup a = none) : codeAny (model P w) callerA (.call (.ref fa) ⟨[.ref a], []⟩) (Good s₁) s₁ := by
  have un : ∀ {b : Addr} {u : HO}, H b = some u → b = a ∧ K.lookup a = none := fun {b u} q => by
    have e := hA b (by rw [q]; simp)
    subst e
    exact ⟨rfl, hK (by rw [q]; simp)⟩
  have free : ∀ {b : Addr}, (b ≠ a ∨ K.lookup a ≠ none) → H b = none := fun {b} h => by
    cases q : H b with
    | none => rfl
    | some u => exact h.elim (fun z => absurd (un q).1 z) fun z => absurd (un q).2 z
  have nsk : ∀ {b : Addr} {m : Str → Option Value}, s₁.heap.Ns b m → (hidT s₁.heap H).Ns b m := fun {b m} z => by
    obtain ⟨o, es, ep, e, d, r⟩ := z
    refine ⟨o, es, ep, hidT_get e (free (.inl fun q => ?_)), d, r⟩
    subst q
    rw [ha] at e
    cases e
    exact nomatch d
  have kb : K.In (hidT s₁.heap H) := fun b o e => hidT_get (KX b o e) (by
    by_cases q : b = a
    · subst q; exact free (.inr (by rw [e]; simp))
    · exact free (.inl q))
  have e0 : Env0 P w K mg (hidT s₁.heap H) callerA [] s₁ H := ⟨rfl, ⟨kb, nsk hns, ⟨mb, nsk hb, hbb⟩, let ⟨mc, h1, h2⟩ := hlim; ⟨mc, nsk h1, h2⟩⟩, fun b o e => of_hidT e, Nat.le_of_eq (hidT_size _ _), trivial, fun b z => (nomatch (show b ∈ ([] : List Addr) from z)), hok, .of_eq hg⟩
  refine codeAny_mono ((hF _ kb (nsk hns) (let ⟨m, h⟩ := hsy; ⟨m, nsk h⟩)).go callerA [] s₁ H ⟨[.ref a], []⟩ [.ref a] [.ref a] _ _ room rfl e0 (hbind s₁ (.ref a)) (.cons rfl .nil) hsp) fun r s' out => ?_
  cases r with
  | error e => exact out.elim
  | ok fl =>
    cases fl with
    | next => exact out.elim
    | brk => exact out.elim
    | cont => exact out.elim
    | ret u =>
      obtain ⟨v, H', os, bare, grown, hok', rv, ev⟩ := out
      have ev' : v = .bl true := ev
      subst ev'
      obtain rfl : u = Value.bool true := rv
      refine ⟨rfl, OldK.of_keep fun b o e => ?_, os, bare⟩
      rcases hO b with z | ⟨ob, xs, z⟩
      · exact grown.keep b o e z (fun q => nomatch (show b ∈ ([] : List Addr) from q)) (by simp)
      · have g1 := (hok b _ z).1
        rw [e] at g1
        cases g1
        exact (hok' b _ (grown.frzs b o _ z)).1
theorem lawG (KX : K.In s₁.heap) (hns : s₁.heap.Ns mainGlobals mg) (hb : s₁.heap.Ns builtinsNs mb) (hbb : ∀ x : Str, x ≠ "__name__" → mb x = bootBuiltins x) (hlim : s₁.heap.NoLimit) (hsy : ∃ m, s₁.heap.Ns sysModules m) (hg : s₁.gens = #[])
    (ha : s₁.heap.get? a = some { cls := .type "list", data := .seq vs.toArray }) (hi : IntsAre vs ns) (hl : ns.length ≤ sizeLine) (room : Room k callerA) (hF : ∀ base : Heap, K.In base → base.Ns mainGlobals mg → (∃ m, base.Ns sysModules m) → FKG P w K mg base k fa fd [x] F) (hbind : ∀ (s : Shared) (u : Value), BindsTo s fd ⟨[u], []⟩ [(x, u)])
    (hsp : ∀ H : Hp, Only H → SqL K H a (ns.map V.int) → Lf K 1 F [.ref a] H (fun v _ => v = .bl true) fun _ _ _ => False) : codeAny (model P w) callerA (.call (.ref fa) ⟨[.ref a], []⟩) (Good s₁) s₁ := by
  have rel := vals_ints hi
  cases hk : K.lookup a with
  | some o =>
    have e := KX a o hk
    rw [ha] at e
    cases e
    have hO : Only (fun _ => none) := fun _ => .inl rfl
    exact lawG_at KX hns hb hbb hlim hsy hg ha room hF hbind (hsp _ hO (.inr ⟨_, vs.toArray, _, hk, rfl, rfl, rfl, by rw [List.size_toArray, hi.length]; exact hl, by simpa using rel⟩)) hO (fun _ _ z => nomatch z) (fun _ z => absurd rfl z) fun z => absurd rfl z
  | none =>
    obtain ⟨H, hH⟩ : ∃ H : Hp, H = fun b => if b = a then some (.frz { cls := .type "list", data := .seq vs.toArray } (.lst (ns.map V.int))) else none := ⟨_, rfl⟩
    have at_ : H a = some (.frz { cls := .type "list", data := .seq vs.toArray } (.lst (ns.map V.int))) := by rw [hH]; exact if_pos rfl
    have no : ∀ b, b ≠ a → H b = none := fun b n => by rw [hH]; exact if_neg n
    have hO : Only H := fun b => by
      by_cases q : b = a
      · subst q; exact .inr ⟨_, _, at_⟩
      · exact .inl (no b q)
    refine lawG_at KX hns hb hbb hlim hsy hg ha room hF hbind (hsp H hO (.inl (.inr ⟨_, at_⟩))) hO (fun b u z => ?_) (fun b z => ?_) fun _ => hk
    · by_cases q : b = a
      · subst q
        rw [at_] at z
        cases z
        exact ⟨ha, by rw [List.length_map]; exact hl, vs, _, rel, ha⟩
      · rw [no b q] at z; cases z
    · by_cases q : b = a
      · exact q
      · exact absurd (no b q) z
end
/-- a law's end -/
theorem walkG {l : PySem.W.OpenLaw} {n k : Nat} {q : Program} {loose : List Str} {XP : (Str → Option Value) → Heap → Prop} {YP : World → Heap → Prop} {d : DefRec} {x : Str} (hn : l.most = some n) (hn2 : n ≤ sizeLine) (hdf : d.params.defaults = []) (room : Room k callerA)
    (F : ∀ (w : World) (mg : Str → Option Value) (fa : Addr) (h : Heap), YP w h → h.Ns mainGlobals mg → mg d.name = some (.ref fa) → ∃ (K : PySem.W.Frag) (fd : FuncData), K.In h ∧ (∀ (s : Shared) (u : Value), BindsTo s fd ⟨[u], []⟩ [(x, u)]) ∧
      ∀ base : Heap, K.In base → base.Ns mainGlobals mg → (∃ m, base.Ns sysModules m) → FKG l.prog w K mg base k fa fd [x] (lawF n)) (hi : importsNone q = true) : PySem.W.WalkO q loose XP YP l.row.toRowW d [] (fun f vs => PySem.call f vs) := by
  refine Att.attach_call hn hdf fun w s₀ s₁ mg mb fa o pm cd doc a vs ns G Y ho hd hcd hmg hobj hints hlen hg => ?_
  obtain ⟨K, fd, KX, hb, hF⟩ := F w mg fa _ Y G.T.g hmg
  exact lawG KX G.T.g G.T.b G.T.builtins G.T.nolimit (let ⟨m, h, _⟩ := (G.T.seer hi).mods; ⟨m, h⟩) hg hobj hints (Nat.le_trans hlen hn2) room hF hb fun H hO hS => law_sp hn2 hlen hO hS
end DL
set_option Elab.async false
set_option linter.all false
set_option maxRecDepth 100000
set_option maxHeartbeats 4000000
namespace L2
open PySem PySem.Spec PyProof.Rows PySem.W
end L2
namespace DL
open PySem PySem.Spec PyProof.Rows L2 PySem.W
@[simp] def cRepr : CD := fun xs G Q => match xs with
  | [x] => (match toPy G x with
    | some p => p.showable = true ∧ p.hasDict = false ∧ p.depth ≤ 40 ∧ p.shown.length ≤ sizeLine ∧ Q (.str p.shown) G
    | none => False)
  | _ => False
@[simp] def boxD : D → Bool
  | .lst _ => true
  | .tup _ => true
  | .ref _ => true
  | .scr _ => true
  | _ => false
@[simp] def cStrD : CD := fun xs G Q => match xs with
  | [.int i] => i.natAbs.log2 < 1920 ∧ Q (.str (toString i)) G
  | [.str z] => Q (.str z) G
  | [x] => boxD x = true ∧ (match toPy G x with
    | some p => p.showable = true ∧ p.hasDict = false ∧ p.depth ≤ 40 ∧ p.shown.length ≤ sizeLine ∧ Q (.str p.shown) G
    | none => False)
  | _ => False
@[simp] def cStrI : CD := fun xs G Q => match xs with
  | [.int i] => i.natAbs.log2 < 1920 ∧ Q (.str (toString i)) G
  | _ => False
def Asc (t : Str) : Prop := ∀ c ∈ t.cps.toList, c < 1114112
theorem asc_of (s : String) : Asc (Str.ofString s) := fun c hc => by
  rw [Str.ofString_eq_toList] at hc
  simp at hc
  obtain ⟨a, _, rfl⟩ := hc
  have := a.valid
  unfold UInt32.isValidChar Nat.isValidChar at this
  show a.val.toNat < _
  omega
theorem asc_app {a b : Str} (h : Asc a) (k : Asc b) : Asc (a ++ b) := fun c hc => by
  have e : (a ++ b).cps = a.cps ++ b.cps := rfl
  rw [e, Array.toList_append] at hc
  have this := hc
  rcases List.mem_append.mp this with q | q
  · exact h c q
  · exact k c q
theorem len_app (a b : Str) : (a ++ b).length = a.length + b.length := strLen_append a b
theorem asc_join {sep : Str} (hs : Asc sep) : ∀ {ts : List Str}, (∀ t ∈ ts, Asc t) → Asc (Str.join sep ts)
  | [], _ => fun c hc => by simp [Str.join, Str.empty] at hc
  | [x], h => h x List.mem_cons_self
  | x :: y :: r, h => asc_app (asc_app (h x List.mem_cons_self) hs) (asc_join hs fun t ht => h t (List.mem_cons_of_mem _ ht))
theorem asc_from : ∀ {ts : List Str} {k : Nat} {acc : Str}, Asc acc → (∀ t ∈ ts, Asc t) → Asc (textFrom k acc ts)
  | [], _, _, h, _ => h
  | t :: ts, k, acc, h, ht => asc_from (ts := ts) (k := k + 1) (acc := acc ++ (if k > 0 then ", " else "" : String) ++ t) (asc_app (asc_app h (asc_of _)) (ht t List.mem_cons_self)) fun u hu => ht u (List.mem_cons_of_mem _ hu)
structure Tx (n : Nat) (p : PyData) : Prop where
  sh : p.showable = true
  nd : p.hasDict = false
  asc : Asc p.shown
  len : p.shown.length ≤ n
theorem log_small {n : Nat} (h : n < 10 ^ 60) : n.log2 < 1920 := by
  by_cases z : n = 0
  · subst z; decide
  · rw [Nat.log2_lt z]
    exact Nat.lt_trans h (by decide +kernel)
theorem tx_int {i : Int} (h : i.natAbs < 10 ^ 60) : Tx 61 (.int i) := by
  refine ⟨?_, rfl, asc_of _, ?_⟩
  · simp only [PyData.showable]
    exact decide_eq_true (log_small h)
  · have := int_text_length_le10 (a := i) (k := 60) (by decide) h
    simp only [PyData.shown]
    rw [PySem.ofString_length]
    exact this
theorem asc_char {q c : Nat} (hc : c < 1114112) : ∀ d ∈ Builtin.Str.reprChar q c, d < 1114112 := by
  have hx : ∀ w : Nat, ∀ d ∈ List.replicate (w - ((Nat.toDigits 16 c).map Char.toNat).length) 48 ++ (Nat.toDigits 16 c).map Char.toNat, d < 1114112 := fun w d hd => by
    rcases List.mem_append.mp hd with z | z
    · have := List.eq_of_mem_replicate z; omega
    · obtain ⟨a, _, rfl⟩ := List.mem_map.mp z
      have := a.valid
      unfold UInt32.isValidChar Nat.isValidChar at this
      show a.val.toNat < _
      omega
  intro d hd
  unfold Builtin.Str.reprChar at hd
  dsimp only at hd
  have two : ∀ a b : Nat, a < 1114112 → b < 1114112 → d ∈ [a, b] → d < 1114112 := fun a b ha hb h => by
    simp at h
    rcases h with rfl | rfl <;> assumption
  have app : ∀ (a b : Nat) (w : Nat), a < 1114112 → b < 1114112 → d ∈ [a, b] ++ (List.replicate (w - ((Nat.toDigits 16 c).map Char.toNat).length) 48 ++ (Nat.toDigits 16 c).map Char.toNat) → d < 1114112 := fun a b w ha hb h => by
    rcases List.mem_append.mp h with z | z
    · exact two a b ha hb z
    · exact hx w d z
  repeat' split at hd
  · exact two _ _ (by decide) hc hd
  · exact two _ _ (by decide) (by decide) hd
  · exact two _ _ (by decide) (by decide) hd
  · exact two _ _ (by decide) (by decide) hd
  · simp at hd; subst hd; exact hc
  · exact app _ _ _ (by decide) (by decide) hd
  · exact app _ _ _ (by decide) (by decide) hd
  · exact app _ _ _ (by decide) (by decide) hd
theorem asc_fold {q : Nat} : ∀ {l : List Nat} {acc : Array Nat}, (∀ c ∈ l, c < 1114112) → (∀ c ∈ acc.toList, c < 1114112) → ∀ c ∈ (l.foldl (fun out c => out ++ (Builtin.Str.reprChar q c).toArray) acc).toList, c < 1114112
  | [], _, _, h => h
  | x :: l, acc, hl, h => by
    rw [List.foldl_cons]
    refine asc_fold (fun c hc => hl c (List.mem_cons_of_mem _ hc)) fun c hc => ?_
    rw [Array.toList_append] at hc
    rcases List.mem_append.mp hc with z | z
    · exact h c z
    · exact asc_char (hl x List.mem_cons_self) c (by simpa using z)
theorem asc_repr {x : Str} (h : Asc x) : Asc (reprText x) := fun c hc => by
  have hq : reprQuote x < 1114112 := by unfold reprQuote; split <;> decide
  unfold reprText at hc
  rw [Array.toList_push, ← Array.foldl_toList] at hc
  rcases List.mem_append.mp hc with z | z
  · exact asc_fold h (by simpa using hq) c z
  · simp at z; subst z; exact hq
theorem tx_str {x : Str} {n : Nat} (h : Asc x) (hn : x.length ≤ n) : Tx (10 * n + 2) (.str x) := by
  refine ⟨rfl, rfl, asc_repr h, ?_⟩
  have := StrLaws.reprText_len x fun c hc => by have := h c hc; omega
  simp only [PyData.shown]
  omega
theorem shownAll_map : ∀ xs : List PyData, PyData.shownAll xs = xs.map PyData.shown
  | [] => rfl
  | x :: xs => by simp [PyData.shownAll, shownAll_map xs]
theorem showableAll_of : ∀ {xs : List PyData}, (∀ x ∈ xs, x.showable = true) → PyData.showableAll xs = true
  | [], _ => by simp [PyData.showableAll]
  | x :: xs, h => by simp [PyData.showableAll, h x List.mem_cons_self, showableAll_of fun y hy => h y (List.mem_cons_of_mem _ hy)]
theorem noDictAll_of : ∀ {xs : List PyData}, (∀ x ∈ xs, x.hasDict = false) → PyData.hasDictAll xs = false
  | [], _ => by simp [PyData.hasDictAll]
  | x :: xs, h => by simp [PyData.hasDictAll, h x List.mem_cons_self, noDictAll_of fun y hy => h y (List.mem_cons_of_mem _ hy)]
theorem piled_le {n : Nat} : ∀ {ts : List Str}, (∀ t ∈ ts, t.length ≤ n) → piled ts ≤ ts.length * (n + 2)
  | [], _ => by simp [piled]
  | t :: ts, h => by
    rw [piled_cons, List.length_cons, Nat.succ_mul]
    have := h t List.mem_cons_self
    have := piled_le (ts := ts) fun y hy => h y (List.mem_cons_of_mem _ hy)
    omega
theorem listText_le : ∀ ts : List Str, (listText ts).length ≤ piled ts + 2
  | [] => by decide
  | t :: r => by
    unfold listText
    rw [len_app]
    have h := textFrom_length_pos r 1 (("[" : Str) ++ (if (0 : Nat) > 0 then ", " else "" : String) ++ t) (Nat.succ_pos 0)
    have e : ((("[" : Str) ++ (if (0 : Nat) > 0 then ", " else "" : String) ++ t)).length = 1 + t.length := by rw [len_app, len_app]; rfl
    show (textFrom 1 (("[" : Str) ++ (if (0 : Nat) > 0 then ", " else "" : String) ++ t) r).length + 1 ≤ _
    rw [h, e, piled_cons]
    omega
theorem tupleText_le (ts : List Str) : (tupleText ts).length ≤ piled ts + 4 := by
  unfold tupleText
  rw [len_app, len_app]
  have e1 : ((("(" : String) : Str)).length = 1 := rfl
  have e3 : (((if ts.length == 1 then ",)" else ")" : String) : Str)).length ≤ 2 := by split <;> decide
  have e2 : (Str.join ", " ts).length ≤ piled ts := by
    cases ts with
    | nil => decide
    | cons a b => have := join_length_add (a :: b) (by simp); omega
  omega
theorem tx_list {n m : Nat} {xs : List PyData} (h : ∀ x ∈ xs, Tx n x) (hm : xs.length ≤ m) : Tx (m * (n + 2) + 2) (.list xs) := by
  refine ⟨by simp only [PyData.showable]; exact showableAll_of fun x hx => (h x hx).sh, by simp only [PyData.hasDict]; exact noDictAll_of fun x hx => (h x hx).nd, ?_, ?_⟩
  · simp only [PyData.shown, shownAll_map]
    exact asc_app (asc_from (asc_of _) fun t ht => by obtain ⟨x, hx, rfl⟩ := List.mem_map.mp ht; exact (h x hx).asc) (asc_of _)
  · simp only [PyData.shown, shownAll_map]
    have h1 := listText_le (xs.map PyData.shown)
    have h2 := piled_le (n := n) (ts := xs.map PyData.shown) fun t ht => by obtain ⟨x, hx, rfl⟩ := List.mem_map.mp ht; exact (h x hx).len
    rw [List.length_map] at h2
    have h3 : xs.length * (n + 2) ≤ m * (n + 2) := Nat.mul_le_mul_right _ hm
    omega
theorem tx_tuple {n m : Nat} {xs : List PyData} (h : ∀ x ∈ xs, Tx n x) (hm : xs.length ≤ m) : Tx (m * (n + 2) + 4) (.tuple xs) := by
  refine ⟨by simp only [PyData.showable]; exact showableAll_of fun x hx => (h x hx).sh, by simp only [PyData.hasDict]; exact noDictAll_of fun x hx => (h x hx).nd, ?_, ?_⟩
  · simp only [PyData.shown, shownAll_map]
    exact asc_app (asc_app (asc_of _) (asc_join (asc_of _) fun t ht => by obtain ⟨x, hx, rfl⟩ := List.mem_map.mp ht; exact (h x hx).asc)) (asc_of _)
  · simp only [PyData.shown, shownAll_map]
    have h1 := tupleText_le (xs.map PyData.shown)
    have h2 := piled_le (n := n) (ts := xs.map PyData.shown) fun t ht => by obtain ⟨x, hx, rfl⟩ := List.mem_map.mp ht; exact (h x hx).len
    rw [List.length_map] at h2
    have h3 : xs.length * (n + 2) ≤ m * (n + 2) := Nat.mul_le_mul_right _ hm
    omega
theorem Tx.mono {n m : Nat} {p : PyData} (h : Tx n p) (hm : n ≤ m) : Tx m p := ⟨h.sh, h.nd, h.asc, Nat.le_trans h.len hm⟩
theorem Tx.shp {n m : Nat} {p : PyData} (h : Tx n p) : Shp m (.str p.shown) := shp_str h.asc
end DL
set_option Elab.async false
set_option linter.all false
set_option maxRecDepth 100000
set_option maxHeartbeats 4000000
namespace L2
open PySem PySem.Spec PyProof.Rows PySem.W
def encK : Key → PyData
  | .inl i => .int i
  | .inr x => .str x
mutual
inductive DpX (K : PySem.W.Frag) (H : Hp) : V → PyData → Prop
  | non : DpX K H .non .none
  | bl (b : Bool) : DpX K H (.bl b) (.bool b)
  | int (i : Int) : DpX K H (.int i) (.int i)
  | str (x : Str) : DpX K H (.str x) (.str x)
  | lst {a : Addr} {xs : List V} {ds : List PyData} : SqL K H a xs → DpXs K H xs ds → DpX K H (.ref a) (.list ds)
  | tup {a : Addr} {xs : List V} {ds : List PyData} : SqT K H a xs → DpXs K H xs ds → DpX K H (.ref a) (.tuple ds)
  | dct {a : Addr} {kvs : List (Key × V)} {ds : List PyData} : H a = some (.dK kvs) → DpXs K H (kvs.map (·.2)) ds → DpX K H (.ref a) (.dict ((kvs.map fun p => encK p.1).zip ds))
inductive DpXs (K : PySem.W.Frag) (H : Hp) : List V → List PyData → Prop
  | nil : DpXs K H [] []
  | cons {v : V} {vs : List V} {d : PyData} {ds : List PyData} : DpX K H v d → DpXs K H vs ds → DpXs K H (v :: vs) (d :: ds)
end
section
variable {X : Cx} {pins : List (Addr × Obj)} {σ : L2.St} {H : Hp} {s : Shared}
theorem trk_ne (I : Inv X pins σ H s) (hsy : ∃ m, X.base.Ns sysModules m) {a : Addr} {o : HO} (h : H a = some o) : sysModules ≠ a := fun e => by
  subst e
  obtain ⟨m, o', es, ep, e1, _⟩ := hsy
  have := (I.bs _ _ e1).2
  rw [h] at this
  cases this
theorem sq_ne (I : Inv X pins σ H s) (hsy : ∃ m, X.base.Ns sysModules m) {a : Addr} {xs : List V} (h : SqL X.K H a xs) : sysModules ≠ a := by
  rcases h with (h | ⟨o, h⟩) | ⟨o, its, n, hk, hc, hd, hs, _⟩
  · exact trk_ne I hsy h
  · exact trk_ne I hsy h
  · intro e
    subst e
    obtain ⟨m, o', es, ep, e1, d1, _⟩ := hsy
    have := I.ok.mod.kin _ _ hk
    rw [e1] at this
    cases this
    rw [hs] at d1
    cases d1
theorem kv_vals : ∀ {kvs : List (Key × V)} {vs : List (Key × Value)}, KV kvs vs → Vals (kvs.map (·.2)) (vs.map (·.2))
  | _, _, .nil => .nil
  | _, _, .cons h t => .cons h.2 (kv_vals t)
theorem kv_pairs {h : Heap} : ∀ {kvs : List (Key × V)} {vs : List (Key × Value)} {ds : List PyData} {as : List Addr}, KV kvs vs → ReadsAll h (vs.map (·.2)) ds as → PyProof.V.PairsRead h encK vs ((kvs.map fun p => encK p.1).zip ds) as
  | _, _, _, _, .nil, r => by cases r; exact .nil
  | _, _, _, _, .cons (a := p) (b := q) e t, r => by
    obtain ⟨k, v⟩ := q
    cases r with
    | cons r1 r2 =>
      have := kv_pairs t r2
      obtain ⟨e1, _⟩ := e
      simp only [List.map_cons, List.zip_cons_cons, e1]
      exact .cons r1 this
mutual
theorem readsX (I : Inv X pins σ H s) (hsy : ∃ m, X.base.Ns sysModules m) : ∀ {v : V} {d : PyData} {u : Value}, DpX X.K H v d → RelV v u → ∃ as, Reads s.heap u d as ∧ sysModules ∉ as
  | _, _, _, .non, r => by cases r; exact ⟨_, Reads.none, by simp⟩
  | _, _, _, .bl b, r => by cases r; exact ⟨_, Reads.bool b, by simp⟩
  | _, _, _, .int i, r => by obtain ⟨t, rfl⟩ := r; exact ⟨_, Reads.int i t, by simp⟩
  | _, _, _, .str i, r => by obtain ⟨t, rfl⟩ := r; exact ⟨_, Reads.str i t, by simp⟩
  | _, _, _, .lst hs ha, r => by
    cases r
    obtain ⟨its, rv, ⟨o, n, ho, hc, _, hd⟩, _⟩ := I.list hs
    obtain ⟨as, hr, hn⟩ := readsXs I hsy ha rv
    exact ⟨_, Reads.list ho hc hd hr, by simp [sq_ne I hsy hs, hn]⟩
  | _, _, _, .tup hs ha, r => by
    cases r
    obtain ⟨its, rv, ⟨o, ho, hc, n, hd⟩, _⟩ := I.tuple hs
    obtain ⟨as, hr, hn⟩ := readsXs I hsy ha rv
    exact ⟨_, Reads.tuple ho hc hd hr, hn⟩
  | _, _, _, .dct (kvs := kvs) (ds := ds) hs ha, r => by
    cases r
    obtain ⟨_, _, vs, kv, hd⟩ := dk_of I.hok hs
    obtain ⟨bs, hr, hn⟩ := readsXs I hsy ha (kv_vals kv)
    have hp := kv_pairs kv hr
    exact ⟨_, PyProof.V.reads_dictOf (fun k key hk => by
      rcases keyIs_shape hk with ⟨i, t, rfl, rfl⟩ | ⟨x, t, rfl, rfl⟩
      · exact Reads.int i t
      · exact Reads.str x t) hd hp, by simp [trk_ne I hsy hs, hn]⟩
theorem readsXs (I : Inv X pins σ H s) (hsy : ∃ m, X.base.Ns sysModules m) : ∀ {vs : List V} {ds : List PyData} {us : List Value}, DpXs X.K H vs ds → Vals vs us → ∃ as, ReadsAll s.heap us ds as ∧ sysModules ∉ as
  | _, _, _, .nil, r => by cases r; exact ⟨_, ReadsAll.nil, by simp⟩
  | _, _, _, .cons h1 h2, r => by
    cases r with
    | cons r1 r2 =>
      obtain ⟨as, q1, n1⟩ := readsX I hsy h1 r1
      obtain ⟨bs, q2, n2⟩ := readsXs I hsy h2 r2
      exact ⟨_, ReadsAll.cons q1 q2, by simp [n1, n2]⟩
end
def rStrX (K : PySem.W.Frag) : List V → Hp → VK → Prop := fun vs H Q => (∃ (a : Addr) (p : PyData), vs = [.ref a] ∧ DpX K H (.ref a) p ∧ p.showable = true ∧ p.depth ≤ 40 ∧ p.shown.length ≤ sizeLine ∧ Q (.str p.shown) H) ∨ (∃ i, vs = [.int i] ∧ i.natAbs.log2 < 1920 ∧ Q (.str (toString i)) H) ∨ (∃ z, vs = [.str z] ∧ Q (.str z) H) ∨ (∃ b, vs = [.bl b] ∧ Q (.str (if b then "True" else "False")) H) ∨ (vs = [.non] ∧ Q (.str "None") H)
end
end L2
namespace DL
open PySem PySem.Spec PyProof.Rows L2 PySem.W
mutual
@[simp] def toPx (G : Gp) : D → Option PyData
  | .non => some .none
  | .bl b => some (.bool b)
  | .int i => some (.int i)
  | .str x => some (.str x)
  | .lst ds => (toPxs G ds).map .list
  | .tup ds => (toPxs G ds).map .tuple
  | .dct ks ds => (toPxs G ds).map fun ps => .dict ((ks.map encK).zip ps)
  | .scr ns => some (.list (ns.map .int))
  | .ref a => toPy G (.ref a)
  | _ => none
@[simp] def toPxs (G : Gp) : List D → Option (List PyData)
  | [] => some []
  | d :: ds => match toPx G d, toPxs G ds with
    | some a, some r => some (a :: r)
    | _, _ => none
end
section
variable {K : PySem.W.Frag} {P : Addr → Prop} {G : Gp} {H : Hp}
mutual
theorem dpx_dp : ∀ {v : V} {p : PyData}, Dp K H v p → DpX K H v p
  | _, _, .non => .non
  | _, _, .bl b => .bl b
  | _, _, .int b => .int b
  | _, _, .str b => .str b
  | _, _, .lst a b => .lst a (dpxs_dp b)
  | _, _, .tup a b => .tup a (dpxs_dp b)
theorem dpxs_dp : ∀ {vs : List V} {ps : List PyData}, DpAll K H vs ps → DpXs K H vs ps
  | _, _, .nil => .nil
  | _, _, .cons a b => .cons (dpx_dp a) (dpxs_dp b)
end
mutual
theorem dpx_of (w : Wo K P G H) : ∀ (d : D) {v : V} {p : PyData}, Rep K H G P d v → toPx G d = some p → DpX K H v p
  | .non, v, p, h, e => by rw [toPx] at e; cases e; rw [rep_n h]; exact .non
  | .bl b, v, p, h, e => by rw [toPx] at e; cases e; rw [rep_b h]; exact .bl b
  | .int b, v, p, h, e => by rw [toPx] at e; cases e; rw [rep_i h]; exact .int b
  | .str b, v, p, h, e => by rw [toPx] at e; cases e; rw [rep_s h]; exact .str b
  | .ty n, v, p, h, e => by simp [toPx] at e
  | .cl n, v, p, h, e => by simp [toPx] at e
  | .exc a dd f x, v, p, h, e => by simp [toPx] at e
  | .scr ns, v, p, h, e => dpx_dp (dp_of w (.scr ns) h (by simpa using e))
  | .ref a, v, p, h, e => dpx_dp (dp_of w (.ref a) h (by rw [toPx] at e; exact e))
  | .lst ds, v, p, h, e => by
    rw [toPx] at e
    obtain ⟨ps, e1, rfl⟩ := opt_map e
    obtain ⟨a, xs, rfl, g, pp, r, z, q⟩ := rep_l h
    exact .lst (SqL.of r) (dpxs_of w ds q e1)
  | .tup ds, v, p, h, e => by
    rw [toPx] at e
    obtain ⟨ps, e1, rfl⟩ := opt_map e
    obtain ⟨a, xs, rfl, g, pp, r, z, q⟩ := rep_t h
    exact .tup (SqT.of r) (dpxs_of w ds q e1)
  | .dct ks ds, v, p, h, e => by
    rw [toPx] at e
    obtain ⟨ps, e1, rfl⟩ := opt_map e
    unfold Rep at h
    obtain ⟨a, xs, rfl, g, pp, r, z, q⟩ := h
    have hl : ks.length = xs.length := by rw [z, q.length]
    have e3 : (ks.zip xs).map (·.2) = xs := List.map_snd_zip (by omega)
    have e4 : (ks.zip xs).map (fun p => encK p.1) = ks.map encK := by
      have : (ks.zip xs).map (fun p => encK p.1) = ((ks.zip xs).map (·.1)).map encK := by rw [List.map_map]; rfl
      rw [this, List.map_fst_zip (by omega)]
    have := DpX.dct (K := K) r (ds := ps) (by rw [e3]; exact dpxs_of w ds q e1)
    rw [e4] at this
    exact this
theorem dpxs_of (w : Wo K P G H) : ∀ (ds : List D) {vs : List V} {ps : List PyData}, Reps K H G P ds vs → toPxs G ds = some ps → DpXs K H vs ps
  | [], _, _, h, e => by unfold Reps at h; subst h; rw [toPxs] at e; cases e; exact .nil
  | d :: ds, _, _, h, e => by
    unfold Reps at h
    obtain ⟨x, r, rfl, h1, h2⟩ := h
    rw [toPxs] at e
    split at e
    · rename_i a b ea eb
      cases e
      exact .cons (dpx_of w d h1 ea) (dpxs_of w ds h2 eb)
    · cases e
end
end
end DL
set_option Elab.async false
set_option linter.all false
set_option maxRecDepth 100000
set_option maxHeartbeats 4000000
namespace DL
open PySem PySem.Spec PyProof.Rows L2 LN
theorem tx_i {i : Int} (h1 : -1000000000000000000000000000000 ≤ i) (h2 : i ≤ 1000000000000000000000000000000) : Tx 61 (.int i) := tx_int (by
  have e : (10 : Nat) ^ 60 = 1000000000000000000000000000000000000000000000000000000000000 := by decide
  rw [e]; omega)
theorem tx_nats {l : List Nat} {m : Nat} (h : ∀ i ∈ l, i ≤ 1000000) (hm : l.length ≤ m) : Tx (m * 63 + 2) (.list (l.map fun (i : Nat) => PyData.int (i : Int))) := tx_list (fun x hx => by
  obtain ⟨i, hi, rfl⟩ := List.mem_map.mp hx
  have := h i hi
  exact tx_i (by omega) (by omega)) (by simpa using hm)
theorem tx_pair {a b : Int} (h1 : -1000000000000000000000000000000 ≤ a) (h2 : a ≤ 1000000000000000000000000000000) (h3 : -1000000000000000000000000000000 ≤ b) (h4 : b ≤ 1000000000000000000000000000000) : Tx 130 (.tuple [.int a, .int b]) :=
  (tx_tuple (n := 61) (m := 2) (fun x hx => by
    simp at hx
    rcases hx with rfl | rfl
    · exact tx_i h1 h2
    · exact tx_i h3 h4) (by simp)).mono (by decide)
theorem tx_paper {pp : Paper} (h : POk pp) : Tx 6338 (.list (pp.map fun x => PyData.tuple [.int x.1, .int x.2])) := (tx_list (n := 130) (m := 48) (fun x hx => by
  obtain ⟨y, hy, rfl⟩ := List.mem_map.mp hx
  have := h.lo y hy
  have := h.hi y hy
  have := h.p1 y hy
  have := h.p2 y hy
  exact tx_pair (by omega) (by omega) (by omega) (by omega)) (by simpa using h.len)).mono (by decide)
end DL
set_option Elab.async false
set_option linter.all false
set_option maxRecDepth 100000
set_option maxHeartbeats 4000000
namespace DL
open PySem PySem.Spec PyProof.Rows L2 LN
mutual
def anyD : D → Bool
  | .non => true
  | .bl _ => true
  | .int _ => true
  | .str _ => true
  | .lst ds => anyDs ds
  | .tup ds => anyDs ds
  | .dct _ ds => anyDs ds
  | _ => false
def anyDs : List D → Bool
  | [] => true
  | d :: ds => anyD d && anyDs ds
end
@[simp] def isI : D → Bool
  | .int _ => true
  | .bl _ => true
  | _ => false
@[simp] def isB : D → Bool
  | .bl _ => true
  | _ => false
@[simp] def isS : D → Bool
  | .str _ => true
  | _ => false
@[simp] def isL : D → Bool
  | .lst _ => true
  | _ => false
@[simp] def isT : D → Bool
  | .tup _ => true
  | _ => false
theorem isi_int {d : D} {G : Gp} {Q : DK} (h : anyD d = true) : cIsi [d, .ty "int"] G Q = Q (.bl (isI d)) G := by
  have k1 : kitB "NoneType" "int" = some false := by decide +kernel
  have k2 : kitB "bool" "int" = some true := by decide +kernel
  have k3 : kitB "str" "int" = some false := by decide +kernel
  have k4 : kitB "list" "int" = some false := by decide +kernel
  have k5 : kitB "tuple" "int" = some false := by decide +kernel
  have k6 : kitB "dict" "int" = some false := by decide +kernel
  cases d with
  | non => simp [tyD, k1]
  | bl b => simp [tyD, k2]
  | int b => simp [tyD]
  | str b => simp [tyD, k3]
  | lst b => simp [tyD, k4]
  | tup b => simp [tyD, k5]
  | dct b c => simp [tyD, k6]
  | _ => simp [anyD] at h
theorem isi_bool {d : D} {G : Gp} {Q : DK} (h : anyD d = true) : cIsi [d, .ty "bool"] G Q = Q (.bl (isB d)) G := by
  have k1 : kitB "NoneType" "bool" = some false := by decide +kernel
  have k3 : kitB "str" "bool" = some false := by decide +kernel
  have k4 : kitB "list" "bool" = some false := by decide +kernel
  have k5 : kitB "tuple" "bool" = some false := by decide +kernel
  have k6 : kitB "dict" "bool" = some false := by decide +kernel
  cases d with
  | non => simp [tyD, k1]
  | bl b => simp [tyD]
  | int b => simp [tyD]
  | str b => simp [tyD, k3]
  | lst b => simp [tyD, k4]
  | tup b => simp [tyD, k5]
  | dct b c => simp [tyD, k6]
  | _ => simp [anyD] at h
/-- is_whole of anything -/
@[simp] def whB : D → Bool
  | .int _ => true
  | _ => false
theorem whole_any {d : D} {G : Gp} {Q : DK} (h : anyD d = true) (q : Q (.bl (whB d)) G) : F_is_whole [d] G Q := by
  have e1 := isi_int (d := d) (G := G) (Q := fun x _ => x = .bl (isI d)) h
  have e2 := isi_bool (d := d) (G := G) (Q := fun x _ => x = .bl (isB d)) h
  simp only [cIsi, eq_iff_iff, iff_true] at e1 e2
  cases ty : tyD G d with
  | none => rw [ty] at e1; simp at e1
  | some m =>
    rw [ty] at e1 e2
    simp only [Option.bind_some] at e1 e2
    cases k1 : kitB m "int" with
    | none => rw [k1] at e1; simp at e1
    | some a =>
      cases k2 : kitB m "bool" with
      | none => rw [k2] at e2; simp at e2
      | some b =>
        rw [k1] at e1
        rw [k2] at e2
        have e1 : D.bl a = D.bl (isI d) := e1
        have e2 : D.bl b = D.bl (isB d) := e2
        refine ⟨d, m, a, b, rfl, ty, k1, k2, ?_⟩
        rw [D.bl.inj e1, D.bl.inj e2]
        have : (isI d && !isB d) = whB d := by cases d <;> rfl
        rw [this]; exact q
def Thg (k n : Nat) (d : D) : Prop := anyD d = true ∧ ∃ p, (∀ G, toPx G d = some p) ∧ p.showable = true ∧ p.depth ≤ k ∧ Asc p.shown ∧ p.shown.length ≤ n
theorem Thg.mono {k k' n n' : Nat} {d : D} (h : Thg k n d) (hk : k ≤ k') (hn : n ≤ n') : Thg k' n' d := by
  obtain ⟨h1, p, h2, h3, h4, h5, h6⟩ := h
  exact ⟨h1, p, h2, h3, by omega, h5, by omega⟩
theorem ix_at {L : List D} {i : Int} {d : D} {G : Gp} {Q : DK} (e : atI L i = some d) (q : Q d G) : oIx (.lst L) (.int i) G Q := by
  simp only [oIx, lkQ, lkL, e]; exact q
theorem add_ok {L M : List D} {G : Gp} {Q : DK} (h : L.length + M.length ≤ 16777216) (q : Q (.lst (L ++ M)) G) : oAdd (.lst L) (.lst M) G Q := by
  simp only [oAdd, lkL]; exact ⟨h, q⟩
theorem Thg.any {k n : Nat} {d : D} (h : Thg k n d) : anyD d = true := h.1
end DL
set_option Elab.async false
set_option linter.all false
set_option maxRecDepth 100000
set_option maxHeartbeats 4000000
namespace DL
open PySem PySem.Spec PyProof.Rows L2 LN
theorem forW_self {t : Tg} {tb : ES} {Kp : Gp → Prop} {N : En} (I : List D → Sd → Gp → Prop) (hK : ∀ xs s G, I xs s G → Kp G)
    (h : ∀ x xs s G (W : Sd → Gp → Prop), I (x :: xs) s G → (∀ s' G', I xs s' G' → W s' G') → match asg t x s with
      | some s' => tb { N with nx := W, ct := W, bk := N.nx } s' G
      | none => False) (k : ∀ s G, I [] s G → N.nx s G) (xs : List D) (s : Sd) (G : Gp) (h0 : I xs s G) : forW t tb Kp N xs s G := by
  have := forW_ind (g := fun d : D => d) I hK h k xs s G h0
  simpa using this
end DL
set_option Elab.async false
set_option linter.all false
set_option maxRecDepth 100000
set_option maxHeartbeats 4000000
namespace DL
open PySem PySem.Spec PyProof.Rows L2 LN
end DL
set_option Elab.async false
set_option linter.all false
set_option maxRecDepth 100000
set_option maxHeartbeats 4000000
namespace DL
open PySem PySem.Spec PyProof.Rows L2 LN
theorem perm_sum {a b : List Int} (h : a.Perm b) : a.sum = b.sum := by
  induction h with
  | nil => rfl
  | cons x _ ih => rw [List.sum_cons, List.sum_cons, ih]
  | swap x y l => simp only [List.sum_cons]; omega
  | trans _ _ h1 h2 => exact h1.trans h2
end DL
set_option Elab.async false
set_option linter.all false
set_option maxRecDepth 100000
set_option maxHeartbeats 4000000
namespace DL
open PySem PySem.Spec PyProof.Rows L2 LN
def momR (n : Int) (s : Stretch) : List Int := (List.range s.e.toNat).map fun (k : Nat) => (s.b + (k : Int)) % n
theorem momR_iff {n : Int} {s : Stretch} {m : Int} (hn : 0 < n) (m0 : 0 ≤ m) (m1 : m < n) : m ∈ momR n s ↔ overR n s m = true := by
  unfold momR overR
  simp only [List.mem_map, List.mem_range, decide_eq_true_eq]
  constructor
  · rintro ⟨k, hk, rfl⟩
    have e : ((s.b + (k : Int)) % n - s.b) % n = (k : Int) % n := by
      rw [Int.sub_emod, Int.emod_emod, ← Int.sub_emod]
      congr 1
      omega
    rw [e]
    have h1 := Int.emod_def (k : Int) n
    have h2 : 0 ≤ n * ((k : Int) / n) := Int.mul_nonneg (by omega) (Int.ediv_nonneg (by omega) (by omega))
    omega
  · intro h
    have h0 := Int.emod_nonneg (m - s.b) (show n ≠ 0 by omega)
    refine ⟨((m - s.b) % n).toNat, by omega, ?_⟩
    rw [Int.toNat_of_nonneg h0, Int.add_emod, Int.emod_emod, ← Int.add_emod]
    have : s.b + (m - s.b) = m := by omega
    rw [this]
    exact Int.emod_eq_of_lt m0 m1
def F__law_moments : Sf := fun ds G Q => ∃ (n : Int) (rs : List Stretch) (i : Nat), ds = [ringD n rs, .int (i : Nat)] ∧ RgOk n rs ∧ i < rs.length ∧ Q (.lst (iD (momR n (st rs i)))) G
def tollR (n : Int) (s : Stretch) (pp : Paper) : Int := ((pp.filter fun x => overR n s x.1).map (·.2)).sum
def restR (n : Int) (s : Stretch) (pp : Paper) : Int := if s.w - tollR n s pp > 0 then s.w - tollR n s pp else 0
theorem restR_nonneg (n : Int) (s : Stretch) (pp : Paper) : 0 ≤ restR n s pp := by unfold restR; split <;> omega
theorem restR_ge (n : Int) (s : Stretch) (pp : Paper) : s.w ≤ restR n s pp + tollR n s pp := by unfold restR; split <;> omega
theorem tollR_eq (n : Int) (s : Stretch) : ∀ pp : Paper, tollR n s pp = (pp.map fun x => if overR n s x.1 = true then x.2 else 0).sum
  | [] => rfl
  | x :: pp => by
    have ih := tollR_eq n s pp
    unfold tollR at ih ⊢
    by_cases h : overR n s x.1 = true
    · rw [List.filter_cons_of_pos (by simpa using h)]; simp [h, ih]
    · rw [List.filter_cons_of_neg (by simpa using h)]; simp [h, ih]
theorem loadR_cons {n : Int} {rs : List Stretch} {i : Nat} {l : List Nat} {m : Int} : (loadOn n rs (i :: l) m : Int) = (if overR n (st rs i) m = true then 1 else 0) + (loadOn n rs l m : Int) := by
  unfold loadOn
  by_cases h : overR n (st rs i) m = true
  · rw [List.filter_cons_of_pos (by simpa using h)]; simp [h]; omega
  · rw [List.filter_cons_of_neg (by simpa using h)]; simp [h]
theorem loadR_snoc {n : Int} {rs : List Stretch} {i : Nat} {l : List Nat} {m : Int} : loadOn n rs (l ++ [i]) m = loadOn n rs l m + if overR n (st rs i) m = true then 1 else 0 := by
  unfold loadOn
  rw [List.filter_append, List.length_append]
  by_cases h : overR n (st rs i) m = true <;> simp [h]
theorem tollR_swap (n : Int) (rs : List Stretch) (pp : Paper) : ∀ (l : List Nat), (l.map fun i => tollR n (st rs i) pp).sum = (pp.map fun x => x.2 * (loadOn n rs l x.1 : Int)).sum
  | [] => by
    have e : (pp.map fun x => x.2 * (loadOn n rs [] x.1 : Int)) = pp.map fun _ => (0 : Int) := List.map_congr_left fun x _ => by simp [loadOn]
    rw [e]
    have z : ∀ l : Paper, (l.map fun _ => (0 : Int)).sum = 0 := fun l => by
      induction l with
      | nil => rfl
      | cons x l ih => rw [List.map_cons, List.sum_cons, ih]; rfl
    rw [z]; rfl
  | i :: l => by
    have ih := tollR_swap n rs pp l
    rw [List.map_cons, List.sum_cons, ih, tollR_eq, ← sum_add]
    congr 1
    apply List.map_congr_left
    intro x _
    rw [loadR_cons, Int.mul_add]
    congr 1
    split <;> simp
theorem momR_nodup {n : Int} {s : Stretch} (hn : 0 < n) (he : s.e ≤ n) : (momR n s).Nodup := by
  unfold momR
  rw [List.nodup_iff_pairwise_ne, List.pairwise_map]
  have h : (List.range s.e.toNat).Pairwise fun i j => i < j ∧ j < s.e.toNat := by
    rw [List.pairwise_iff_getElem]
    intro i j hi hj hij
    simp at hi hj ⊢
    omega
  refine h.imp fun {i j} ⟨h1, h2⟩ e => ?_
  have h3 : (((s.b + (j : Int)) - (s.b + (i : Int))) % n) = 0 := by rw [Int.sub_emod, e]; simp
  have h4 : (s.b + (j : Int)) - (s.b + (i : Int)) = ((j - i : Nat) : Int) := by omega
  rw [h4, Int.emod_eq_of_lt (by omega) (by omega)] at h3
  omega
theorem momR_mem {n : Int} {s : Stretch} {m : Int} (hn : 0 < n) (h : m ∈ momR n s) : 0 ≤ m ∧ m < n := by
  unfold momR at h
  obtain ⟨k, -, rfl⟩ := List.mem_map.mp h
  exact ⟨Int.emod_nonneg _ (by omega), Int.emod_lt_of_pos _ hn⟩
end DL
set_option Elab.async false
set_option linter.all false
set_option maxRecDepth 100000
set_option maxHeartbeats 4000000
namespace DL
open PySem PySem.Spec PyProof.Rows L2 LN
end DL
set_option Elab.async false
set_option linter.all false
set_option maxRecDepth 100000
set_option maxHeartbeats 4000000
namespace DL
open PySem PySem.Spec PyProof.Rows L2 LN
end DL
set_option Elab.async false
set_option linter.all false
set_option maxRecDepth 100000
set_option maxHeartbeats 4000000
namespace DL
open PySem PySem.Spec PyProof.Rows L2
abbrev Ux := Xd → Gp → Prop
abbrev Sx := List D → Gp → DK → Ux → Prop
abbrev EX := Sd → Gp → DK → Ux → Prop
abbrev EAX := Sd → Gp → (List D → Gp → Prop) → Ux → Prop
def LfX (K : PySem.W.Frag) (n : Nat) (f : Sx) : Sp := fun vs H R E => vs.length = n ∧ ∃ (P : Addr → Prop) (ds : List D) (G : Gp) (Q : DK) (U : Ux), Wo K P G H ∧ Reps K H G P ds vs ∧ f ds G Q U ∧
  (∀ d G' v H', Step G H G' H' → Wo K P G' H' → Rep K H' G' P d v → Q d G' → R v H') ∧ (∀ x G' cls d H', Step G H G' H' → Wo K P G' H' → RepX K H' G' P x cls d → U x G' → E cls d H')
def LEx (K : PySem.W.Frag) (Y : Wx) (te : TE) (t : EX) : Prop := ∀ (P : Addr → Prop) (s : Sd) (G : Gp) (Q : DK) (U : Ux) (σ : L2.St) (H : Hp) (R : VK), t s G Q U → Rl K P s G σ H →
  (∀ d G' v H', Step G H G' H' → Wo K P G' H' → Rep K H' G' P d v → Q d G' → R v H') → (∀ x G' cls d H', Step G H G' H' → Wo K P G' H' → RepX K H' G' P x cls d → U x G' → Y.w cls d σ H') → te σ H R
def LAx (K : PySem.W.Frag) (Y : Wx) (n : Nat) (te : TA) (t : EAX) : Prop := ∀ (P : Addr → Prop) (s : Sd) (G : Gp) (Q : List D → Gp → Prop) (U : Ux) (σ : L2.St) (H : Hp) (R : List V → Hp → Prop), t s G Q U → Rl K P s G σ H →
  (∀ ds G' vs H', Step G H G' H' → Wo K P G' H' → Reps K H' G' P ds vs → ds.length = n → Q ds G' → R vs H') → (∀ x G' cls d H', Step G H G' H' → Wo K P G' H' → RepX K H' G' P x cls d → U x G' → Y.w cls d σ H') → te σ H R
inductive JEx (X : Cx) (Y : Wx) (e : Expr) (t : EX) : Prop where
  | mk {te : TE} (a : PE X e te) (b : LEx X.K Y te t) : JEx X Y e t
inductive JAx (X : Cx) (Y : Wx) (es : List Expr) (t : EAX) : Prop where
  | mk {te : TA} (a : PA X es te) (b : LAx X.K Y es.length te t) : JAx X Y es t
@[simp] def eXp (t : EE) : EX := fun s G Q _ => t s G Q
@[simp] def eXa (t : EA) : EAX := fun s G Q _ => t s G Q
@[simp] def eConsX (ta : EX) (tr : EAX) : EAX := fun s G Q U => ta s G (fun x G1 => tr s G1 (fun xs G2 => Q (x :: xs) G2) U) U
@[simp] def eCallX (F : Sx) (ta : EAX) : EX := fun s G Q U => ta s G (fun ds G1 => F ds G1 Q U) U
@[simp] def eCallN (F : Sf) (ta : EAX) : EX := fun s G Q U => ta s G (fun ds G1 => F ds G1 Q) U
@[simp] def eLstX (ta : EAX) : EX := fun s G Q U => ta s G (fun xs G1 => xs.length ≤ sizeLine ∧ Q (.lst xs) G1) U
@[simp] def eCBX (c : CD) (ta : EAX) : EX := fun s G Q U => ta s G (fun xs G1 => c xs G1 Q) U
section
variable {X : Cx} {Y : Wx} {K : PySem.W.Frag} {e : Expr} {es : List Expr} {pos : Pos}
theorem jax_of {t : EA} (h : JA X es t) : JAx X Y es (eXa t) := ⟨h.pa, fun P s G Q U σ H R h1 r k _ => h.la P s G Q σ H R h1 r k⟩
structure CalX (P : Program) (w : World) (K : PySem.W.Frag) (mg : Str → Option Value) (base : Heap) (k : Nat) (x : Str) (ps : List Str) (F : Sx) : Prop where
  ex : ∃ f fd, FnOk P w K mg base (L2.CX P w) k f fd ps (LfX K ps.length F) ∧ mg x = some (.ref f) ∧ PySem.W.keepIn K (.ref f) = true ∧ Binds K fd ps []
theorem lex_call {n : Nat} {F : Sx} {t : TA} {ea : EAX} (ha : LAx K Y n t ea) : LEx K Y (tCallS (LfX K n F) (WE Y.w) t) (eCallX F ea) := fun P s G Q U σ H R h r k kx => by
  refine ha P s G _ U σ H _ h r (fun ds G1 vs H1 s1 w1 r1 l1 h1 => ?_) kx
  exact ⟨by rw [← r1.length]; exact l1, P, ds, G1, Q, U, w1, r1, h1, fun d G' v H' st w rp q => k d G' v H' (s1.trans st) w rp q, fun x G' cls d H' st w rx u => kx x G' cls d H' (s1.trans st) w rx u⟩
theorem jx_cal {k : Nat} {ps : List Str} {F : Sx} {x : Str} {p : Pos} {ea : EAX} (c : CalX X.prog X.w K X.mg X.base k x ps F) (hr : Room k X.A) (tk : Takes X Y.w) (hg : Gl X x) (ha : JAx X Y (e :: es) ea) (hK : X.K = K := by rfl) (hlen : (e :: es).length = ps.length := by rfl)
    (hdb : (x == ("__debug__" : Str)) = false := by decide) (he : starEach (e :: es) X.env = (false, eval e X.env) :: starEach es X.env := by rfl) (hpl : (backTo pos (starEach es X.env)).any (·.1) = false := by rfl) : JEx X Y (.Call (.Name x p) (e :: es) [] pos) (eCallX F ea) := by
  subst hK
  obtain ⟨f, fd, h1, h2, h3, h4⟩ := c.ex
  obtain ⟨a, b⟩ := ha
  rw [← hlen] at h1
  exact ⟨pe_callS h1 hr hg h2 h3 h4 (fun σ => passAt tk σ) a hdb he hpl, lex_call b⟩
end
@[simp] def sDropX (te : EX) : ES := fun N s G => te s G (fun _ G1 => N.nx s G1) fun x G1 => N.xr x s G1
@[simp] def sRetX (te : EX) : ES := fun N s G => te s G N.rt fun x G1 => N.xr x s G1
@[simp] def sAsgX (te : EX) (t : Tg) : ES := fun N s G => te s G (fun d G1 => match asg t d s with
  | some s' => N.nx s' G1
  | none => False) fun x G1 => N.xr x s G1
@[simp] def sRaise (c : Str) : ES := fun N s G => N.xr ⟨c, none⟩ s G
@[simp] def sRaiseF (c f : Str) (te : EE) : ES := fun N s G => te s G fun d G1 => N.xr ⟨c, some (f, d)⟩ s G1
section
variable {X : Cx} {Y : Wx} {K : PySem.W.Frag} {e : Expr} {es : List Expr} {pos : Pos} {ee : EX}
theorem js_exprX (he : JEx X Y e ee) (hs : swapsWith e none pos.line X.env = pure false := by rfl) : JS X Y (.Expr e pos) (sDropX ee) := by
  obtain ⟨a, b⟩ := he
  exact ⟨ps_expr a hs, fun P s G N σ H M h r k => b P s G _ _ σ H _ h r (fun d G' v H' st w rp q => k.nx s G' σ H' st (r.step st w) q) fun x G' cls d H' st w rx u => k.xr x s G' cls d σ H' st (r.step st w) rx u⟩
/-- raise C('..') -/
theorem js_raise0 {x m : Str} {j : Nat} {p p2 pos2 : Pos} (tk : Takes X Y.w) (fe : PySem.W.excIn K (He.ga K x) He.veBase "ValueError.__new__" = true) (kC : PySem.W.keepIn K (.ref (He.ga K x)) = true) (bC : PySem.W.subIn K (.ref (He.ga K x)) (.type "BaseException") = some true)
    (tC : PySem.W.typeIn K (.ref (He.ga K x)) = some (.type "type")) (gC : X.mg x = some (.ref (He.ga K x))) (hg : Gl X x) (hc : X.calm = true) (hK : X.K = K := by rfl) (hdb : (x == ("__debug__" : Str)) = false := by decide) :
    JS X Y (.Raise (some (.Call (.Name x p) [.Constant (.str m) j p2] [] pos)) none pos2) (sRaise x) := by
  subst hK
  exact ⟨ps_raise hc tk (pmk_own PySem.F.excBase_ValueError fe gC kC (raises_own bC tC) hg hdb), fun P s G N σ H M h r k => k.xr ⟨x, none⟩ s G _ none σ H (Step.refl _ _) r ⟨rfl, rfl⟩ h⟩
end
end DL
set_option Elab.async false
set_option linter.all false
set_option maxRecDepth 100000
set_option maxHeartbeats 4000000
namespace DL
open PySem PySem.Spec PyProof.Rows L2
/-- of the refusals' names -/
def isSub (x c : Str) : Bool := decide (x = c) || decide (c = "BenchError") || decide (c = "ValueError")
def excD (a dd : Addr) (x : Xd) : D := match x.f with
  | none => .cl a
  | some (n, e) => .exc a dd n e
def dOf (dd : Addr) (x : Xd) : Option Addr := match x.f with
  | none => none
  | some _ => some dd
/-- behind a suite whose name goes -/
def behind (i : Nat) (N : En) : En := { nx := fun s G => N.nx (s.set i none) G, rt := N.rt, bk := fun s G => N.bk (s.set i none) G, ct := fun s G => N.ct (s.set i none) G }
def sTryAs (ns : List Str) (c : Str) (i : Nat) (tb : ES) (ts : Addr → Addr → Xd → ES) : ES := fun N s G => tb { N with xr := fun x s' G' => x.c ∈ ns ∧ if isSub x.c c = true then ∀ a dd, ts a dd x (behind i N) (s'.set i (some (excD a dd x))) G' else N.xr x s' G' } s G
section
variable {K : PySem.W.Frag} {P : Addr → Prop} {s : Sd} {G : Gp} {σ : L2.St} {H : Hp}
theorem Rl.none (r : Rl K P s G σ H) (i : Nat) : Rl K P (s.set i none) G (σ.set i none) H := by
  refine ⟨r.wo, by rw [List.length_set, List.length_set]; exact r.len, fun j e q => ?_⟩
  by_cases hj : i = j
  · subst hj
    by_cases hi : i < s.length
    · rw [List.getElem?_set_self hi] at q
      cases q
    · rw [List.getElem?_eq_none (by rw [List.length_set]; omega)] at q; cases q
  · rw [List.getElem?_set_ne hj] at q
    obtain ⟨w, e1, e2⟩ := r.at_ j e q
    exact ⟨w, by rw [List.getElem?_set_ne hj]; exact e1, e2⟩
theorem repX_d {x : Xd} {cls : Value} {d : Option Addr} (h : RepX K H G P x cls d) : ∃ dd, d = dOf dd x ∧ ∀ a, Rep K H G P (excD a dd x) (.ref a) := by
  obtain ⟨_, h⟩ := h
  unfold dOf excD
  split at h
  · rename_i q
    rw [q]
    exact ⟨0, h, fun a => by unfold Rep; rfl⟩
  · rename_i n e q
    rw [q]
    obtain ⟨dd, v, e1, g, p, e2, r⟩ := h
    exact ⟨dd, e1, fun a => by unfold Rep; exact ⟨rfl, g, p, v, e2, r⟩⟩
/-- a suite's reading, over the heap -/
def tsUp (K : PySem.W.Frag) (ns : List Str) (ts : Addr → Addr → Xd → ES) (a : Addr) (cls : Value) (d : Option Addr) : TS := fun M σ H => ∃ (x : Xd) (dd : Addr), cls = .ref (He.ga K x.c) ∧ x.c ∈ ns ∧ d = dOf dd x ∧ upS K y0 (ts a dd x) M σ H
end
section
variable {X : Cx} {Y : Wx} {body suite : List Stmt} {b₀ : Stmt} {x n : Str} {cv : Value} {i : Nat} {np pos pos' : Pos} {ns : List Str} {tb : ES} {ts : Addr → Addr → Xd → ES} {K : PySem.W.Frag}
theorem js_tryAs (tk : Takes X Y.w) (hs : X.stack = X.env :: X.outer) (hf : X.env.frame = some X.env.locals) (hN : X.N.Nodup) (hi : X.N[i]? = some n) (hln : X.env.kindOf n = some .local) (hc : Names X x cv) (hm : ∀ m ∈ ns, PySem.W.exmOne K (.ref (He.ga K m)) cv = some (isSub m x))
    (hb : ∀ (W : WX) (pn : List (Addr × Obj)) (xe : Value → Shared → Prop), Takes (X.tr pn xe) W → PassesOwn (model X.prog X.w) X.A X.env xe → JSs (X.tr pn xe) ⟨W⟩ body tb)
    (hsu : ∀ (a dd : Addr) (x : Xd) (oe : Obj) (pn : List (Addr × Obj)), x.c ∈ ns → Zc (.ref (He.ga K x.c)) (dOf dd x) oe → (∃ vs, oe.data = .fields vs) → JSs (X.suite a ((a, oe) :: pn)) y0 (b₀ :: suite) (ts a dd x)) (hK : X.K = K := by rfl) :
    JS X Y (.Try body [.ExceptHandler (some (.Name x np)) (some n) (b₀ :: suite) pos'] [] [] pos) (sTryAs ns x i tb ts) := by
  subst hK
  refine ⟨ps_try_as (ts := tsUp X.K ns ts) (tb := fun W => upS X.K ⟨W⟩ tb) hs hf hN hi hln hc tk (fun W pn xe t po => (hb W pn xe t po).ps) (fun a oe cls d pn hz hv => ⟨fun pins s σ H M I h => ?_⟩), fun P s G N σ H M h r k => ?_⟩
  · obtain ⟨x, dd, rfl, hx, rfl, h⟩ := h
    exact (hsu a dd x oe pn hx hz hv).ps.run pins s σ H M I h
  · refine ⟨P, s, G, _, h, r, k.nx, k.rt, k.bk, k.ct, fun x s' G' cls d σ' H' st rl rx hx => ?_⟩
    obtain ⟨hx, h⟩ := hx
    refine ⟨isSub x.c _, by rw [rx.1]; exact hm x.c hx, fun e a ha => ?_, fun e => ?_⟩
    · rw [if_pos e] at h
      obtain ⟨dd, ed, re⟩ := repX_d rx
      refine ⟨x, dd, rx.1, hx, ed, P, _, G', _, h a dd, rl.set (re a), ?_, ?_, ?_, ?_, ?_⟩
      · intro s2 G2 σ2 H2 st2 rl2 q
        exact k.nx _ G2 _ H2 (st.trans st2) (rl2.none i) q
      · intro d2 G2 v2 H2 st2 w2 r2 q
        exact k.rt d2 G2 v2 H2 (st.trans st2) w2 r2 q
      · intro s2 G2 σ2 H2 st2 rl2 q
        exact k.bk _ G2 _ H2 (st.trans st2) (rl2.none i) q
      · intro s2 G2 σ2 H2 st2 rl2 q
        exact k.ct _ G2 _ H2 (st.trans st2) (rl2.none i) q
      · intro _ _ _ _ _ _ _ _ _ _ q
        exact q
    · rw [if_neg (by rw [e]; exact Bool.false_ne_true)] at h
      exact k.xr x s' G' cls d σ' H' st rl rx h
end
def FzX (G0 : Gp) (x : Xd) (G' G2 : Gp) : Prop := ∀ (K : PySem.W.Frag) (P : Addr → Prop) (H0 H : Hp) (cls : Value) (d : Option Addr), Wo K P G0 H0 → Step G0 H0 G' H → Wo K P G' H → RepX K H G' P x cls d → Step G0 H0 G2 H ∧ Wo K P G2 H ∧ RepX K H G2 P x cls d
def refX (G : Gp) (x : Xd) : Prop := match x.f with
  | none => True
  | some (_, e) => RefIn G e
theorem fzx_sub {G0 G' G2 : Gp} {x : Xd} (h1 : ∀ a o, G2 a = some o → G' a = some o) (h0 : ∀ a o, G0 a = some o → ∃ o', G2 a = some o') (hc : ∀ a o, G2 a = some o → RefO G2 o ∨ G0 a = some o) (hd : refX G2 x) : FzX G0 x G' G2 := fun K P H0 H cls d w0 st w r => by
  obtain ⟨b1, b2, _⟩ := fz_sub (d := .non) h1 h0 hc (by simp only [RefIn]) K P H0 H .non w0 st w rep_non
  refine ⟨b1, b2, r.1, ?_⟩
  have r2 := r.2
  unfold refX at hd
  split
  · rename_i q
    rw [q] at r2
    exact r2
  · rename_i n e q
    rw [q] at r2 hd
    obtain ⟨a, v, e1, g, p, e2, rp⟩ := r2
    have n2 : ∀ a, G' a = none → G2 a = none := fun a ha => by
      cases q2 : G2 a with
      | none => rfl
      | some o => rw [h1 a o q2] at ha; cases ha
    exact ⟨a, v, e1, n2 a g, p, e2, rp.less n2 hd⟩
theorem fzx_back {G0 G' : Gp} {x : Xd} (h : ∀ a o, G0 a = some o → G' a = some o) (hd : refX G0 x) : FzX G0 x G' G0 := fzx_sub h (fun a o e => ⟨o, e⟩) (fun a o e => .inr e) hd
def finX (G0 : Gp) (Q : DK) (U : Ux) : En := { fin G0 Q with xr := fun x _ G' => ∃ G2, FzX G0 x G' G2 ∧ U x G2 }
theorem finX_back {G0 G' : Gp} {Q : DK} {U : Ux} {x : Xd} {s : Sd} (h : ∀ a o, G0 a = some o → G' a = some o) (hd : refX G0 x) (q : U x G0) : (finX G0 Q U).xr x s G' := ⟨G0, fzx_back h hd, q⟩
/-- what a def wishes of what leaves it -/
def wE (E : XK) : Wx := ⟨fun cls d _ H => E cls d H⟩
section
variable {P : Program} {w : World} {K : PySem.W.Frag} {mg : Str → Option Value} {base : Heap}
theorem fkX_ok {x qual : Str} {params : Arguments} {body : List Stmt} {scope : Scope} {kws : List (Str × V)} {dvs : List V} {f : Addr} {fd : FuncData} {N ps : List Str} {k : Nat} {F : Sx} {es : ES}
    (FF : FunD K x qual params body scope dvs kws f fd) (S : FnScope N ps scope)
    (hJ : ∀ (cdv : Value) (A : Around) (outer : List Env) (s : Shared) (H : Hp) (E : XK), Room k (A.deeper (envOfC qual scope s.heap.objs.size f cdv)) → Takes (cxOf (L2.CX P w) P w K mg base N qual scope f cdv A outer s H E) (wE E).w →
      PassesOwn (model P w) (A.deeper (envOfC qual scope s.heap.objs.size f cdv)) (envOfC qual scope s.heap.objs.size f cdv) (cxOf (L2.CX P w) P w K mg base N qual scope f cdv A outer s H E).xe → JSs (cxOf (L2.CX P w) P w K mg base N qual scope f cdv A outer s H E) (wE E) body es)
    (hR : ∀ ds G Q U, F ds G Q U → es (finX G Q U) (startD N.length ds) G) : FnOk P w K mg base (L2.CX P w) (k + 1) f fd ps (LfX K ps.length F) := by
  refine FF.ok S (fun vs H Q E h => h.1) (fun cdv A outer s H vs Q E hr h => ?_)
  obtain ⟨_, P', ds, G, Q', U, wo, r, hf, kk, kx⟩ := h
  have j := hJ cdv A outer s H E hr (takes_of rfl rfl rfl rfl) (passes_of rfl)
  refine ⟨_, j.ps, ?_⟩
  refine ⟨P', startD N.length ds, G, finX G Q' U, hR ds G Q' U hf, rl_start wo r, ?_, ?_, ?_, ?_, ?_⟩
  · intro s' G' σ' H' st rl hq
    obtain ⟨d2, G2, fz, q2⟩ := hq
    obtain ⟨b1, b2, b3⟩ := fz K P' H H' .non wo st rl.wo rep_non
    exact kk d2 G2 .non H' b1 b2 b3 q2
  · intro d G' v H' st w' rp hq
    obtain ⟨d2, G2, fz, q2⟩ := hq
    obtain ⟨b1, b2, b3⟩ := fz K P' H H' v wo st w' rp
    exact kk d2 G2 v H' b1 b2 b3 q2
  · intro s' G' σ' H' st rl hq
    exact hq.elim
  · intro s' G' σ' H' st rl hq
    exact hq.elim
  · intro x s' G' cls d σ' H' st rl rx hq
    obtain ⟨G2, fz, q2⟩ := hq
    obtain ⟨b1, b2, b3⟩ := fz K P' H H' cls d wo st rl.wo rx
    exact kx x G2 cls d H' b1 b2 b3 q2
theorem calX_ok {x : Str} {st : Stmt} {N ps : List Str} {k : Nat} {F : Sx} {es : ES} (D : Df K mg x st) (S : FnScope N ps (defScope st))
    (hb : ∀ (kV doc pm : Value) (an : Option Addr) (cdv ct : Value) (us : List Value), us.length = ps.length → bindArgs (PySem.W.fnOf x x (defArgs st) (defBody st) (defScope st) .none kV doc pm an cdv ct) ⟨us, []⟩ = pure (ps.zip us))
    (hJ : ∀ (f : Addr) (cdv : Value) (A : Around) (outer : List Env) (s : Shared) (H : Hp) (E : XK), Room k (A.deeper (envOfC x (defScope st) s.heap.objs.size f cdv)) → Takes (cxOf (L2.CX P w) P w K mg base N x (defScope st) f cdv A outer s H E) (wE E).w →
      PassesOwn (model P w) (A.deeper (envOfC x (defScope st) s.heap.objs.size f cdv)) (envOfC x (defScope st) s.heap.objs.size f cdv) (cxOf (L2.CX P w) P w K mg base N x (defScope st) f cdv A outer s H E).xe → JSs (cxOf (L2.CX P w) P w K mg base N x (defScope st) f cdv A outer s H E) (wE E) (defBody st) es)
    (hR : ∀ ds G Q U, F ds G Q U → es (finX G Q U) (startD N.length ds) G) : CalX P w K mg base (k + 1) x ps F := by
  obtain ⟨f, fd, h1, h2⟩ := D.ex
  exact ⟨f, fd, fkX_ok h1 S (hJ f) hR, h2, h1.kp, h1.bindsN hb⟩
end
@[simp] def eIsE (a dd : Addr) (x : Xd) (i : Nat) (b : Bool) : EE := fun s G Q => match s[i]? with
  | some (some (.cl a')) => a' = a ∧ dOf dd x = none ∧ Q (.bl b) G
  | some (some (.exc a' d' _ _)) => a' = a ∧ dOf dd x = some d' ∧ Q (.bl b) G
  | _ => False
@[simp] def eXf (a dd : Addr) (x : Xd) (i : Nat) (f : Str) : EE := fun s G Q => match s[i]? with
  | some (some (.exc a' d' n e)) => a' = a ∧ dOf dd x = some d' ∧ n = f ∧ Q e G
  | _ => False
def rIsX (K : PySem.W.Frag) (C a : Addr) (d : Option Addr) : List V → Hp → VK → Prop := fun xs H Q => ∃ (c : V) (cv : Value) (b : Bool), xs = [.ref a, c] ∧ (∀ u, RelV c u → u = cv) ∧ PySem.W.kitOne K (.ref C) cv = some b ∧ (∀ dd, d = some dd → ∃ fs, H dd = some (.xd fs)) ∧ Q (.bl b) H
theorem call_isX {X : Cx} {a C : Addr} {d : Option Addr} {oe : Obj} {pn : List (Addr × Obj)} (T : ExcC X.K C) (hz : Zc (.ref C) d oe) (hf : ∃ vs, oe.data = .fields vs) : CallR (X.suite a ((a, oe) :: pn)) (.builtin "isinstance") (rIsX X.K C a d) := by
  intro pins s σ H xs us Q I r h
  obtain ⟨c, cv, b, rfl, hcv, e, hd, q⟩ := h
  cases r with
  | cons rx rr =>
    cases rr with
    | cons rt rr =>
      cases rr
      cases rx
      have ec := hcv _ rt
      subst ec
      obtain ⟨hget, _⟩ := I.pin (a, oe) (List.mem_append.mpr (.inl List.mem_cons_self))
      obtain ⟨vs, hv⟩ := hf
      have J : ∃ od, PySem.W.InstAt s.heap a oe C od := by
        cases d with
        | none =>
          refine ⟨none, ?_⟩
          obtain ⟨oc, od, oda, osl⟩ := oe
          obtain ⟨h1, h2⟩ := hz
          dsimp only at h1 h2 hv
          subst h1 h2 hv
          exact ⟨hget, rfl, rfl, trivial⟩
        | some dd =>
          obtain ⟨fs, ea⟩ := hd dd rfl
          have hx : ObjOk X.prog X.w H s.heap dd (.xd fs) := I.hok dd _ ea
          obtain ⟨mA, hns, hr⟩ := hx
          obtain ⟨od, ho, hl⟩ := lookIn_ns hns
          exact ⟨some od, hget, hz.1, by unfold PySem.W.notCls; rw [hv] <;> rfl, by rw [hz.2]; exact ho⟩
      obtain ⟨od, J⟩ := J
      have hcl : (PySem.W.clsIn X.K C).isSome = true := by
        have := T.hd
        unfold PySem.W.hasDictIn at this
        cases q : PySem.W.clsIn X.K C with
        | none => rw [q] at this; cases this
        | some cd => rfl
      exact PySem.W.kia_one (PySem.W.kitx_exc hcl T.hg T.hk T.hs T.ha T.hn T.ht T.hm) I.kIn J e (fun z => nomatch z) fun tk => ⟨.bl b, H, I.kept (t' := tk) fun _ _ z => z, rfl, q⟩
section
variable {X : Cx} {a dd : Addr} {x : Xd} {oe : Obj} {pn : List (Addr × Obj)} {K : PySem.W.Frag} {i : Nat} {n : Str} {p p2 pos : Pos} {ce : Expr} {b : Bool}
theorem j_isE {c : V} {cv : Value} (T : ExcC K (He.ga K x.c)) (hz : Zc (.ref (He.ga K x.c)) (dOf dd x) oe) (hf : ∃ vs, oe.data = .fields vs) (hk : PySem.W.kitOne K (.ref (He.ga K x.c)) cv = some b) (hcv : ∀ u, RelV c u → u = cv)
    (hg : Gl (X.suite a ((a, oe) :: pn)) "isinstance") (hm : X.mg "isinstance" = none) (hi : PE (X.suite a ((a, oe) :: pn)) (.Name n p2) (tVar i)) (hce : PE (X.suite a ((a, oe) :: pn)) ce (tC c)) (hK : X.K = K := by rfl)
    (h1 : starEach [.Name n p2, ce] (X.suite a ((a, oe) :: pn)).env = (false, eval (.Name n p2) (X.suite a ((a, oe) :: pn)).env) :: starEach [ce] (X.suite a ((a, oe) :: pn)).env := by rfl)
    (h2 : starEach [ce] (X.suite a ((a, oe) :: pn)).env = (false, eval ce (X.suite a ((a, oe) :: pn)).env) :: starEach [] (X.suite a ((a, oe) :: pn)).env := by rfl)
    (hpl : (backTo pos (starEach [ce] (X.suite a ((a, oe) :: pn)).env)).any (·.1) = false := by rfl) :
    JE (X.suite a ((a, oe) :: pn)) (.Call (.Name "isinstance" p) [.Name n p2, ce] [] pos) (eIsE a dd x i b) := by
  subst hK
  refine ⟨pe_callB (call_isX T hz hf) hg hm (by decide +kernel) (pa_cons hi (pa_cons hce pa_nil h2) h1) (by decide) (by decide) h1 hpl, fun P s G Q σ H R h r k => ?_⟩
  unfold eIsE at h
  split at h
  · rename_i a' e
    obtain ⟨rfl, hd, h⟩ := h
    obtain ⟨v, e1, e2⟩ := r.at_ i _ e
    unfold Rep at e2
    subst e2
    exact ⟨_, e1, c, cv, b, rfl, hcv, hk, (fun d ed => by rw [hd] at ed; cases ed), k _ G _ H (Step.refl _ _) r.wo rep_bl h⟩
  · rename_i a' d' n' e' e
    obtain ⟨rfl, hd, h⟩ := h
    obtain ⟨v, e1, e2⟩ := r.at_ i _ e
    unfold Rep at e2
    obtain ⟨rfl, g, pp, u, e3, e4⟩ := e2
    exact ⟨_, e1, c, cv, b, rfl, hcv, hk, (fun d ed => by rw [hd] at ed; cases ed; exact ⟨_, e3⟩), k _ G _ H (Step.refl _ _) r.wo rep_bl h⟩
  · exact h.elim
end
def eqF (a b : Option (Option Value)) : Bool := decide (a = b)
def excB (K : PySem.W.Frag) (C : Addr) : Bool := eqF (PySem.W.findIn K (.ref C) "__getattribute__") (some (some (.builtin "BaseException.__getattribute__"))) && eqF (PySem.W.findIn K (.ref C) "__getattr__") (some none) && decide (PySem.W.subIn K (.ref C) (.type "BaseException") = some true) && PySem.W.hasDictIn K C
  && eqF (PySem.W.findIn K (.ref C) "__class__") (some (some (.builtin "object.__class__"))) && eqF (PySem.W.specialIn K (.builtin "object.__class__") "__get__") (some (some (.builtin "getset_descriptor.__get__"))) && decide (PySem.W.takesIn K (.builtin "object.__class__") = some true) && decide (PySem.W.mroIn K C (.type "object") = some true)
theorem excB_ok {K : PySem.W.Frag} {C : Addr} (h : excB K C = true) : ExcC K C := by
  unfold excB eqF at h
  simp only [Bool.and_eq_true, decide_eq_true_eq] at h
  obtain ⟨⟨⟨⟨⟨⟨⟨h1, h2⟩, h3⟩, h4⟩, h5⟩, h6⟩, h7⟩, h8⟩ := h
  exact ⟨h1, h2, h3, h4, h5, h6, h7, h8⟩
/-- of each of some classes -/
def allB (K : PySem.W.Frag) (ns : List Str) (t : PySem.W.Frag → Str → Bool) : Bool := ns.all (t K)
theorem allB_ok {K : PySem.W.Frag} {ns : List Str} {t : PySem.W.Frag → Str → Bool} (h : allB K ns t = true) {m : Str} (hm : m ∈ ns) : t K m = true := List.all_eq_true.mp h m hm
def tExc (K : PySem.W.Frag) (m : Str) : Bool := excB K (He.ga K m)
def tKit (c : Str) (K : PySem.W.Frag) (m : Str) : Bool := decide (PySem.W.kitOne K (.ref (He.ga K m)) (.ref (He.ga K c)) = some (isSub m c))
def tKitV (K : PySem.W.Frag) (m : Str) : Bool := decide (PySem.W.kitOne K (.ref (He.ga K m)) (.type "ValueError") = some true)
def tExm (c : Str) (K : PySem.W.Frag) (m : Str) : Bool := decide (PySem.W.exmOne K (.ref (He.ga K m)) (.ref (He.ga K c)) = some (isSub m c))
theorem tKit_ok {K : PySem.W.Frag} {c m : Str} (h : tKit c K m = true) : PySem.W.kitOne K (.ref (He.ga K m)) (.ref (He.ga K c)) = some (isSub m c) := of_decide_eq_true h
theorem tKitV_ok {K : PySem.W.Frag} {m : Str} (h : tKitV K m = true) : PySem.W.kitOne K (.ref (He.ga K m)) (.type "ValueError") = some true := of_decide_eq_true h
theorem tExm_ok {K : PySem.W.Frag} {c m : Str} (h : tExm c K m = true) : PySem.W.exmOne K (.ref (He.ga K m)) (.ref (He.ga K c)) = some (isSub m c) := of_decide_eq_true h
/-- the head's hook, with one Bool more -/
def obsB (n : Nat) (fa : List He.Fa) (fn : List He.DefD) (ex : PySem.W.Frag → Bool) (g : Addr → Option Obj) : He.AlD × Bool := (He.obsDG n fa fn g, ex (He.frG g (He.asD g n)))
def hookB (n : Nat) (fa : List He.Fa) (fn : List He.DefD) (ex : PySem.W.Frag → Bool) : PySem.W.Hook where
  α := He.AlD × Bool
  obs := fun s => obsB n fa fn ex s.heap.get?
  val := fun _ => (He.valD fn, true)
  says := fun _ h => ∃ K : PySem.W.Frag, K.In h ∧ He.SaysD fa fn K ∧ ex K = true
  of := fun _ _ e => ⟨_, He.frG_in, congrArg (fun z : He.AlD × Bool => z.1) e, congrArg (fun z : He.AlD × Bool => z.2) e⟩
  keeps := fun _ _ _ ⟨K, hK, c⟩ k => ⟨K, PySem.W.Frag.In.keeps hK k, c⟩
theorem obsB_eq {n : Nat} {fa : List He.Fa} {fn : List He.DefD} {ex : PySem.W.Frag → Bool} {g : Addr → Option Obj} {s : Shared} (h : ∀ a, g a = s.heap.get? a) : obsB n fa fn ex g = (hookB n fa fn ex).obs s := by
  have e : g = s.heap.get? := funext h
  rw [e] <;> rfl
/-- a class of refusals without a field -/
structure XtK (K : PySem.W.Frag) (mg : Str → Option Value) (c : Str) : Prop where
  fe : PySem.W.excIn K (He.ga K c) He.veBase "ValueError.__new__" = true
  kC : PySem.W.keepIn K (.ref (He.ga K c)) = true
  bC : PySem.W.subIn K (.ref (He.ga K c)) (.type "BaseException") = some true
  tC : PySem.W.typeIn K (.ref (He.ga K c)) = some (.type "type")
  gC : mg c = some (.ref (He.ga K c))
theorem js_raiseT {X : Cx} {Y : Wx} {K : PySem.W.Frag} {pos : Pos} {x m : Str} {j : Nat} {p p2 pos2 : Pos} (tk : Takes X Y.w) (o : XtK K X.mg x) (hg : Gl X x) (hc : X.calm = true) (hK : X.K = K := by rfl) (hdb : (x == ("__debug__" : Str)) = false := by decide) :
    JS X Y (.Raise (some (.Call (.Name x p) [.Constant (.str m) j p2] [] pos)) none pos2) (sRaise x) := js_raise0 tk o.fe o.kC o.bC o.tC o.gC hg hc hK hdb
end DL
set_option Elab.async false
set_option linter.all false
set_option maxRecDepth 100000
set_option maxHeartbeats 4000000
namespace DL
open PySem PySem.Spec PyProof.Rows L2
section
variable {X : Cx} {K : PySem.W.Frag} {pos : Pos}
@[simp] def eDispV (tk tv : EE) : EE := fun s G Q => tk s G fun a G1 => tv s G1 fun b G2 => match keyD a with
  | some k => Q (.dct [k] [b]) G2
  | none => False
/-- x in range(a, b), x not in range(a, b) -/
@[simp] def oInR (neg : Bool) : D → D → D → Gp → DK → Prop := fun x a b G Q => match x, a, b with
  | .int i, .int lo, .int hi => Q (.bl (if neg then !decide (lo ≤ i ∧ i < hi) else decide (lo ≤ i ∧ i < hi))) G
  | _, _, _ => False
@[simp] def eInR (neg : Bool) (tx ta tb : EE) : EE := fun s G Q => tx s G fun x G1 => ta s G1 fun a G2 => tb s G2 fun b G3 => oInR neg x a b G3 Q
end
end DL
set_option Elab.async false
set_option linter.all false
set_option maxRecDepth 100000
set_option maxHeartbeats 4000000
namespace DL
open PySem PySem.Spec PyProof.Rows L2 PySem.W
theorem cr_strX {X : Cx} (hg : X.A.guards = some []) (hu : X.A.units + 64 < cLine) (hsy : ∃ m, X.base.Ns sysModules m) : CallR X (.type "str") (rStrX X.K) := by
  intro pins s σ H vs us Q I r h
  rcases h with ⟨a, p, rfl, hd, h1, h3, h4, q⟩ | h | h | ⟨b, rfl, q⟩ | ⟨rfl, q⟩
  · rw [Vals.ref1 r]
    obtain ⟨as, rd, hn⟩ := readsX I hsy hd (show RelV (V.ref a) (Value.ref a) from rfl)
    exact str_of_reads rd h1 (fun _ => hn) hg (by omega) (fun _ _ e => e) (fun h' t tk hk => ⟨.str p.shown, H, I.kept hk, ⟨t, rfl⟩, q⟩) h4
  · exact call_str_int pins s σ H vs us Q I r h
  · exact SkE.call_str_str pins s σ H vs us Q I r h
  · cases r with
    | cons a b =>
      cases b
      cases a
      exact PySem.P.str_of_bool ⟨.str _, H, I.kept (t' := s.toks + 1) fun _ _ e => e, ⟨_, rfl⟩, q⟩
  · cases r with
    | cons a b =>
      cases b
      cases a
      exact PySem.P.str_of_none ⟨.str _, H, I.kept (t' := s.toks + 1) fun _ _ e => e, ⟨_, rfl⟩, q⟩
def boxX : D → Bool
  | .lst _ => true
  | .tup _ => true
  | .dct _ _ => true
  | .ref _ => true
  | .scr _ => true
  | _ => false
theorem boxX_ref {K : PySem.W.Frag} {P : Addr → Prop} {G : Gp} {H : Hp} {x : D} {u : V} (h : boxX x = true) (r : Rep K H G P x u) : ∃ a, u = .ref a := by
  cases x with
  | lst ds => obtain ⟨a, _, rfl, _⟩ := rep_l r; exact ⟨a, rfl⟩
  | tup ds => obtain ⟨a, _, rfl, _⟩ := rep_t r; exact ⟨a, rfl⟩
  | dct ks ds => unfold Rep at r; obtain ⟨a, _, rfl, _⟩ := r; exact ⟨a, rfl⟩
  | ref a => unfold Rep at r; exact ⟨a, r.1⟩
  | scr ns => unfold Rep at r; obtain ⟨a, rfl, _⟩ := r; exact ⟨a, rfl⟩
  | _ => cases h
def cStrX : CD := fun xs G Q => match xs with
  | [.int i] => i.natAbs.log2 < 1920 ∧ Q (.str (toString i)) G
  | [.str z] => Q (.str z) G
  | [.bl b] => Q (.str (if b then "True" else "False")) G
  | [.non] => Q (.str "None") G
  | [x] => boxX x = true ∧ (match toPx G x with
    | some p => p.showable = true ∧ p.depth ≤ 40 ∧ p.shown.length ≤ sizeLine ∧ Q (.str p.shown) G
    | none => False)
  | _ => False
theorem lc_strX {K : PySem.W.Frag} : LC K (rStrX K) cStrX := fun P G H xs us Q R h w r k => by
  unfold cStrX at h
  split at h
  · obtain ⟨u, rfl, r1⟩ := reps1 r
    rw [rep_i r1]
    exact .inr (.inl ⟨_, rfl, h.1, k _ G _ H (Step.refl _ _) w rep_str h.2⟩)
  · obtain ⟨u, rfl, r1⟩ := reps1 r
    rw [rep_s r1]
    exact .inr (.inr (.inl ⟨_, rfl, k _ G _ H (Step.refl _ _) w rep_str h⟩))
  · obtain ⟨u, rfl, r1⟩ := reps1 r
    rw [rep_b r1]
    exact .inr (.inr (.inr (.inl ⟨_, rfl, k _ G _ H (Step.refl _ _) w rep_str h⟩)))
  · obtain ⟨u, rfl, r1⟩ := reps1 r
    rw [rep_n r1]
    exact .inr (.inr (.inr (.inr ⟨rfl, k _ G _ H (Step.refl _ _) w rep_str h⟩)))
  · rename_i x n1 n2 n3 n4
    obtain ⟨hb, h⟩ := h
    split at h
    · rename_i p e
      obtain ⟨u, rfl, r1⟩ := reps1 r
      obtain ⟨h1, h3, h4, h5⟩ := h
      have d := dpx_of w x r1 e
      obtain ⟨a, rfl⟩ := boxX_ref hb r1
      exact .inl ⟨a, p, rfl, d, h1, h3, h4, k _ G _ H (Step.refl _ _) w rep_str h5⟩
    · exact h.elim
  · exact h.elim
end DL
set_option Elab.async false
set_option linter.all false
set_option maxRecDepth 100000
set_option maxHeartbeats 4000000
namespace DL
open PySem PySem.Spec PyProof.Rows L2 PySem.W
end DL
set_option Elab.async false
set_option linter.all false
set_option maxRecDepth 100000
set_option maxHeartbeats 4000000
namespace DL
open PySem PySem.Spec PyProof.Rows L2 LN
def az : Str := "abcdefghijklmnopqrstuvwxyz"
theorem JE.imp {X : Cx} {e : Expr} {t t' : EE} (h : JE X e t) (k : ∀ s G Q, t' s G Q → t s G Q) : JE X e t' := by
  obtain ⟨a, b⟩ := h
  exact ⟨a, fun P s G Q σ H R q r kk => b P s G Q σ H R (k s G Q q) r kk⟩
mutual
def okT : D → Bool
  | .non => true
  | .bl _ => true
  | .int _ => true
  | .str z => decide (z.length ≤ 1000) && z.cps.toList.all fun c => decide (c < 1114112)
  | .lst ds => okTs ds
  | .tup ds => okTs ds
  | .dct _ ds => okTs ds
  | _ => false
def okTs : List D → Bool
  | [] => true
  | d :: ds => okT d && okTs ds
end
theorem ixt_0 {ds : List D} {d : D} {G : Gp} {Q : DK} {i : Int} (e : atI ds i = some d) (q : Q d G) : oIx (.tup ds) (.int i) G Q := by
  simp only [oIx, lkQ_tup, e]
  exact q
theorem len_tup {ds : List D} {G : Gp} {Q : DK} (q : Q (.int ds.length) G) : cLen [.tup ds] G Q := by
  simp only [cLen, lkQ_tup]
  exact q
theorem len_lst {ds : List D} {G : Gp} {Q : DK} (q : Q (.int ds.length) G) : cLen [.lst ds] G Q := by
  simp only [cLen, lkQ_lst]
  exact q
theorem ne_ii {a b : Int} {G : Gp} {Q : DK} (q : Q (.bl (!decide (a = b))) G) : oNe (.int a) (.int b) G Q := by
  simp only [oNe, toPy, sh_int, eqv_ii, true_and]
  exact q
theorem eq_ii {a b : Int} {G : Gp} {Q : DK} (q : Q (.bl (decide (a = b))) G) : oEq (.int a) (.int b) G Q := by
  simp only [oEq, toPy, sh_int, eqv_ii, true_and]
  exact q
end DL
set_option Elab.async false
set_option linter.all false
set_option maxRecDepth 100000
set_option maxHeartbeats 4000000
namespace DL
open PySem PySem.Spec PyProof.Rows L2 LN
end DL
set_option Elab.async false
set_option linter.all false
set_option maxRecDepth 100000
set_option maxHeartbeats 4000000
namespace DL
open PySem PySem.Spec PyProof.Rows L2 LN
theorem add_ii {a b : Int} {G : Gp} {Q : DK} (q : Q (.int (a + b)) G) : oAdd (.int a) (.int b) G Q := q
theorem eqv_ss (a b : Str) : PyData.eqv (.str a) (.str b) = decide (a = b) := by
  simp only [PyData.eqv]
  rw [Bool.eq_iff_iff]; simp
theorem eq_ss {a b : Str} {G : Gp} {Q : DK} (ha : Asc a) (hb : Asc b) (q : Q (.bl (decide (a = b))) G) : oEq (.str a) (.str b) G Q := by
  simp only [oEq, toPy, (shp_str (n := 0) ha).shaped (by decide), (shp_str (n := 0) hb).shaped (by decide), eqv_ss, true_and]
  exact q
theorem ne_ss {a b : Str} {G : Gp} {Q : DK} (ha : Asc a) (hb : Asc b) (q : Q (.bl (!decide (a = b))) G) : oNe (.str a) (.str b) G Q := by
  simp only [oNe, toPy, (shp_str (n := 0) ha).shaped (by decide), (shp_str (n := 0) hb).shaped (by decide), eqv_ss, true_and]
  exact q
theorem shp_pp {n : Nat} (pp : Paper) : Shp (n + 2) (.list (pp.map fun x => PyData.tuple [.int x.1, .int x.2])) := shp_list fun d hd => by
  obtain ⟨x, _, rfl⟩ := List.mem_map.mp hd
  exact shp_tuple fun y hy => by
    simp at hy
    rcases hy with rfl | rfl <;> exact shp_int _
theorem toPys_pp (G : Gp) (pp : Paper) : toPys G (pp.map qD) = some (pp.map fun x => PyData.tuple [.int x.1, .int x.2]) := toPys_map (fun x => by simp [qD]) pp
end DL
set_option Elab.async false
set_option linter.all false
set_option maxRecDepth 100000
set_option maxHeartbeats 4000000
namespace DL
open PySem PySem.Spec PyProof.Rows L2 LN
end DL
set_option Elab.async false
set_option linter.all false
set_option maxRecDepth 100000
set_option maxHeartbeats 4000000
namespace DL
open PySem PySem.Spec PyProof.Rows L2 LN
end DL
set_option Elab.async false
set_option linter.all false
set_option maxRecDepth 100000
set_option maxHeartbeats 4000000
namespace DL
open PySem PySem.Spec PyProof.Rows L2 LN
end DL
set_option Elab.async false
set_option linter.all false
set_option maxRecDepth 100000
set_option maxHeartbeats 4000000
namespace DL
open PySem PySem.Spec PyProof.Rows L2 LN
end DL
set_option Elab.async false
set_option linter.all false
set_option maxRecDepth 100000
set_option maxHeartbeats 4000000
namespace DL
open PySem PySem.Spec PyProof.Rows L2 LN
theorem ne_self {x y : D} {u : PyData} {n : Nat} {G : Gp} {Q : DK} (sh : Shp n u) (e1 : toPy G x = some u) (e2 : toPy G y = some u) (q : Q (.bl false) G) (hn : n ≤ 64 := by decide) : oNe x y G Q := by
  simp only [oNe, e1, e2, sh.shaped hn, eqv_self sh, true_and]
  exact q
end DL
set_option Elab.async false
set_option linter.all false
set_option maxRecDepth 100000
set_option maxHeartbeats 4000000
namespace DL
open PySem PySem.Spec PyProof.Rows L2 LamX
def lePB (bs : Nat → Int) : Nat → Nat → Bool := fun p q => decide (bs p < bs q ∨ (bs p = bs q ∧ (p : Int) ≤ (q : Int)))
theorem vals_each : ∀ {l : List Nat} {vs : List Value}, PySem.W.EachIs (fun (v : Value) (j : Nat) => ∃ t, v = .int (j : Int) t) vs l → Vals (l.map fun (j : Nat) => V.int (j : Int)) vs
  | [], _, h => by cases h; exact .nil
  | j :: l, _, h => by
    cases h with
    | cons r t => exact .cons r (vals_each t)
def begins (bk : List Stretch) (l : List Nat) : List Nat := l.mergeSort (lePB fun j => (st bk j).b)
@[simp] def eBeg (i : Nat) (f q : Str) (ea : EE) : EE := fun s G Q => ea s G fun x G1 => ∃ (bk : List Stretch) (l : List Nat) (tab : Addr), s[i]? = some (some (.lst (bk.map Stretch.d))) ∧ lkL G1 x = some (nD l) ∧ l.length ≤ 1000000 ∧ bk.length ≤ 1000000 ∧ (∀ j ∈ l, j < bk.length) ∧ G1 tab = some (.tbl f q tab) ∧ Q (.lst (nD (begins bk l))) G1
end DL
set_option Elab.async false
set_option linter.all false
set_option maxRecDepth 100000
set_option maxHeartbeats 4000000
namespace DL
open PySem PySem.Spec PyProof.Rows L2 LN
/-- a promise whose exceptions are never met -/
def nev (F : Sx) : Sf := fun ds G Q => F ds G Q fun _ _ => False
theorem calX_never {P : Program} {w : World} {K : PySem.W.Frag} {mg : Str → Option Value} {base : Heap} {k : Nat} {x : Str} {ps : List Str} {F : Sx} (c : CalX P w K mg base k x ps F) : Cal P w K mg base k x ps (nev F) := by
  obtain ⟨f, fd, h1, h2, h3, h4⟩ := c.ex
  refine ⟨f, fd, ⟨fun vs H Q E h => h.1, fun A outer s H args us vs Q E hr e0 hb r hsp => ?_⟩, h2, h3, h4⟩
  obtain ⟨hl, P', ds, G, Q', wo, rp, hf, kk⟩ := hsp
  have h := h1.run A outer s H args us vs Q (fun _ _ _ => False) hr e0 hb r ⟨hl, P', ds, G, Q', fun _ _ => False, wo, rp, hf, kk, fun _ _ _ _ _ _ _ _ z => z⟩
  refine codeAny_mono h fun r s' hq => ?_
  cases r with
  | error e =>
    obtain ⟨a, B, H', cls, d, _, _, _, _, _, _, _, z⟩ := hq
    exact z.elim
  | ok fl => cases fl <;> exact hq
end DL
set_option Elab.async false
set_option linter.all false
set_option maxRecDepth 100000
set_option maxHeartbeats 4000000
namespace DL
open PySem PySem.Spec PyProof.Rows L2 LN
end DL
set_option Elab.async false
set_option linter.all false
set_option maxRecDepth 100000
set_option maxHeartbeats 4000000
namespace DL
open PySem PySem.Spec PyProof.Rows L2 LN
theorem app_ref {q : Addr} {ds : List D} {y : D} {G : Gp} {Q : DK} (h : G q = some (.lst ds)) (hl : ds.length ≤ 1000000) (k : Q .non (gput G q (.lst (ds ++ [y])))) : mApp (.ref q) [y] G Q := by
  simp only [mApp, h]
  exact ⟨by rw [sizeLine_eq]; omega, k⟩
end DL
set_option Elab.async false
set_option linter.all false
set_option maxRecDepth 100000
set_option maxHeartbeats 4000000
namespace DL
open PySem PySem.Spec PyProof.Rows L2 LN
theorem getD_mem {l : List Nat} {k : Nat} (h : k < l.length) : l.getD k 0 ∈ l := by
  rw [List.getD_eq_getElem?_getD, List.getElem?_eq_getElem h]
  exact List.getElem_mem h
end DL
set_option Elab.async false
set_option linter.all false
set_option maxRecDepth 100000
set_option maxHeartbeats 4000000
namespace DL
open PySem PySem.Spec PyProof.Rows L2 LN
end DL
set_option Elab.async false
set_option linter.all false
set_option maxRecDepth 100000
set_option maxHeartbeats 4000000
namespace DL
open PySem PySem.Spec PyProof.Rows L2 LN
end DL
set_option Elab.async false
set_option linter.all false
set_option maxRecDepth 100000
set_option maxHeartbeats 4000000
namespace DL
open PySem PySem.Spec PyProof.Rows L2 LN
theorem eq_lists {a b : List Nat} {G : Gp} {Q : DK} (q : Q (.bl (decide (a = b))) G) : oEq (.lst (nD a)) (.lst (nD b)) G Q := by
  have e : ∀ l : List Nat, toPy G (.lst (nD l)) = some (.list (l.map fun (i : Nat) => PyData.int (i : Int))) := fun l => by simp [toPys_nD]
  simp only [oEq, e, (shp_nats (l := a) (n := 0)).shaped (by decide), (shp_nats (l := b) (n := 0)).shaped (by decide), eqv_nats, true_and]
  exact q
theorem ne_lists {a b : List Nat} {G : Gp} {Q : DK} (q : Q (.bl (!decide (a = b))) G) : oNe (.lst (nD a)) (.lst (nD b)) G Q := by
  have e : ∀ l : List Nat, toPy G (.lst (nD l)) = some (.list (l.map fun (i : Nat) => PyData.int (i : Int))) := fun l => by simp [toPys_nD]
  simp only [oNe, e, (shp_nats (l := a) (n := 0)).shaped (by decide), (shp_nats (l := b) (n := 0)).shaped (by decide), eqv_nats, true_and]
  exact q
end DL
set_option Elab.async false
set_option linter.all false
set_option maxRecDepth 100000
set_option maxHeartbeats 4000000
namespace DL
open PySem PySem.Spec PyProof.Rows L2 LN
end DL
set_option Elab.async false
set_option linter.all false
set_option maxRecDepth 100000
set_option maxHeartbeats 4000000
namespace DL
open PySem PySem.Spec PyProof.Rows L2 LN
end DL
set_option Elab.async false
set_option linter.all false
set_option maxRecDepth 100000
set_option maxHeartbeats 4000000
namespace DL
open PySem PySem.Spec PyProof.Rows L2 LN
end DL
set_option Elab.async false
set_option linter.all false
set_option maxRecDepth 100000
set_option maxHeartbeats 4000000
namespace DL
open PySem PySem.Spec PyProof.Rows L2 LamX
abbrev RowI := Int × Int × Int
def rowI (r : RowI) : D := .tup [.int r.1, .int r.2.1, .int r.2.2]
def leRI : RowI → RowI → Bool := fun p q => decide (p.1 < q.1 ∨ (p.1 = q.1 ∧ p.2.1 ≤ q.2.1))
@[simp] def eRows (f q : Str) (ea : EE) : EE := fun s G Q => ea s G fun x G1 => ∃ (l : List RowI) (tab : Addr), x = .lst (l.map rowI) ∧ l.length ≤ 1000000 ∧ G1 tab = some (.tbl f q tab) ∧ Q (.lst ((l.mergeSort leRI).map rowI)) G1
end DL
set_option Elab.async false
set_option linter.all false
set_option maxRecDepth 100000
set_option maxHeartbeats 4000000
namespace DL
open PySem PySem.Spec PyProof.Rows L2 LN
end DL
set_option Elab.async false
set_option linter.all false
set_option maxRecDepth 100000
set_option maxHeartbeats 4000000
namespace DL
open PySem PySem.Spec PyProof.Rows L2
end DL
set_option Elab.async false
set_option linter.all false
set_option maxRecDepth 100000
set_option maxHeartbeats 4000000
namespace DL
open PySem PySem.Spec PyProof.Rows L2 LN
instance : DecidableEq Stretch := fun s t => decidable_of_iff (s.name = t.name ∧ s.b = t.b ∧ s.e = t.e ∧ s.w = t.w) (by cases s; cases t; simp)
end DL
set_option Elab.async false
set_option linter.all false
set_option maxRecDepth 100000
set_option maxHeartbeats 4000000
namespace DL
open PySem PySem.Spec PyProof.Rows L2 LN
section
variable {G : Gp} {a p1 p2 p3 : Addr}
/-- the lists at hand, the state -/
def g4 (G : Gp) (a p1 p2 p3 : Addr) (r1 r2 acc : List Stretch) (o : GO) : Gp := gput (gput (gput (gput G p1 (.lst (r1.map Stretch.d))) p2 (.lst (r2.map Stretch.d))) p3 (.lst (acc.map Stretch.d))) a o
variable {r1 r2 acc : List Stretch} {o : GO}
end
end DL
set_option Elab.async false
set_option linter.all false
set_option maxRecDepth 100000
set_option maxHeartbeats 4000000
namespace DL
open PySem PySem.Spec PyProof.Rows L2 LN
end DL
set_option Elab.async false
set_option linter.all false
set_option maxRecDepth 100000
set_option maxHeartbeats 4000000
namespace DL
open PySem PySem.Spec PyProof.Rows L2
@[simp] def sPar (i j : Nat) (ea : EA) : ES := fun N s G => ea s G fun ds G1 => match ds with
  | [v, w] => N.nx ((s.set i (some v)).set j (some w)) G1
  | _ => False
end DL
set_option Elab.async false
set_option linter.all false
set_option maxRecDepth 100000
set_option maxHeartbeats 4000000
namespace DL
open PySem PySem.Spec PyProof.Rows L2 LN
end DL
set_option Elab.async false
set_option linter.all false
set_option maxRecDepth 100000
set_option maxHeartbeats 4000000
namespace L2
open PySem PySem.Spec PyProof.Rows
end L2
namespace DL
open PySem PySem.Spec PyProof.Rows L2
@[simp] def oRepT : OD := fun x y G Q => match x, y with
  | .str z, .int k => 1 ≤ k ∧ k ≤ 1000 ∧ 0 < z.length ∧ z.length ≤ 1000 ∧ Q (.str (repS z k.toNat)) G
  | _, _ => False
end DL
set_option Elab.async false
set_option linter.all false
set_option maxRecDepth 100000
set_option maxHeartbeats 4000000
namespace DL
open PySem L2
end DL
set_option Elab.async false
set_option linter.all false
set_option maxRecDepth 100000
set_option maxHeartbeats 4000000
namespace DL
open PySem PySem.Spec PyProof.Rows L2 LN
def All (P : D → Prop) (L : List D) : Prop := ∀ d ∈ L, P d
theorem all_cons {P : D → Prop} {d : D} {L : List D} (h : P d) (hl : All P L) : All P (d :: L) := fun e he => by
  rcases List.mem_cons.mp he with rfl | q
  · exact h
  · exact hl e q
/-- sorted(list of pairs of numbers) -/
def q2 (x : Int × Int) : PyData := .tuple [.int x.1, .int x.2]
end DL
set_option Elab.async false
set_option linter.all false
set_option maxRecDepth 100000
set_option maxHeartbeats 4000000
namespace DL
open PySem PySem.Spec PyProof.Rows L2
@[simp] def isStr : D → Prop
  | .str _ => True
  | _ => False
/-- o.m(), o.m(y) of a text -/
@[simp] def eM0 (r : UD) (to : EE) : EE := fun s G Q => to s G fun x G1 => isStr x ∧ r x G1 Q
@[simp] def eM1 (r : OD) (to te : EE) : EE := fun s G Q => to s G fun x G1 => isStr x ∧ te s G1 fun y G2 => r x y G2 Q
@[simp] def eFmt (te : EE) : EE := fun s G Q => te s G fun x G1 => match x with
  | .str y => y.length ≤ 16777216 ∧ Q (.str y) G1
  | .int i => i.natAbs.log2 < 1920 ∧ Q (.str (toString i)) G1
  | _ => False
@[simp] def eJs : List EE → Str → EE
  | [], acc => fun _ G Q => Q (.str acc) G
  | t :: ts, acc => fun s G Q => t s G fun x G1 => match x with
    | .str y => (acc ++ y).length ≤ 16777216 ∧ eJs ts (acc ++ y) s G1 Q
    | _ => False
@[simp] def cMax3 : CD := fun xs G Q => match xs with
  | [.int i, .int j, .int k] => Q (.int (max i (max j k))) G
  | _ => False
end DL
set_option Elab.async false
set_option linter.all false
set_option maxRecDepth 100000
set_option maxHeartbeats 4000000
namespace DL
open PySem PySem.Spec PyProof.Rows L2
end DL
set_option Elab.async false
set_option linter.all false
set_option maxRecDepth 100000
set_option maxHeartbeats 4000000
namespace DL
open PySem PySem.Spec PyProof.Rows L2 LN
end DL
set_option Elab.async false
set_option linter.all false
set_option maxRecDepth 100000
set_option maxHeartbeats 4000000
namespace DL
open PySem PySem.Spec PyProof.Rows L2 LN
end DL
set_option Elab.async false
set_option linter.all false
set_option maxRecDepth 100000
set_option maxHeartbeats 4000000
namespace DL
open PySem PySem.Spec PyProof.Rows L2 LN
end DL
set_option Elab.async false
set_option linter.all false
set_option maxRecDepth 100000
set_option maxHeartbeats 4000000
namespace DL
open PySem PySem.Spec PyProof.Rows L2 LN
abbrev bl : Str := Str.ofString " "
end DL
set_option Elab.async false
set_option linter.all false
set_option maxRecDepth 100000
set_option maxHeartbeats 4000000
namespace DL
open PySem PySem.Spec PyProof.Rows L2
abbrev EIX := Sd → Gp → (List D → (Gp → Prop) → Gp → Prop) → Ux → Prop
@[simp] def iLX (te : EX) : EIX := fun s G Q U => te s G (fun x G1 => match lkL G1 x with
  | some ds => Q ds (stays x ds) G1
  | none => False) U
@[simp] def iEX (ta : EAX) : EIX := fun s G Q U => ta s G (fun xs G1 => match xs with
  | [x] => (match lkL G1 x with
    | some ds => Q (enumD ds) (stays x ds) G1
    | none => False)
  | _ => False) U
@[simp] def sForX (ti : EIX) (t : Tg) (tb : ES) : ES := fun N s G => ti s G (fun ds Kp G1 => forW t tb Kp N ds s G1) fun x G1 => N.xr x s G1
end DL
set_option Elab.async false
set_option linter.all false
set_option maxRecDepth 100000
set_option maxHeartbeats 4000000
namespace DL
open PySem PySem.Spec PyProof.Rows L2 LN
open NumText (AllDigits digitsVal)
end DL
set_option Elab.async false
set_option linter.all false
set_option maxRecDepth 100000
set_option maxHeartbeats 4000000
namespace DL
open PySem PySem.Spec PyProof.Rows L2 LN
end DL
set_option Elab.async false
set_option linter.all false
set_option maxRecDepth 100000
set_option maxHeartbeats 4000000
namespace DL
open PySem PySem.Spec PyProof.Rows L2 LN
end DL
set_option Elab.async false
set_option linter.all false
set_option maxRecDepth 100000
set_option maxHeartbeats 4000000
namespace DL
open PySem PySem.Spec PyProof.Rows L2 LN
/-- no run without a line feed is longer -/
def RwL (R : Nat) (l : List Nat) : Prop := ∀ a m b, l = a ++ m ++ b → 10 ∉ m → m.length ≤ R
theorem RwL.mono {R R' : Nat} {l : List Nat} (h : RwL R l) (hr : R ≤ R') : RwL R' l := fun a m b e n => Nat.le_trans (h a m b e n) hr
theorem RwL.len (l : List Nat) : RwL l.length l := fun a m b e _ => by
  have := congrArg List.length e
  simp at this
  omega
theorem RwL.sub {R : Nat} {l a m b : List Nat} (h : RwL R l) (e : l = a ++ m ++ b) : RwL R m := fun a2 m2 b2 e2 n => h (a ++ a2) m2 (b2 ++ b) (by rw [e, e2]; simp) n
theorem RwL.take {R k : Nat} {l : List Nat} (h : RwL R l) : RwL R (l.take k) := h.sub (a := []) (b := l.drop k) (by simp)
theorem RwL.drop {R k : Nat} {l : List Nat} (h : RwL R l) : RwL R (l.drop k) := h.sub (a := l.take k) (b := []) (by simp)
structure TR (L R : Nat) (t : Str) : Prop where
  len : t.length ≤ L
  asc : Asc t
  rw' : RwL R t.cps.toList
theorem TR.mono {L R L' R' : Nat} {t : Str} (h : TR L R t) (h1 : L ≤ L') (h2 : R ≤ R') : TR L' R' t := ⟨by have := h.len; omega, h.asc, h.rw'.mono h2⟩
end DL
set_option Elab.async false
set_option linter.all false
set_option maxRecDepth 100000
set_option maxHeartbeats 4000000
namespace DL
open PySem PySem.Spec PyProof.Rows L2
end DL
set_option Elab.async false
set_option linter.all false
set_option maxRecDepth 100000
set_option maxHeartbeats 4000000
namespace DL
open PySem PySem.Spec PyProof.Rows L2 LN
def F__law_is_light : Sf := fun ds G Q => ∃ (n : Int) (rs : List Stretch) (l : List Nat) (b : Int), ds = [ringD n rs, .lst (nD l), .int b] ∧ RgOk n rs ∧ (∀ i ∈ l, i < rs.length) ∧ ∀ c : Bool, (c = true ↔ ∀ m : Int, 0 ≤ m → m < n → (loadOn n rs l m : Int) ≤ b) → Q (.bl c) G
def r__law_moments : ES :=
  (sSeq (sAsg (eOp oIx (eOp oIx (eVar 0) (eC (.int 1))) (eVar 1)) (.tp [2, 3, 4, 5]))
  (sRet (eLc (iR1 (eCons (eVar 4) eNil)) (.nm 6) eYes (eOp oMod (eOp oAdd (eVar 3) (eVar 6)) (eOp oIx (eVar 0) (eC (.int 0)))) [6])))
def r__law_is_light_L1 : ES :=
  (sSetIx (eOp oAdd (eOp oIx (eVar 3) (eVar 5)) (eC (.int 1))) (eVar 3) (eVar 5))
def r__law_is_light_L2 : ES :=
  (sFor (iL (eCall F__law_moments (eCons (eVar 0) (eCons (eVar 4) eNil)))) (.nm 5) r__law_is_light_L1)
def r__law_is_light : ES :=
  (sSeq (sAsg (eOp oRepO (eLst (eCons (eC (.int 0)) eNil)) (eOp oIx (eVar 0) (eC (.int 0)))) (.nm 3))
  (sSeq (sFor (iL (eVar 1)) (.nm 4) r__law_is_light_L2)
  (sRet (eOp oLe (eCB cMax (eCons (eVar 3) eNil)) (eVar 2)))))
theorem d__law_moments (ds : List D) (G : Gp) (Q : DK) (h : F__law_moments ds G Q) : r__law_moments (fin G Q) (startD 7 ds) G := by
  obtain ⟨n, rs, i, rfl, hr, hi, k⟩ := h
  have hs := hr.all _ (st_mem hi)
  have h1 := hs.e1
  have h2 := hs.e2
  have h3 := hr.n2
  have h4 := hr.n1
  refine seq_gen fun W hW => ?_
  simp [startD, bk_at hi]
  simp [Stretch.d]
  refine hW _ _ ?_
  simp
  refine ⟨by omega, by omega, ?_⟩
  unfold rngD
  refine compW_all (f := fun k : Nat => D.int (((st rs i).b + (k : Int)) % n)) True.intro (List.range (st rs i).e.toNat) [] (fun j hj => ⟨_, rfl, fun R r => ?_⟩) ?_
  · simp
    exact ⟨by omega, r⟩
  · refine fin_id ?_
    simpa [iD, momR, Function.comp_def] using k
theorem momR_ok {n : Int} {rs : List Stretch} {i : Nat} {G : Gp} {Q : DK} (hr : RgOk n rs) (hi : i < rs.length) (h : Q (.lst (iD (momR n (st rs i)))) G) : F__law_moments [ringD n rs, .int (i : Nat)] G Q := ⟨n, rs, i, rfl, hr, hi, h⟩
theorem lightL_ok {n : Int} {rs : List Stretch} {l : List Nat} {b : Int} {G : Gp} {Q : DK} (hr : RgOk n rs) (hl : ∀ i ∈ l, i < rs.length) (k : ∀ c : Bool, (c = true ↔ ∀ m : Int, 0 ≤ m → m < n → (loadOn n rs l m : Int) ≤ b) → Q (.bl c) G) : F__law_is_light [ringD n rs, .lst (nD l), .int b] G Q := ⟨n, rs, l, b, rfl, hr, hl, k⟩
theorem set_map {N j : Nat} {f : Nat → Int} {v : Int} (hj : j < N) : ((List.range N).map fun i => D.int (f i)).set j (.int v) = (List.range N).map fun i => D.int (if i = j then v else f i) := by
  apply List.ext_getElem (by simp)
  intro i h1 h2
  simp at h1 h2
  rw [List.getElem_set]
  simp
  by_cases h : i = j
  · simp [h]
  · simp [h, Ne.symm h]
theorem at_map {N : Nat} {f : Nat → Int} {m : Int} (m0 : 0 ≤ m) (m1 : m < N) : atI ((List.range N).map fun i => D.int (f i)) m = some (.int (f m.toNat)) := by
  obtain ⟨j, rfl⟩ := Int.eq_ofNat_of_zero_le m0
  refine atI_nat ?_
  rw [List.getElem?_map, List.getElem?_range (by omega)]
  rfl
theorem d__law_is_light (ds : List D) (G : Gp) (Q : DK) (h : F__law_is_light ds G Q) : r__law_is_light (fin G Q) (startD 6 ds) G := by
  obtain ⟨n, rs, l, b, rfl, hr, hl, k⟩ := h
  have n1 := hr.n1
  have n2 := hr.n2
  refine seq_gen fun W hW => ?_
  simp [startD]
  refine ⟨by omega, by omega, by omega, fun q hq => hW _ _ (seq_gen fun W2 hW2 => ?_)⟩
  have e0 : (List.replicate n.toNat (D.int 0)) = (List.range n.toNat).map fun (i : Nat) => D.int ((loadOn n rs [] (i : Int) : Nat) : Int) := by
    apply List.ext_getElem (by simp)
    intro i h1 h2
    simp [loadOn]
  rw [e0]
  simp
  refine forW_ind (g := fun (i : Nat) => D.int (i : Int)) (fun r s G' => ∃ (a : List Nat) (o4 o5 : Option D), s = [some (ringD n rs), some (.lst (nD l)), some (.int b), some (.ref q), o4, o5] ∧ G' = gput G q (.lst ((List.range n.toNat).map fun (i : Nat) => D.int ((loadOn n rs a (i : Int) : Nat) : Int))) ∧ a ++ r = l) (fun _ _ _ _ => trivial) ?_ ?_ l _ _ ⟨[], none, none, rfl, rfl, rfl⟩
  · rintro i r s G' W ⟨a, o4, o5, rfl, rfl, e⟩ hW
    have hi : i < rs.length := hl i (by rw [← e]; simp)
    have hs := hr.all _ (st_mem hi)
    simp [r__law_is_light_L2]
    refine momR_ok hr hi ?_
    simp [iD]
    refine forW_ind (g := D.int) (fun r s G' => ∃ (c : List Int) (o5 : Option D), s = [some (ringD n rs), some (.lst (nD l)), some (.int b), some (.ref q), some (.int (i : Int)), o5] ∧ G' = gput G q (.lst ((List.range n.toNat).map fun (j : Nat) => D.int (((loadOn n rs a (j : Int) : Nat) : Int) + (c.count (j : Int) : Nat)))) ∧ c ++ r = momR n (st rs i)) (fun _ _ _ _ => trivial) ?_ ?_ _ _ _ ⟨[], _, rfl, by simp, rfl⟩
    · rintro m r2 s G' W ⟨c, o5, rfl, rfl, e2⟩ hW
      obtain ⟨m0, m1⟩ := momR_mem (by omega) (show m ∈ momR n (st rs i) by rw [← e2]; simp)
      have m2 : m < n.toNat := by omega
      have ix : ixN n.toNat m = some m.toNat := by
        unfold ixN
        rw [if_pos (by omega)]
        all_goals (try simp <;> omega)
      simp [r__law_is_light_L1, gput_same, gput_gput, at_map m0 m2, ix]
      refine hW _ _ ⟨c ++ [m], _, rfl, ?_, by simpa using e2⟩
      congr 2
      rw [set_map (f := fun (j : Nat) => ((loadOn n rs a (j : Int) : Nat) : Int) + (c.count (j : Int) : Nat)) (by omega)]
      refine List.map_congr_left fun j hj => ?_
      rw [List.count_append]
      by_cases h : j = m.toNat
      · subst h
        have e3 : ((m.toNat : Nat) : Int) = m := Int.toNat_of_nonneg m0
        have e4 : max m 0 = m := by omega
        simp only [e3, if_true]
        simp [e4]
        omega
      · have : (j : Int) ≠ m := by omega
        simp [h, List.count_singleton, Ne.symm this]
    · rintro s G' ⟨c, o5, rfl, rfl, e2⟩
      rw [List.append_nil] at e2
      refine hW _ _ ⟨a ++ [i], _, _, rfl, ?_, by simpa using e⟩
      congr 2
      refine List.map_congr_left fun j hj => ?_
      rw [List.mem_range] at hj
      rw [e2, loadR_snoc, (momR_nodup (by omega) hs.e2).count]
      have := momR_iff (n := n) (s := st rs i) (m := (j : Int)) (by omega) (by omega) (by omega)
      by_cases h : overR n (st rs i) j = true
      · rw [if_pos (this.mpr h), if_pos h]; simp
      · rw [if_neg (fun q => h (this.mp q)), if_neg h]; simp
  · rintro s G' ⟨a, o4, o5, rfl, rfl, e⟩
    rw [List.append_nil] at e
    subst e
    refine hW2 _ _ ?_
    simp [gput_same]
    rw [intsD_g (f := fun i : Nat => ((loadOn n rs a (i : Int) : Nat) : Int))]
    simp
    refine ⟨by omega, fun x hx hall => ?_⟩
    refine fin_back (gsub hq) (refIn_plain rfl) (k _ ?_)
    rw [decide_eq_true_iff]
    constructor
    · intro h m m0 m1
      have := hall m.toNat (by omega)
      rw [Int.toNat_of_nonneg m0] at this
      omega
    · intro h
      have := h (x : Int) (by omega) (by omega)
      omega
end DL
set_option Elab.async false
set_option linter.all false
set_option maxRecDepth 100000
set_option maxHeartbeats 4000000
namespace DL
open PySem PySem.Spec PyProof.Rows L2
/-- o.m(..), where m may raise -/
@[simp] def eMethX (C m : Str) (F : Sx) (to : EE) (t : EAX) : EX := fun s G Q U => to s G fun x G1 => isIns C m G1 x ∧ t s G1 (fun xs G2 => F (x :: xs) G2 Q U) U
/-- C(..), where __init__ may raise -/
@[simp] def eMakeX (C : Str) (F : Sx) (t : EAX) : EX := fun s G Q U => t s G (fun xs G1 => ∀ x dx, G1 x = none → F (.ref x :: xs) (gput G1 x (.ins C dx [] [])) (fun d G2 => d = .non ∧ Q (.ref x) G2) U) U
end DL
set_option Elab.async false
set_option linter.all false
set_option maxRecDepth 100000
set_option maxHeartbeats 4000000
namespace DL
open PySem PySem.Spec PyProof.Rows L2 LN
abbrev kKs : List Str := ["stretches", "many", "past", "known"]
def kpO (dx : Addr) (bk : List Stretch) (n : Int) (b : Addr) (kn : D) : GO := .ins "Keeper" dx kKs [.lst (bk.map Stretch.d), .int n, .ref b, kn]
def pkD (x : List Stretch × Int) : D := .tup [.lst (x.1.map Stretch.d), .int x.2]
structure KpAt (G : Gp) (a b dx : Addr) (bk : List Stretch) (n : Int) (kn : D) (ps : List (List Stretch × Int)) : Prop where
  ob : G a = some (kpO dx bk n b kn)
  pa : G b = some (.lst (ps.map pkD))
theorem KpAt.ne {G : Gp} {a b dx : Addr} {bk : List Stretch} {n : Int} {kn : D} {ps : List (List Stretch × Int)} (h : KpAt G a b dx bk n kn ps) : a ≠ b := fun e => by
  have h1 := h.ob
  rw [e, h.pa] at h1
  cases h1
theorem fin_nx {G0 G' : Gp} {Q : DK} {s : Sd} (q : Q .non G') : (fin G0 Q).nx s G' := ⟨.non, G', fz_id, q⟩
end DL
set_option Elab.async false
set_option linter.all false
set_option maxRecDepth 100000
set_option maxHeartbeats 4000000
namespace L2
open PySem PySem.Spec PyProof.Rows
end L2
namespace DL
open PySem PySem.Spec PyProof.Rows L2
@[simp] def oRep0 : OD := fun x y G Q => match x, y with
  | .str z, .int k => 0 ≤ k ∧ k ≤ 1000 ∧ 0 < z.length ∧ z.length ≤ 1000 ∧ Q (.str (repS z k.toNat)) G
  | _, _ => False
end DL
set_option Elab.async false
set_option linter.all false
set_option maxRecDepth 100000
set_option maxHeartbeats 4000000
namespace DL
open PySem PySem.Spec PyProof.Rows L2 LN
inductive Deed where
  | put (d : D)
  | gone (d : D)
  | worth (d w : D)
  | slide (d u v : D)
  | benches (d : D)
  | undo
def Deed.d : Deed → D
  | .put d => .tup [.str "put", d]
  | .gone d => .tup [.str "gone", d]
  | .worth d w => .tup [.str "worth", d, w]
  | .slide d u v => .tup [.str "slide", d, u, v]
  | .benches d => .tup [.str "benches", d]
  | .undo => .tup [.str "undo"]
def Deed.ok : Deed → Prop
  | .put d => okT d = true
  | .gone d => okT d = true
  | .worth d w => okT d = true ∧ okT w = true
  | .slide d u v => okT d = true ∧ okT u = true ∧ okT v = true
  | .benches d => okT d = true
  | .undo => True
abbrev Past := List (List Stretch × Int)
end DL
set_option Elab.async false
set_option linter.all false
set_option maxRecDepth 100000
set_option maxHeartbeats 4000000
namespace DL
open PySem PySem.Spec PyProof.Rows L2 LN
end DL
set_option Elab.async false
set_option linter.all false
set_option maxRecDepth 100000
set_option maxHeartbeats 4000000
namespace DL
open PySem PySem.Spec PyProof.Rows L2 LN
theorem KpAt.put {G : Gp} {a b dx p : Addr} {bk : List Stretch} {n : Int} {kn : D} {ps : Past} {o : GO} (h : KpAt G a b dx bk n kn ps) (hp : G p = none) : KpAt (gput G p o) a b dx bk n kn ps := by
  refine ⟨?_, ?_⟩
  · rw [gput_ne (fun e => by rw [← e, h.ob] at hp; cases hp)]; exact h.ob
  · rw [gput_ne (fun e => by rw [← e, h.pa] at hp; cases hp)]; exact h.pa
end DL
set_option Elab.async false
set_option linter.all false
set_option maxRecDepth 100000
set_option maxHeartbeats 400000
namespace HotY
open PySem PySem.Spec PyProof.Rows HotX
def Raisy (prog : Program) (w : World) (hd : Option Value) (C : List Addr) (h : Heap) : Prop :=
  (∀ b ∈ C, ∃ o, h.get? b = some o) ∧ ∀ (A : Around) (α : Type) (s : Shared) (a : Addr) (oe : Obj) (vs : Array Value) (Q : α → Shared → Prop) (E : Value → Shared → Prop), A.handled = hd → (∀ b ∈ C, ∀ o, h.get? b = some o → s.heap.get? b = some o) → a ∉ C →
    s.heap.get? a = some oe → oe.data = .fields vs → 2 < vs.size → (∀ h2, (∀ b, b ≠ a → h2.get? b = s.heap.get? b) → (∃ o2, h2.get? a = some o2 ∧ o2.cls = oe.cls) → E (.ref a) { s with heap := h2 }) → wpAny (model prog w) A (raiseNew (.ref a) : Sem α) Q E s
section
variable {prog : Program} {w : World} {A : Around} {E : Value → Shared → Prop} {s : Shared}
theorem Raisy.keeps {hd : Option Value} {C : List Addr} {h h' : Heap} (r : Raisy prog w hd C h) (k : ∀ b ∈ C, ∀ o, h.get? b = some o → h'.get? b = some o) : Raisy prog w hd C h' :=
  ⟨fun b hb => let ⟨o, e⟩ := r.1 b hb; ⟨o, k b hb o e⟩, fun A α s a oe vs Q E hh hk => r.2 A α s a oe vs Q E hh fun b hb o e => hk b hb o (k b hb o e)⟩
end
end HotY
set_option Elab.async false
set_option linter.all false
set_option maxRecDepth 100000
set_option maxHeartbeats 4000000
namespace L2
open PySem PySem.Spec PyProof.Rows
/-- an exception is handled, and its contexts C are known -/
def HotQ (X : Cx) : Prop := ∃ C : List Addr, ∀ (pins : List (Addr × Obj)) (σ : St) (H : Hp) (s : Shared), Inv X pins σ H s → HotY.Raisy X.prog X.w X.A.handled C s.heap ∧ ∀ c ∈ C, H c = none ∧ c ∉ frs X.stack ∧ ∀ b, FpOk X pins H b → c ≠ b
structure TurnQ (P : Program) (w : World) (K : PySem.W.Frag) (tg : Expr) (J : It) (fp : List Addr) (it : Addr) (tn : Nat → Heap → Prop) : Prop where
  mem : it ∈ fp
  obj : ∀ i h, tn i h → ∀ b ∈ fp, ∃ o, h.get? b = some o ∧ ∀ v, o.data ≠ .cell v
  keep : ∀ i h h', tn i h → (∀ b ∈ fp, ∀ o, h.get? b = some o → h'.get? b = some o) → tn i h'
  item : ∀ (X : Cx), X.prog = P → X.w = w → X.K = K → HotQ X → ∀ (i : Nat) (pins : List (Addr × Obj)) (s : Shared) (σ : St) (H : Hp) (E : Value → Shared → Prop), Inv X pins σ H s → (∀ b ∈ fp, FpOk X pins H b) → tn i s.heap → J.go i H →
    wpAny (model P w) X.A (pyNext (.ref it)) (fun r s1 => ∃ u, r = some u ∧
      wpAny (model P w) X.A (letOwnedTupleGo tg (.ref it) u) (fun _ s2 => ∃ x H', Inv X pins σ H' s2 ∧ RelV x u ∧ J.yld i H x H' ∧ tn (i + 1) s2.heap ∧ ∀ b ∈ fp, H' b = none) E s1) E s
  done : ∀ (X : Cx), X.prog = P → X.w = w → X.K = K → HotQ X → ∀ (i : Nat) (pins : List (Addr × Obj)) (s : Shared) (σ : St) (H : Hp) (E : Value → Shared → Prop), Inv X pins σ H s → (∀ b ∈ fp, FpOk X pins H b) → tn i s.heap → J.stop i H →
    wpAny (model P w) X.A (pyNext (.ref it)) (fun r s1 => r = none ∧ Inv X pins σ H s1) E s
  self : ∀ (A : Around) (i : Nat) (s : Shared) (Q : Value → Shared → Prop) (E : Value → Shared → Prop), tn i s.heap → Q (.ref it) s → wpAny (model P w) A (pyIter (.ref it)) Q E s
def PIEQ (X : Cx) (pins : List (Addr × Obj)) (σ : St) (tg : Expr) (R : It → Hp → Prop) (itv : Value) (s2 : Shared) : Prop :=
  ∃ (it : Addr) (fp : List Addr) (tn : Nat → Heap → Prop) (J : It) (H' : Hp), itv = .ref it ∧ Inv X pins σ H' s2 ∧ TurnQ X.prog X.w X.K tg J fp it tn ∧ tn 0 s2.heap ∧ (∀ b ∈ fp, FpOk X pins H' b) ∧ R J H'
structure PIQ (X : Cx) (tg iter : Expr) (wi : TI) : Prop where
  run : ∀ (pins : List (Addr × Obj)) (s : Shared) (σ : St) (H : Hp) (R : It → Hp → Prop), Inv X pins σ H s → wi σ H R →
    wpAny (model X.prog X.w) X.A (eval iter X.env) (fun v s1 => wpAny (model X.prog X.w) X.A (pyIter v) (PIEQ X pins σ tg R) X.xe s1) X.xe s
end L2
namespace DL
open PySem L2
inductive JIQ (X : Cx) (tg iter : Expr) (t : EI) : Prop where
  | mk {wi : TI} (a : PIQ X tg iter wi) (b : LI X.K wi t) : JIQ X tg iter t
section
variable {X : Cx}
variable {elt tg iter e : Expr} {es ifs : List Expr} {scope : Scope} {own : List (Str × Nat)} {pos : Pos} {wi : TI} {ei : EI} {g : TG} {t : Tg} {tt : TT} {et : ET} {te : TE} {ee : EE}
theorem JIQ.pi (h : JIQ X tg iter ei) : PIQ X tg iter (upI X.K ei) := by
  obtain ⟨a, b⟩ := h
  exact ⟨fun pins s σ H R I ⟨P, s', G, Q', h1, h2, h3⟩ => a.run pins s σ H R I (b P s' G Q' σ H R h1 h2 h3)⟩
end
end DL
set_option Elab.async false
set_option linter.all false
set_option maxRecDepth 100000
set_option maxHeartbeats 4000000
namespace L2Q
open PySem PySem.Spec PyProof.Rows L2 HotX
abbrev St := L2.St
/-- what is kept of the exception's object -/
def Zq (B : Heap) (H : Hp) (cls : Value) (d : Option Addr) : Obj → Prop := fun o => o.cls = cls ∧ o.dict = d ∧ ∀ vs : Array Value, o.data = .fields vs → vs[2]? = some .none ∨
  ∃ (x1 : Addr) (o1 : Obj) (v1 : Array Value), vs[2]? = some (.ref x1) ∧ B.get? x1 = some o1 ∧ o1.data = .fields v1 ∧ v1[2]? = some .none ∧ H x1 = none
theorem Zq.steady {B : Heap} {H : Hp} {cls : Value} {d : Option Addr} : PXN.Steady1 (Zq B H cls d) := fun o v h => by
  refine ⟨PXN.steady_cls o v h.1, PXN.steady_dict o v h.2.1, ?_⟩
  have h3 := h.2.2
  obtain ⟨c, dd, dt, sl⟩ := o
  cases dt with
  | fields vs0 =>
    intro vs e
    have e2 : vs0.setIfInBounds 1 v = vs := Data.fields.inj e
    have e3 : (vs0.setIfInBounds 1 v)[2]? = vs0[2]? := by
      first
      | exact Array.getElem?_setIfInBounds_ne (by decide)
      | simp [Array.getElem?_setIfInBounds]
    rw [← e2, e3]
    exact h3 vs0 rfl
  | _ =>
    intro vs e
    first
    | exact Data.noConfusion e
    | cases e
theorem Zq.of_n {B : Heap} {H : Hp} {cls : Value} {d : Option Addr} {o : Obj} (h : L2N.Zn cls d o) : Zq B H cls d o := ⟨h.1, h.2.1, fun vs e => .inl (h.2.2 vs e)⟩
/-- an exception in the air of X -/
def XE (X : Cx) (W : WX) (u : Value) (s' : Shared) : Prop :=
  ∃ (a : Addr) (B : Heap) (sI : Shared) (pins : List (Addr × Obj)) (σ : St) (H : Hp) (cls : Value) (d : Option Addr),
    u = .ref a ∧ Inv X pins σ H sI ∧ (∀ b o, sI.heap.get? b = some o → b ∉ frs X.stack → B.get? b = some o) ∧ sI.heap.UpToSlots s'.heap ∧
      Sky B X.stack a (Zq B H cls d) X.env.locals s'.heap ∧ H a = none ∧ s'.os = sI.os ∧ AllBare s'.gens ∧ W cls d σ H
def Takes (X : Cx) (W : WX) : Prop := ∀ u s', XE X W u s' → X.xe u s'
def CX (P : Program) (w : World) (outer : List Env) (H : Hp) (s : Shared) (E : XK) (u : Value) (s' : Shared) : Prop :=
  ∃ (a : Addr) (B : Heap) (H' : Hp) (cls : Value) (d : Option Addr), u = .ref a ∧ HandSPX.FlyingZ B outer a (Zq B H' cls d) s'.heap ∧ HOk P w H' B ∧ UB (frs outer) H H' s.heap B s'.heap ∧ H' a = none ∧ s'.os = s.os ∧ AllBare s'.gens ∧ E cls d H'
theorem sky_imp {B : Heap} {l : List Env} {a : Addr} {Z Z' : Obj → Prop} {L : Addr} {h : Heap} (z : ∀ o, Z o → Z' o) (x : Sky B l a Z L h) : Sky B l a Z' L h := by
  rcases x with ⟨h1, h2, h3, oe, vs, h4, h5, h6⟩ | x | x
  · exact .inl ⟨h1, h2, h3, oe, vs, h4, z _ h5, h6⟩
  · exact .inr (.inl (L2H.flyingZ_imp z x))
  · exact .inr (.inr ⟨x.1, x.2.1, x.2.2.1, L2H.tracedZ_imp z x.2.2.2⟩)
theorem XE.of_n {X : Cx} {W : WX} {u : Value} {s' : Shared} (x : L2N.XE X W u s') : XE X W u s' := by
  obtain ⟨a, B, sI, pins, σ, H, cls, d, e, I, nb, up, sky, r⟩ := x
  exact ⟨a, B, sI, pins, σ, H, cls, d, e, I, nb, up, sky_imp (fun o z => Zq.of_n z) sky, r⟩
theorem Takes.n {X : Cx} {W : WX} (t : Takes X W) : L2N.Takes X W := fun u s' x => t u s' (XE.of_n x)
section
variable {X : Cx} {pins : List (Addr × Obj)} {σ : St} {H : Hp} {sI s s' : Shared} {B : Heap} {W : WX} {E : XK}
theorem XE.new {a : Addr} {oe : Obj} {vs : Array Value} {cls : Value} {d : Option Addr} (I : Inv X pins σ H sI) (k : ∀ b o, sI.heap.get? b = some o → s'.heap.get? b = some o) (hne : sI.heap.get? a = none) (he : s'.heap.get? a = some oe)
    (hz : Zq (PySem.W.hideAll sI.heap (frs X.stack)) H cls d oe) (hd : oe.data = .fields vs) (h1 : vs[1]? = some .none) (na : H a = none) (os : s'.os = sI.os) (ag : AllBare s'.gens) (w : W cls d σ H) : XE X W (.ref a) s' := by
  refine ⟨a, PySem.W.hideAll sI.heap (frs X.stack), sI, pins, σ, H, cls, d, rfl, I, fun b o e hb => PySem.W.hideAll_get _ e hb, Heap.UpToSlots.of_keeps k,
    .inl ⟨fun b o e => k b o (PySem.W.of_hideAll _ e), ?_, ?_, oe, vs, he, hz, hd, h1⟩, na, os, ag, w⟩
  · cases q : (PySem.W.hideAll sI.heap (frs X.stack)).get? a with
    | none => rfl
    | some o =>
      have z := PySem.W.of_hideAll _ q
      rw [hne] at z; cases z
  · exact Heap.FunFrames.of_keeps (fun b o e _ => ⟨o, k b o e, rfl⟩) (funFrames_none I.stack fun b hb => PySem.W.hideAll_none _ hb)
theorem XE.leave (hs : X.stack = X.env :: X.outer) (hf : X.env.frame = some X.env.locals) (hex : X.ex = []) {E₁ : Value → Shared → Prop} (hW : ∀ cls d σ H, W cls d σ H → E cls d H) {u : Value} (x : XE X W u s') :
    wpAny (model X.prog X.w) X.A (leaving X.env u) (fun _ s'' => CX X.prog X.w X.outer X.H_0 X.s_0 E u s'') E₁ s' := by
  obtain ⟨a, B, sI, pins, σ, H, cls, d, rfl, I, nb, up, sky, na, os, ag, w⟩ := x
  have hfr : X.A.frames = some (X.env :: X.outer) := by rw [I.ok.frames, hs]
  have nst : ∀ b o, X.s_0.heap.get? b = some o → b ∉ X.fs → b ∉ frs X.stack := fun b o e hb hm => by
    rcases List.mem_cons.mp (I.stkSub b hm) with z | z
    · have h1 := Heap.lt_size e
      have h2 := I.ok.above
      rw [z] at h1
      exact absurd (Nat.lt_of_lt_of_le h1 h2) (Nat.lt_irrefl _)
    · exact hb z
  have hex' : ∀ b, b ∉ X.ex := fun b hb => by rw [hex] at hb; cases hb
  have hokB := I.inGround nb
  have fin : ∀ h', HandSPX.FlyingZ B X.outer a (Zq B H cls d) h' → s'.heap.UpToSlots h' → CX X.prog X.w X.outer X.H_0 X.s_0 E (.ref a) { s' with heap := h' } := fun h' fl up' => by
    refine ⟨a, B, H, cls, d, rfl, fl, hokB, ⟨fun b o e n hb => nb b o (I.base.keep b o e n hb (hex' b)) (nst b o e hb), fun b o e hb => ?_, fun b o e n => I.base.free b o e n (hex' b), fun b o e hb => ?_, I.base.tups, I.base.frzs, I.base.tbls⟩,
      na, os.trans I.os, ag, hW _ _ _ _ w⟩
    · obtain ⟨_, o₀, e₀, hnf⟩ := I.ok.funs.mem hb
      rw [e] at e₀; cases e₀
      obtain ⟨sl, e1⟩ := I.base.slot b o e (I.ok.frf b hb) hb (hex' b)
      obtain ⟨sl2, e2⟩ := up b _ e1 hnf
      obtain ⟨sl3, e3⟩ := up' b _ e2 hnf
      exact ⟨sl3, e3⟩
    · obtain ⟨o', e1⟩ := I.base.there b o e (hex' b)
      exact ⟨o', nb b o' e1 (nst b o e hb)⟩
  rw [hs] at sky
  rcases sky with ⟨hB, hn, hl, oe, vs, he, hz, hd, h1⟩ | fl | hd
  · exact PXN.leaving_firstZ Zq.steady hfr hl hf he hB hn hd h1 hz fin
  · exact PXN.leaves_onZ Zq.steady hfr hf fl fin
  · exact HandSPX.leaves_heldZ hf hd fin
end
end L2Q
set_option Elab.async false
set_option linter.all false
set_option maxRecDepth 100000
set_option maxHeartbeats 4000000
namespace DL
open PySem PySem.Spec PyProof.Rows L2
end DL
set_option Elab.async false
set_option linter.all false
set_option maxRecDepth 100000
set_option maxHeartbeats 4000000
namespace DL
open PySem PySem.Spec PyProof.Rows L2 LN
/-- a slice of a list as a new owned list -/
@[simp] def eSlLO (te : EE) (tl th : EO) : EE := fun s G Q => te s G fun x G1 => tl s G1 fun l G2 => th s G2 fun u G3 => match lkL G3 x with
  | some ds => ∀ p, G3 p = none → Q (.ref p) (gput G3 p (.lst (cutD ds l u)))
  | none => False
end DL
set_option Elab.async false
set_option linter.all false
set_option maxRecDepth 100000
set_option maxHeartbeats 4000000
namespace DL
open PySem PySem.Spec PyProof.Rows L2
def resO : GO → Bool
  | .lst ds => resTs ds
  | _ => false
mutual
inductive FrD (G : Gp) : D → D → Prop
  | pl {d : D} : plainD d = true → FrD G d d
  | ref {a : Addr} {es es' : List D} : G a = some (.lst es) → FrDs G es es' → FrD G (.ref a) (.lst es')
  | lst {es es' : List D} : FrDs G es es' → FrD G (.lst es) (.lst es')
  | tup {es es' : List D} : FrDs G es es' → FrD G (.tup es) (.tup es')
inductive FrDs (G : Gp) : List D → List D → Prop
  | nil : FrDs G [] []
  | cons {d d' : D} {ds ds' : List D} : FrD G d d' → FrDs G ds ds' → FrDs G (d :: ds) (d' :: ds')
end
section
variable {K : PySem.W.Frag} {P : Addr → Prop} {G : Gp} {H : Hp}
theorem FrDs.len : ∀ {ds ds' : List D}, FrDs G ds ds' → ds.length = ds'.length
  | _, _, .nil => rfl
  | _, _, .cons _ t => by simp [FrDs.len t]
mutual
theorem Rep.fr (w : Wo K P G H) : ∀ {d d' : D} {v : V}, FrD G d d' → Rep K H G P d v → Rep K H (fun _ => none) P d' v
  | _, _, _, .pl q, h => Rep.bare w q h
  | _, _, _, .ref (a := a) ea t, h => by
    unfold Rep at h
    obtain ⟨rfl, _⟩ := h
    obtain ⟨ho, e1, xs, rfl, z, q⟩ := w.own a _ ea
    exact rep_lst rfl (fun pp => by rw [(w.prv a pp).1] at ea; cases ea) e1 (by rw [← t.len]; exact z) (Reps.fr w t q)
  | _, _, _, .lst t, h => by
    unfold Rep at h ⊢
    obtain ⟨a, xs, rfl, g, p, rr, z, q⟩ := h
    exact ⟨a, xs, rfl, rfl, p, rr, by rw [← t.len]; exact z, Reps.fr w t q⟩
  | _, _, _, .tup t, h => by
    unfold Rep at h ⊢
    obtain ⟨a, xs, rfl, g, p, rr, z, q⟩ := h
    exact ⟨a, xs, rfl, rfl, p, rr, by rw [← t.len]; exact z, Reps.fr w t q⟩
theorem Reps.fr (w : Wo K P G H) : ∀ {ds ds' : List D} {vs : List V}, FrDs G ds ds' → Reps K H G P ds vs → Reps K H (fun _ => none) P ds' vs
  | _, _, _, .nil, h => by unfold Reps at h ⊢; exact h
  | _, _, _, .cons e t, h => by
    unfold Reps at h ⊢
    obtain ⟨x, r, rfl, h1, h2⟩ := h
    exact ⟨x, r, rfl, Rep.fr w e h1, Reps.fr w t h2⟩
end
/-- what a borrower leaves -/
theorem lent {ds' : List D} {Q : DK} {R : VK} (w : Wo K P G H)
    (k : ∀ d G' v H', Step G H G' H' → Wo K P G' H' → Rep K H' G' P d v → Q d G' → R v H') {d : D} {G' : Gp} {v : V} {H' : Hp} (st : Step (fun _ => none) H G' H') (w' : Wo K P G' H') (r' : Rep K H' G' P d v)
    (q1 : resT d = true) (q2 : ∀ a o, G' a = some o → resO o = true) (q3 : (∀ a o, G' a = some o → G a = none) → Q d (gmerge G G')) : R v H' := by
  have ext : ∀ a o, H a = some o → H' a = some o := fun a o h => (st.keep a o h rfl).1
  have fresh : ∀ a o, G' a = some o → G a = none := fun a o h => by
    cases e : G a with
    | none => rfl
    | some u =>
      obtain ⟨ho, e1, _⟩ := w.own a u e
      have := (st.keep a ho e1 rfl).2
      rw [h] at this; cases this
  have gm : ∀ a o, G a = some o → gmerge G G' a = some o := fun a o h => by
    unfold gmerge
    cases e : G' a with
    | none => exact h
    | some u => rw [fresh a u e] at h; cases h
  have s0 : Step G H (gmerge G G') H' := by
    refine ⟨fun a o h g => ⟨ext a o h, ?_⟩, fun a o h => ⟨o, gm a o h⟩⟩
    unfold gmerge
    rw [(st.keep a o h rfl).2]; exact g
  have wm : Wo K P (gmerge G G') H' := by
    refine ⟨fun a o h => ?_, fun a q => ?_⟩
    · cases e : G' a with
      | none =>
        have h' : G a = some o := by unfold gmerge at h; rw [e] at h; exact h
        obtain ⟨ho, e1, r1⟩ := w.own a o h'
        exact ⟨ho, ext a ho e1, r1.step s0 fun _ _ x => x⟩
      | some u =>
        have h' : u = o := by unfold gmerge at h; rw [e] at h; exact Option.some.inj h
        subst h'
        obtain ⟨ho, e1, r1⟩ := w'.own a u e
        refine ⟨ho, e1, ?_⟩
        have fl := q2 a u e
        cases u with
        | lst ds => obtain ⟨xs, e2, z, t⟩ := r1; exact ⟨xs, e2, z, Reps.backR w ext fl t⟩
        | _ => simp [resO] at fl
    · obtain ⟨g, ho, e⟩ := w'.prv a q
      exact ⟨by unfold gmerge; rw [g]; exact (w.prv a q).1, ho, e⟩
  exact k d _ v H' s0 wm (Rep.backR w ext q1 r') (q3 fresh)
theorem Wo.bare (w : Wo K P G H) : Wo K P (fun _ => none) H := ⟨fun _ _ q => (nomatch q), fun a q => ⟨rfl, (w.prv a q).2⟩⟩
/-- the wish of who lends -/
def lentQ (G : Gp) (Q : DK) : DK := fun d G' => resT d = true ∧ (∀ a o, G' a = some o → resO o = true) ∧ ((∀ a o, G' a = some o → G a = none) → Q d (gmerge G G'))
theorem lentQ_flat {Q : DK} {d : D} (h : resT d = true) (q : Q d G) : lentQ G Q d (fun _ => none) := ⟨h, fun _ _ e => (nomatch e), fun _ => q⟩
end
def eCallF (F : Sf) (ea : EA) : EE := fun s G Q => ea s G fun ds G1 => ∃ ds', FrDs G1 ds ds' ∧ F ds' (fun _ => none) (lentQ G1 Q)
/-- a built-in of lent data -/
def cFr (c : CD) : CD := fun xs G Q => ∃ ds, FrDs G xs ds ∧ c ds (fun _ => none) (lentQ G Q)
section
variable {X : Cx} {K : PySem.W.Frag}
theorem lc_fr {r : List V → Hp → VK → Prop} {c : CD} (l : LC K r c) : LC K r (cFr c) := fun P G H xs us Q R h w rs k => by
  obtain ⟨ds, fr, h⟩ := h
  exact l P _ H ds us _ R h w.bare (Reps.fr w fr rs) fun d G' v H' st w' r' q => lent (ds' := ds) w k st w' r' q.1 q.2.1 q.2.2
theorem le_callF {n : Nat} {F : Sf} {E : XK} {t : TA} {ea : EA} (ha : LA K n t ea) : LE K (tCall (Lf K n F) [] E t) (eCallF F ea) := fun P s G Q σ H R h rl k => by
  refine ha P s G _ σ H _ h rl fun ds G1 vs H1 s1 w1 r1 hn h1 => ?_
  obtain ⟨ds', fr, h1⟩ := h1
  show Lf K n F (vs ++ []) H1 R E
  rw [List.append_nil]
  refine ⟨by rw [← r1.length]; exact hn, P, ds', fun _ => none, _, w1.bare, Reps.fr w1 fr r1, h1, fun d G' v H' st w' r' q => ?_⟩
  exact lent (ds' := ds') w1 (fun d G' v H' st w' r' q' => k d G' v H' (s1.trans st) w' r' q') st w' r' q.1 q.2.1 q.2.2
theorem j_callF {k : Nat} {f : Addr} {fd : FuncData} {ps : List Str} {F : Sf} {x : Str} {p pos : Pos} {e : Expr} {es : List Expr} {ea : EA} (FF : FK X.prog X.w X.K X.mg X.base k f fd ps F) (hr : Room k X.A) (hg : Gl X x) (hm : X.mg x = some (.ref f)) (hk : PySem.W.keepIn X.K (.ref f) = true)
    (hb : Binds X.K fd ps []) (ha : JA X (e :: es) ea) (hlen : (e :: es).length = ps.length := by rfl) (hdb : (x == ("__debug__" : Str)) = false := by decide) (he : starEach (e :: es) X.env = (false, eval e X.env) :: starEach es X.env := by rfl) (hpl : (backTo pos (starEach es X.env)).any (·.1) = false := by rfl) :
    JE X (.Call (.Name x p) (e :: es) [] pos) (eCallF F ea) := by
  have FF' := FF
  unfold FK at FF'
  rw [← hlen] at FF'
  exact ⟨pe_call FF' hr hg hm hk hb .nil pass0 ha.pa hdb he hpl, le_callF (E := fun _ _ _ => False) ha.la⟩
theorem j_calF {k : Nat} {ps : List Str} {F : Sf} {x : Str} {p pos : Pos} {e : Expr} {es : List Expr} {ea : EA} (c : Cal X.prog X.w K X.mg X.base k x ps F) (hr : Room k X.A) (hg : Gl X x)
    (ha : JA X (e :: es) ea) (hK : X.K = K := by rfl) (hlen : (e :: es).length = ps.length := by rfl) (hdb : (x == ("__debug__" : Str)) = false := by decide) (he : starEach (e :: es) X.env = (false, eval e X.env) :: starEach es X.env := by rfl) (hpl : (backTo pos (starEach es X.env)).any (·.1) = false := by rfl) : JE X (.Call (.Name x p) (e :: es) [] pos) (eCallF F ea) := by
  subst hK
  obtain ⟨f, fd, h1, h2, h3, h4⟩ := c.ex
  exact j_callF h1 hr hg h2 h3 h4 ha hlen hdb he hpl
end
theorem frds_pl {G : Gp} {ds : List D} (h : plainDs ds = true) : FrDs G ds ds := by
  induction ds with
  | nil => exact .nil
  | cons d ds ih =>
    simp only [plainDs, Bool.and_eq_true] at h
    exact .cons (.pl h.1) (ih h.2)
end DL
set_option Elab.async false
set_option linter.all false
set_option maxRecDepth 100000
set_option maxHeartbeats 4000000
namespace DL
open PySem PySem.Spec PyProof.Rows L2
theorem jss_false {X : Cx} {Y : Wx} {body : List Stmt} : JSs X Y body (fun _ _ _ => False) :=
  ⟨(⟨fun _ _ _ _ _ _ h => h.elim⟩ : PSs X body (fun _ _ _ => False)), fun _ _ _ _ _ _ _ h _ _ => h.elim⟩
end DL
set_option Elab.async false
set_option linter.all false
set_option maxRecDepth 100000
set_option maxHeartbeats 4000000
namespace L2
open PySem PySem.Spec PyProof.Rows PySem.W
end L2
namespace DL
open PySem PySem.Spec PyProof.Rows L2 PySem.W
end DL
set_option Elab.async false
set_option linter.all false
set_option maxRecDepth 100000
set_option maxHeartbeats 4000000
namespace DL
open PySem PySem.Spec PyProof.Rows L2
def rIsXT (K : PySem.W.Frag) (D a : Addr) (d : Option Addr) : List V → Hp → VK → Prop := fun xs H Q => ∃ (tp : Addr) (cs : List Addr) (b : Bool), xs = [.ref a, .ref tp] ∧ H tp = some (.tup (cs.map V.ref)) ∧ PySem.W.kitAny K (.ref D) (cs.map Value.ref) = some b ∧ (∀ dd, d = some dd → ∃ fs, H dd = some (.xd fs)) ∧ Q (.bl b) H
theorem vals_refs : ∀ {cs : List Addr} {us : List Value}, Vals (cs.map V.ref) us → us = cs.map Value.ref
  | [], _, h => by cases h; rfl
  | c :: cs, _, h => by
    cases h with
    | cons a b => cases a; rw [vals_refs b]; rfl
theorem call_isXT {X : Cx} {a C : Addr} {d : Option Addr} {oe : Obj} {pn : List (Addr × Obj)} (T : ExcC X.K C) (hz : Zc (.ref C) d oe) (hf : ∃ vs, oe.data = .fields vs) : CallR (X.suite a ((a, oe) :: pn)) (.builtin "isinstance") (rIsXT X.K C a d) := by
  intro pins s σ H xs us Q I r h
  obtain ⟨tp, cs, b, rfl, hT, e, hd, q⟩ := h
  cases r with
  | cons rx rr =>
    cases rr with
    | cons rt rr =>
      cases rr
      cases rx
      cases rt
      obtain ⟨hget, _⟩ := I.pin (a, oe) (List.mem_append.mpr (.inl List.mem_cons_self))
      obtain ⟨vs, hv⟩ := hf
      have J : ∃ od, PySem.W.InstAt s.heap a oe C od := by
        cases d with
        | none =>
          refine ⟨none, ?_⟩
          obtain ⟨oc, od, oda, osl⟩ := oe
          obtain ⟨h1, h2⟩ := hz
          dsimp only at h1 h2 hv
          subst h1 h2 hv
          exact ⟨hget, rfl, rfl, trivial⟩
        | some dd =>
          obtain ⟨fs, ea⟩ := hd dd rfl
          have hx : ObjOk X.prog X.w H s.heap dd (.xd fs) := I.hok dd _ ea
          obtain ⟨mA, hns, hr⟩ := hx
          obtain ⟨od, ho, hl⟩ := lookIn_ns hns
          exact ⟨some od, hget, hz.1, by unfold PySem.W.notCls; rw [hv] <;> rfl, by rw [hz.2]; exact ho⟩
      obtain ⟨od, J⟩ := J
      have hcl : (PySem.W.clsIn X.K C).isSome = true := by
        have := T.hd
        unfold PySem.W.hasDictIn at this
        cases q : PySem.W.clsIn X.K C with
        | none => rw [q] at this; cases this
        | some cd => rfl
      obtain ⟨_, its, rv, o, h1, h2, n, h3⟩ := (show ObjOk X.prog X.w H s.heap tp (.tup (cs.map V.ref)) from I.hok tp _ hT)
      have e3 := vals_refs rv
      subst e3
      obtain ⟨oc, od2, dt, sl⟩ := o
      simp only at h2 h3
      subst h2 h3
      exact PySem.W.kia_tup (PySem.W.kitx_exc hcl T.hg T.hk T.hs T.ha T.hn T.ht T.hm) I.kIn J h1 e (fun z => nomatch z) fun tk => ⟨.bl b, H, I.kept (t' := tk) fun _ _ z => z, rfl, q⟩
def tCs : List Addr → TA
  | [] => tNil
  | c :: cs => tCons (tC (.ref c)) (tCs cs)
theorem tCs_run : ∀ {cs : List Addr} {σ : L2.St} {H : Hp} {Q : List V → Hp → Prop}, Q (cs.map V.ref) H → tCs cs σ H Q
  | [], _, _, _, h => h
  | c :: cs, σ, H, Q, h => by
    unfold tCs tCons tC
    exact tCs_run (cs := cs) (Q := fun xs H1 => Q (.ref c :: xs) H1) h
section
variable {X : Cx} {a dd : Addr} {x : Xd} {oe : Obj} {pn : List (Addr × Obj)} {K : PySem.W.Frag} {i : Nat} {n : Str} {p p2 pos : Pos} {ce : Expr} {b : Bool}
theorem j_isET {cs : List Addr} (T : ExcC K (He.ga K x.c)) (hz : Zc (.ref (He.ga K x.c)) (dOf dd x) oe) (hf : ∃ vs, oe.data = .fields vs) (hk : PySem.W.kitAny K (.ref (He.ga K x.c)) (cs.map Value.ref) = some b) (hl : cs.length ≤ 100)
    (hg : Gl (X.suite a ((a, oe) :: pn)) "isinstance") (hm : X.mg "isinstance" = none) (hi : PE (X.suite a ((a, oe) :: pn)) (.Name n p2) (tVar i)) (hce : PE (X.suite a ((a, oe) :: pn)) ce (tTup (tCs cs))) (hK : X.K = K := by rfl)
    (h1 : starEach [.Name n p2, ce] (X.suite a ((a, oe) :: pn)).env = (false, eval (.Name n p2) (X.suite a ((a, oe) :: pn)).env) :: starEach [ce] (X.suite a ((a, oe) :: pn)).env := by rfl)
    (h2 : starEach [ce] (X.suite a ((a, oe) :: pn)).env = (false, eval ce (X.suite a ((a, oe) :: pn)).env) :: starEach [] (X.suite a ((a, oe) :: pn)).env := by rfl)
    (hpl : (backTo pos (starEach [ce] (X.suite a ((a, oe) :: pn)).env)).any (·.1) = false := by rfl) :
    JE (X.suite a ((a, oe) :: pn)) (.Call (.Name "isinstance" p) [.Name n p2, ce] [] pos) (eIsE a dd x i b) := by
  subst hK
  refine ⟨pe_callB (call_isXT T hz hf) hg hm (by decide +kernel) (pa_cons hi (pa_cons hce pa_nil h2) h1) (by decide) (by decide) h1 hpl, fun P s G Q σ H R h r k => ?_⟩
  have hsz : (cs.map V.ref).length ≤ sizeLine := by rw [List.length_map]; exact Nat.le_trans hl (by decide)
  unfold eIsE at h
  split at h
  · rename_i a' e
    obtain ⟨rfl, hd, h⟩ := h
    obtain ⟨v, e1, e2⟩ := r.at_ i _ e
    unfold Rep at e2
    subst e2
    refine ⟨_, e1, tCs_run ⟨hsz, fun tp hp => ?_⟩⟩
    have st : Step G H G (upd H tp (.tup (cs.map V.ref))) := Step.new hp
    exact ⟨tp, cs, b, rfl, upd_same, hk, (fun d ed => by rw [hd] at ed; cases ed), k _ G _ _ st (r.wo.new hp) rep_bl h⟩
  · rename_i a' d' n' e' e
    obtain ⟨rfl, hd, h⟩ := h
    obtain ⟨v, e1, e2⟩ := r.at_ i _ e
    unfold Rep at e2
    obtain ⟨rfl, g, pp, u, e3, e4⟩ := e2
    refine ⟨_, e1, tCs_run ⟨hsz, fun tp hp => ?_⟩⟩
    have st : Step G H G (upd H tp (.tup (cs.map V.ref))) := Step.new hp
    exact ⟨tp, cs, b, rfl, upd_same, hk, (fun d ed => by rw [hd] at ed; cases ed; exact ⟨_, by rw [upd_ne (ne_of_none e3 hp)]; exact e3⟩), k _ G _ _ st (r.wo.new hp) rep_bl h⟩
  · exact h.elim
end
theorem kitAny_of {K : PySem.W.Frag} {t : Value} : ∀ {cs : List Addr} {bs : List Bool}, cs.length = bs.length → (∀ p ∈ cs.zip bs, PySem.W.kitOne K t (.ref p.1) = some p.2) → PySem.W.kitAny K t (cs.map Value.ref) = some (bs.any id)
  | [], [], _, _ => rfl
  | c :: cs, b :: bs, hl, h => by
    have h1 := h (c, b) (by simp)
    have h2 := kitAny_of (cs := cs) (bs := bs) (by simpa using hl) fun p hp => h p (by simp [hp])
    refine kitAny_cons h1 (fun e => ?_) (fun e => by simp at e; simp [e])
    simp at e
    rw [h2]
    simp [e]
  | [], _ :: _, hl, _ => by simp at hl
  | _ :: _, [], hl, _ => by simp at hl
/-- of names -/
theorem kitN {K : PySem.W.Frag} {x : Str} {ns : List Str} (h : ∀ c ∈ ns, PySem.W.kitOne K (.ref (He.ga K x)) (.ref (He.ga K c)) = some (isSub x c)) : PySem.W.kitAny K (.ref (He.ga K x)) ((ns.map (He.ga K)).map Value.ref) = some (ns.any fun c => isSub x c) := by
  have := kitAny_of (K := K) (t := .ref (He.ga K x)) (cs := ns.map (He.ga K)) (bs := ns.map fun c => isSub x c) (by simp) (fun p hp => by
    obtain ⟨i, hi, e⟩ := List.getElem_of_mem hp
    simp at hi e
    rw [← e]
    exact h _ (List.getElem_mem _))
  rw [this]
  congr 1
  induction ns with
  | nil => rfl
  | cons a r ih => simp
end DL
set_option Elab.async false
set_option linter.all false
set_option maxRecDepth 100000
set_option maxHeartbeats 4000000
namespace DL
open PySem PySem.Spec PyProof.Rows L2 LN
def F_ring_loads : Sf := fun ds G Q => ∃ (n : Int) (rs : List Stretch) (l : List Nat), ds = [ringD n rs, .lst (nD l)] ∧ 0 < n ∧ n ≤ 40 ∧ (∀ i ∈ l, i < rs.length) ∧ Q (.lst ((List.range n.toNat).map fun m : Nat => D.int ((loadOn n rs l (m : Int) : Nat) : Int))) G
def r_ring_loads : ES :=
  (sRet (eLc (iR1 (eCons (eOp oIx (eVar 0) (eC (.int 0))) eNil)) (.nm 2) eYes (eCall F_load_on (eCons (eVar 0) (eCons (eVar 1) (eCons (eVar 2) eNil)))) [2]))
theorem d_ring_loads (ds : List D) (G : Gp) (Q : DK) (h : F_ring_loads ds G Q) : r_ring_loads (fin G Q) (startD 3 ds) G := by
  obtain ⟨n, rs, l, rfl, n0, n1, hl, k⟩ := h
  unfold r_ring_loads
  (try dsimp only [ringD, startD, sRet, eLc, iR1, eCons, eOp, eVar, eNil, eC]); (try simp only [List.map_cons, List.map_nil, List.length_cons, List.length_nil, Nat.reduceAdd, List.replicate, List.cons_append, List.nil_append]); (try dsimp only [List.getElem?_cons_zero])
  refine ixt_0 (d := .int n) rfl ?_
  (try dsimp only); (skip); (skip)
  refine ⟨by omega, by omega, ?_⟩
  unfold rngD
  refine compW_all (g := fun i : Nat => D.int (0 + (i : Int))) (f := fun m : Nat => D.int ((loadOn n rs l (m : Int) : Nat) : Int)) trivial (List.range n.toNat) [] (fun m hm => ⟨_, rfl, fun R r => ?_⟩) ?_
  · (try dsimp only [wipeD, List.set_cons_succ, List.set_cons_zero, eCall, eCons, eVar, List.getElem?_cons_zero, List.getElem?_cons_succ, eNil]); (skip); (skip)
    rw [show (0 : Int) + (m : Int) = (m : Int) from by omega]
    exact ⟨n, rs, l, m, rfl, n0, hl, r⟩
  rw [List.nil_append]
  exact fin_id k
inductive Tr where
  | pr (pp : Paper)
  | cr (m : Int)
  | sp (i : Nat) (a b : Tr)
def Tr.d : Tr → D
  | .pr pp => .tup [.str "prices", .lst (pp.map qD)]
  | .cr m => .tup [.str "crowd", .int m]
  | .sp i a b => .tup [.str "split", .int (i : Int), .lst [a.d, b.d]]
def Tr.py : Tr → PyData
  | .pr pp => .tuple [.str "prices", .list (pp.map fun x => PyData.tuple [.int x.1, .int x.2])]
  | .cr m => .tuple [.str "crowd", .int m]
  | .sp i a b => .tuple [.str "split", .int (i : Int), .list [a.py, b.py]]
def Tr.dep : Tr → Nat
  | .pr _ => 1
  | .cr _ => 1
  | .sp _ a b => max a.dep b.dep + 1
def Tr.size : Tr → Nat
  | .pr _ => 1
  | .cr _ => 1
  | .sp _ a b => a.size + b.size + 1
/-- its papers are papers of the ring -/
def Tr.pap (n : Int) : Tr → Prop
  | .pr pp => POk pp ∧ ∀ x ∈ pp, 0 ≤ x.1 ∧ x.1 < n
  | .cr _ => True
  | .sp _ a b => a.pap n ∧ b.pap n
theorem Tr.toPy {G : Gp} : ∀ t : Tr, DL.toPy G t.d = some t.py
  | .pr pp => by simp [Tr.d, Tr.py, toPys_pp]
  | .cr m => by simp [Tr.d, Tr.py]
  | .sp i a b => by simp [Tr.d, Tr.py, Tr.toPy a, Tr.toPy b]
theorem Shp.mono {n m : Nat} {d : PyData} (h : Shp n d) (k : n ≤ m) : Shp m d := ⟨h.c, Nat.le_trans h.d k⟩
theorem Tr.shp : ∀ t : Tr, Shp (2 * t.dep + 1) t.py
  | .pr pp => shp_tuple fun x hx => by
    simp only [List.mem_cons, List.not_mem_nil, or_false] at hx
    rcases hx with rfl | rfl
    · exact shp_str (by decide)
    · exact shp_pp (n := 0) pp
  | .cr m => shp_tuple fun x hx => by
    simp only [List.mem_cons, List.not_mem_nil, or_false] at hx
    rcases hx with rfl | rfl
    · exact shp_str (by decide)
    · exact shp_int _
  | .sp i a b => by
    have h1 := Tr.shp a
    have h2 := Tr.shp b
    have e : 2 * (Tr.sp i a b).dep + 1 = (2 * max a.dep b.dep + 1 + 1) + 1 := by simp only [Tr.dep]; omega
    rw [e]
    refine shp_tuple fun x hx => ?_
    simp only [List.mem_cons, List.not_mem_nil, or_false] at hx
    rcases hx with rfl | rfl | rfl
    · exact shp_str (by decide)
    · exact shp_int _
    · refine shp_list fun x hx => ?_
      simp only [List.mem_cons, List.not_mem_nil, or_false] at hx
      rcases hx with rfl | rfl
      · exact h1.mono (by omega)
      · exact h2.mono (by omega)
theorem Tr.dep1 : ∀ t : Tr, 1 ≤ t.dep
  | .pr _ => Nat.le_refl _
  | .cr _ => Nat.le_refl _
  | .sp _ a b => by simp only [Tr.dep]; omega
def freeZ (rs : List Stretch) (ins outs : List Nat) : List Nat := (List.range rs.length).filter fun i => decide (i ∉ ins) && decide (i ∉ outs)
theorem free_mem {rs : List Stretch} {ins outs : List Nat} {i : Nat} : i ∈ freeZ rs ins outs ↔ i < rs.length ∧ i ∉ ins ∧ i ∉ outs := by
  unfold freeZ
  simp
def priceZ (n : Int) (rs : List Stretch) (nb : Int) (pp : Paper) (ins outs : List Nat) : Int :=
  worthOf rs ins + (pp.map fun x => x.2 * (nb - (loadOn n rs ins x.1 : Int))).sum + ((freeZ rs ins outs).map fun i => restR n (st rs i) pp).sum
abbrev wkKs : List Str := ["ring", "benches", "met", "sums"]
def wkO (dx : Addr) (n : Int) (rs : List Stretch) (nb : Int) (met : Int) (s : Addr) : GO := .ins "RingWalk" dx wkKs [ringD n rs, .int nb, .int met, .ref s]
structure WkAt (G : Gp) (x s dx : Addr) (n : Int) (rs : List Stretch) (nb : Int) (met : Nat) (ss : List Int) : Prop where
  ob : G x = some (wkO dx n rs nb met s)
  su : G s = some (.lst (iD ss))
theorem WkAt.ne {G : Gp} {x s dx : Addr} {n : Int} {rs : List Stretch} {nb : Int} {met : Nat} {ss : List Int} (h : WkAt G x s dx n rs nb met ss) : x ≠ s := fun e => by
  have h1 := h.ob
  rw [e, h.su] at h1
  cases h1
def F_ring_rest : Sf := fun ds G Q => ∃ (n : Int) (rs : List Stretch) (i : Nat) (pp : Paper), ds = [ringD n rs, .int (i : Int), .lst (pp.map qD)] ∧ 0 < n ∧ i < rs.length ∧ Q (.int (restR n (st rs i) pp)) G
theorem ixg_0 {n : Int} {rs : List Stretch} {G : Gp} {Q : DK} (q : Q (.int n) G) : oIx (ringD n rs) (.int 0) G Q := ixt_0 (d := .int n) rfl q
theorem ixg_1 {n : Int} {rs : List Stretch} {G : Gp} {Q : DK} (q : Q (.lst (rs.map Stretch.d)) G) : oIx (ringD n rs) (.int 1) G Q := ixt_0 (d := .lst (rs.map Stretch.d)) rfl q
theorem notIn_nats {i : Nat} {l : List Nat} {G : Gp} {Q : DK} (q : Q (.bl (decide (i ∉ l))) G) : oIn true (.int (i : Int)) (.lst (nD l)) G Q := by
  simp only [oIn, flD, lkQ_lst, Option.bind_some, flDs_nD, inV_nD, if_true]
  rw [show (!decide (i ∈ l)) = decide (i ∉ l) by simp]
  exact q
theorem in_natsL {i : Nat} {l : List Nat} {G : Gp} {Q : DK} (q : Q (.bl (decide (i ∈ l))) G) : oIn false (.int (i : Int)) (.lst (nD l)) G Q := by
  simp only [oIn, flD, lkQ_lst, Option.bind_some, flDs_nD, inV_nD, Bool.false_eq_true, if_false]
  exact q
/-- the comprehension of the free ones -/
theorem compW_free {rs : List Stretch} {ins outs : List Nat} {s0 : Sd} {a b v : Nat} {G : Gp} {Q : List D → Gp → Prop} (hv : v < s0.length) (ha : a ≠ v) (hb : b ≠ v) (e1 : s0[a]? = some (some (.lst (nD ins)))) (e2 : s0[b]? = some (some (.lst (nD outs))))
    (k : Q (nD (freeZ rs ins outs)) G) : compW s0 (.nm v) (eAnd (eT (eOp (oIn true) (eVar v) (eVar a))) (eT (eOp (oIn true) (eVar v) (eVar b)))) (eVar v) (fun _ => True) ((List.range rs.length).map fun i : Nat => D.int (i : Int)) [] G Q := by
  refine compW_map (p := fun i => decide (i ∉ ins) && decide (i ∉ outs)) (f := fun i : Nat => D.int (i : Int)) trivial (List.range rs.length) [] (fun i hi => ⟨_, rfl, fun R r => ?_, fun _ R r => ?_⟩) ?_
  · have q0 : (s0.set v (some (D.int (i : Int))))[v]? = some (some (.int (i : Int))) := List.getElem?_set_self hv
    have q1 : (s0.set v (some (D.int (i : Int))))[a]? = some (some (.lst (nD ins))) := by rw [List.getElem?_set_ne ha.symm]; exact e1
    have q2 : (s0.set v (some (D.int (i : Int))))[b]? = some (some (.lst (nD outs))) := by rw [List.getElem?_set_ne hb.symm]; exact e2
    simp only [eAnd, eT, eOp, eVar, q0, q1, q2]
    refine notIn_nats ?_
    by_cases c : i ∉ ins
    · rw [decide_eq_true c] at r ⊢
      simp only [Bool.true_and] at r
      simp only [if_true]
      exact notIn_nats r
    · rw [decide_eq_false c] at r ⊢
      simp only [Bool.false_and] at r
      simp only [Bool.false_eq_true, if_false]
      exact r
  · simp only [eVar, List.getElem?_set_self hv]
    exact r
  · rw [List.nil_append]
    exact k
theorem rng_nat0 (m : Nat) : rngD 0 m = (List.range m).map fun i : Nat => D.int (i : Int) := by
  unfold rngD
  refine List.map_congr_left fun i _ => ?_
  rw [Int.zero_add]
end DL
set_option Elab.async false
set_option linter.all false
set_option maxRecDepth 100000
set_option maxHeartbeats 4000000
namespace DL
open PySem PySem.Spec PyProof.Rows L2 LN
theorem app_d {L M : List Nat} {G : Gp} {Q : DK} (h : L.length + M.length ≤ 16777216) (q : Q (.lst (nD (L ++ M))) G) : oAdd (.lst (nD L)) (.lst (nD M)) G Q := by
  refine add_ok (by simp [nD]; omega) ?_
  rw [show nD L ++ nD M = nD (L ++ M) by unfold nD; rw [List.map_append]]
  exact q
end DL
set_option Elab.async false
set_option linter.all false
set_option maxRecDepth 100000
set_option maxHeartbeats 4000000
namespace DL
open PySem PySem.Spec PyProof.Rows L2 LN
theorem tx_list2 {n m : Nat} {a b : PyData} (ha : Tx n a) (hb : Tx m b) : Tx (n + m + 6) (.list [a, b]) := by
  have e : ∀ x ∈ [a, b], x.showable = true ∧ x.hasDict = false ∧ Asc x.shown := fun x hx => by
    simp only [List.mem_cons, List.not_mem_nil, or_false] at hx
    rcases hx with rfl | rfl
    · exact ⟨ha.sh, ha.nd, ha.asc⟩
    · exact ⟨hb.sh, hb.nd, hb.asc⟩
  refine ⟨by simp only [PyData.showable]; exact showableAll_of fun x hx => (e x hx).1, by simp only [PyData.hasDict]; exact noDictAll_of fun x hx => (e x hx).2.1, ?_, ?_⟩
  · simp only [PyData.shown, shownAll_map]
    exact asc_app (asc_from (asc_of _) fun t ht => by obtain ⟨x, hx, rfl⟩ := List.mem_map.mp ht; exact (e x hx).2.2) (asc_of _)
  · simp only [PyData.shown, shownAll_map]
    have h1 := listText_le ([a, b].map PyData.shown)
    simp only [List.map_cons, List.map_nil, piled_cons, piled, List.sum_cons, List.sum_nil] at h1 ⊢
    have := ha.len
    have := hb.len
    omega
theorem tx_tup3 {n m l : Nat} {a b c : PyData} (ha : Tx n a) (hb : Tx m b) (hc : Tx l c) : Tx (n + m + l + 10) (.tuple [a, b, c]) := by
  have e : ∀ x ∈ [a, b, c], x.showable = true ∧ x.hasDict = false ∧ Asc x.shown := fun x hx => by
    simp only [List.mem_cons, List.not_mem_nil, or_false] at hx
    rcases hx with rfl | rfl | rfl
    · exact ⟨ha.sh, ha.nd, ha.asc⟩
    · exact ⟨hb.sh, hb.nd, hb.asc⟩
    · exact ⟨hc.sh, hc.nd, hc.asc⟩
  refine ⟨by simp only [PyData.showable]; exact showableAll_of fun x hx => (e x hx).1, by simp only [PyData.hasDict]; exact noDictAll_of fun x hx => (e x hx).2.1, ?_, ?_⟩
  · simp only [PyData.shown, shownAll_map]
    exact asc_app (asc_app (asc_of _) (asc_join (asc_of _) fun t ht => by obtain ⟨x, hx, rfl⟩ := List.mem_map.mp ht; exact (e x hx).2.2)) (asc_of _)
  · simp only [PyData.shown, shownAll_map]
    have h1 := tupleText_le ([a, b, c].map PyData.shown)
    simp only [List.map_cons, List.map_nil, piled_cons, piled, List.sum_cons, List.sum_nil] at h1 ⊢
    have := ha.len
    have := hb.len
    have := hc.len
    omega
/-- no price above c -/
def Tr.le (c : Int) : Tr → Prop
  | .pr pp => ∀ x ∈ pp, x.2 ≤ c
  | .cr _ => True
  | .sp _ a b => a.le c ∧ b.le c
theorem Tr.size1 : ∀ t : Tr, 1 ≤ t.size
  | .pr _ => Nat.le_refl _
  | .cr _ => Nat.le_refl _
  | .sp _ a b => by simp only [Tr.size]; omega
/-- small numbers in it -/
def Tr.small : Tr → Prop
  | .pr _ => True
  | .cr m => 0 ≤ m ∧ m ≤ 1000
  | .sp i a b => i ≤ 1000 ∧ a.small ∧ b.small
theorem Tr.tx {n : Int} : ∀ t : Tr, t.pap n → t.small → Tx (13000 * t.size) t.py
  | .pr pp, h, _ => by
    obtain ⟨h, _⟩ := h
    refine (tx_tuple (n := 6338) (m := 2) (fun x hx => ?_) (by simp)).mono (by simp only [Tr.size]; omega)
    simp only [List.mem_cons, List.not_mem_nil, or_false] at hx
    rcases hx with rfl | rfl
    · exact (tx_str (n := 6) (asc_of _) (by decide +kernel)).mono (by decide)
    · exact tx_paper h
  | .cr m, _, h => by
    refine (tx_tuple (n := 100) (m := 2) (fun x hx => ?_) (by simp)).mono (by simp only [Tr.size]; omega)
    simp only [List.mem_cons, List.not_mem_nil, or_false] at hx
    have := h.1
    have := h.2
    rcases hx with rfl | rfl
    · exact (tx_str (n := 5) (asc_of _) (by decide +kernel)).mono (by decide)
    · exact (tx_i (by omega) (by omega)).mono (by decide)
  | .sp i a b, h, hs => by
    have h1 := Tr.tx a h.1 hs.2.1
    have h2 := Tr.tx b h.2 hs.2.2
    have := hs.1
    exact (tx_tup3 ((tx_str (n := 5) (asc_of "split") (by decide +kernel))) (tx_i (i := (i : Int)) (by omega) (by omega)) (tx_list2 h1 h2)).mono (by simp only [Tr.size]; omega)
theorem Tr.toPx {G : Gp} : ∀ t : Tr, DL.toPx G t.d = some t.py
  | .pr pp => by
    have e : toPxs G (pp.map qD) = some (pp.map fun x => PyData.tuple [.int x.1, .int x.2]) := by
      induction pp with
      | nil => simp
      | cons x r ih => simp [qD, ih]
    simp [Tr.d, Tr.py, e]
  | .cr m => by simp [Tr.d, Tr.py]
  | .sp i a b => by simp [Tr.d, Tr.py, Tr.toPx a, Tr.toPx b]
theorem show_gen {d : D} {q : PyData} {n : Nat} (e : ∀ G, toPx G d = some q) (hb : boxX d = true) (t : Tx n q) (hd : q.depth ≤ 40) (hn : n ≤ 16000000) : ∃ z : Str, Asc z ∧ ∀ (G : Gp) (Q : DK), Q (.str z) G → cStrX [d] G Q := by
  refine ⟨q.shown, t.asc, fun G Q k => ?_⟩
  have go : boxX d = true ∧ (match toPx G d with
    | some p => p.showable = true ∧ p.depth ≤ 40 ∧ p.shown.length ≤ sizeLine ∧ Q (.str p.shown) G
    | none => False) := by
    rw [e]
    exact ⟨hb, t.sh, hd, Nat.le_trans t.len (Nat.le_trans hn line_ge), k⟩
  cases d with
  | lst ds => exact go
  | tup ds => exact go
  | dct ks ds => exact go
  | _ => first | exact go | cases hb
def TrOk (n : Int) (rs : List Stretch) (nb : Int) : Tr → List Nat → List Nat → Prop
  | .pr pp, _, _ => POk pp ∧ ∀ x ∈ pp, 0 ≤ x.1 ∧ x.1 < n
  | .cr m, ins, _ => (0 ≤ m ∧ m < n) ∧ nb < (loadOn n rs ins m : Int)
  | .sp i a b, ins, outs => i ∈ freeZ rs ins outs ∧ TrOk n rs nb a (ins ++ [i]) outs ∧ TrOk n rs nb b ins (outs ++ [i])
def cls (n : Int) (rs : List Stretch) (nb : Int) : Tr → List Nat → List Nat → List Int
  | .pr pp, ins, outs => [priceZ n rs nb pp ins outs]
  | .cr _, _, _ => []
  | .sp i a b, ins, outs => cls n rs nb a (ins ++ [i]) outs ++ cls n rs nb b ins (outs ++ [i])
theorem TrOk.pap {n : Int} {rs : List Stretch} {nb : Int} : ∀ {t : Tr} {ins outs : List Nat}, TrOk n rs nb t ins outs → t.pap n
  | .pr _, _, _, h => h
  | .cr _, _, _, _ => trivial
  | .sp _ _ _, _, _, h => ⟨TrOk.pap h.2.1, TrOk.pap h.2.2⟩
theorem TrOk.small {n : Int} {rs : List Stretch} {nb : Int} (hr : RgOk n rs) : ∀ {t : Tr} {ins outs : List Nat}, TrOk n rs nb t ins outs → t.small
  | .pr _, _, _, h => trivial
  | .cr m, _, _, h => by have := hr.n2; have := h.1; simp only [Tr.small]; omega
  | .sp i _ _, _, _, h => ⟨by have := (free_mem.mp h.1).1; have := hr.len; omega, TrOk.small hr h.2.1, TrOk.small hr h.2.2⟩
def F__law_load_in : Sf := F_load_on
def F__law_ring_rest : Sf := F_ring_rest
def r__law_load_in : ES :=
  (sSeq (sAsg (eVar 0) (.tp [3, 4]))
  (sRet (eCB cLen (eCons (eLc (iL (eVar 1)) (.nm 5) (eT (eOp oLt (eOp oMod (eOp oSub (eVar 2) (eOp oIx (eOp oIx (eVar 4) (eVar 5)) (eC (.int 1)))) (eVar 3)) (eOp oIx (eOp oIx (eVar 4) (eVar 5)) (eC (.int 2))))) (eVar 5) [5]) eNil))))
def r__law_ring_rest : ES :=
  (sSeq (sAsg (eOp oIx (eOp oIx (eVar 0) (eC (.int 1))) (eVar 1)) (.tp [3, 4, 5, 6]))
  (sSeq (sAsg (eLc (iL (eVar 2)) (.tp [8, 9]) (eT (eOp oLt (eOp oMod (eOp oSub (eVar 8) (eVar 4)) (eOp oIx (eVar 0) (eC (.int 0)))) (eVar 5))) (eVar 9) [8, 9]) (.nm 7))
  (sRet (eCB cMax2 (eCons (eC (.int 0)) (eCons (eOp oSub (eVar 6) (eCB cSum (eCons (eVar 7) eNil))) eNil))))))
theorem d__law_load_in (ds : List D) (G : Gp) (Q : DK) (h : F__law_load_in ds G Q) : r__law_load_in (fin G Q) (startD 6 ds) G := by
  obtain ⟨n, rs, l, m, rfl, hn, hl, k⟩ := h
  refine seq_gen fun W hW => ?_
  (try dsimp only [startD, ringD, sAsg, eVar, asg]); (try simp only [List.map_cons, List.map_nil, List.length_cons, List.length_nil, Nat.reduceAdd, List.replicate, List.cons_append, List.nil_append]); (try dsimp only [List.getElem?_cons_zero, setAll, List.set_cons_succ, List.set_cons_zero])
  refine hW _ _ ?_
  (try dsimp only [oLt, oMod, oSub, sRet, eCB, eCons, eLc, iL, eVar, List.getElem?_cons_succ, List.getElem?_cons_zero, eNil, lkL_lst]); (skip); (skip)
  refine compW_map (g := fun i : Nat => D.int (i : Int)) (p := fun i => overR n (st rs i) m) (f := fun i : Nat => D.int (i : Int)) trivial l [] (fun i hi => ⟨_, rfl, fun R r => ?_, fun _ R r => ?_⟩) ?_
  · (try dsimp only [wipeD, List.set_cons_succ, List.set_cons_zero, eT, eOp, eVar, List.getElem?_cons_succ, List.getElem?_cons_zero, oI0, eC, oI]); (skip); (skip)
    refine ix_at (bk_at (hl i hi)) (ixt_0 (d := .int (st rs i).b) rfl ?_)
    (try dsimp only); (skip); (skip)
    refine ⟨hn, ?_⟩
    refine ix_at (bk_at (hl i hi)) (ixt_0 (d := .int (st rs i).e) rfl ?_)
    exact r
  · (try dsimp only [eVar]); (skip); (skip)
    exact r
  rw [List.nil_append]
  refine len_lst (fin_id ?_)
  rw [List.length_map]
  exact k
theorem d__law_ring_rest (ds : List D) (G : Gp) (Q : DK) (h : F__law_ring_rest ds G Q) : r__law_ring_rest (fin G Q) (startD 10 ds) G := by
  obtain ⟨n, rs, i, pp, rfl, hn, hi, k⟩ := h
  refine seq_gen fun W hW => ?_
  (try dsimp only [startD, sAsg, eOp, eVar, asg, eC]); (try simp only [List.map_cons, List.map_nil, List.length_cons, List.length_nil, Nat.reduceAdd, List.replicate, List.cons_append, List.nil_append]); (try dsimp only [List.getElem?_cons_zero, List.getElem?_cons_succ])
  refine ixg_1 (ix_at (bk_at hi) ?_)
  (try dsimp only [Stretch.d, setAll, List.set_cons_succ, List.set_cons_zero]); (skip); (skip)
  refine hW _ _ ?_
  refine seq_gen fun W2 hW2 => ?_
  (try dsimp only [oLt, oMod, oSub, sAsg, eLc, iL, eVar, List.getElem?_cons_succ, List.getElem?_cons_zero, asg, List.set_cons_succ, List.set_cons_zero, lkL_lst]); (skip); (skip)
  refine compW_map (p := fun x => overR n (st rs i) x.1) (g := qD) (f := fun x => D.int x.2) trivial pp [] (fun y hy => ⟨_, rfl, fun R r => ?_, fun _ R r => ?_⟩) ?_
  · (try dsimp only [wipeD, List.set_cons_succ, List.set_cons_zero, eT, eOp, eVar, List.getElem?_cons_succ, List.getElem?_cons_zero, oI0, oI, eC]); (skip); (skip)
    refine ixg_0 ?_
    (try dsimp only); (skip); (skip)
    exact ⟨hn, r⟩
  · (try dsimp only [eVar]); (skip); (skip)
    exact r
  rw [List.nil_append]
  have e : (pp.filter fun x => overR n (st rs i) x.1).map (fun x => D.int x.2) = ((pp.filter fun x => overR n (st rs i) x.1).map (·.2)).map D.int := by rw [List.map_map]; rfl
  rw [e]
  refine hW2 _ _ ?_
  (try dsimp only [oSub, sRet, eCB, eCons, eC, eOp, eVar, List.getElem?_cons_succ, List.getElem?_cons_zero, cMax2, eNil, oI0, cSum, lkL_lst, Option.bind_some]); (try simp only [intsD_map]); (skip)
  have e2 : (if (st rs i).w - ((pp.filter fun x => overR n (st rs i) x.1).map (·.2)).sum > 0 then (st rs i).w - ((pp.filter fun x => overR n (st rs i) x.1).map (·.2)).sum else 0) = restR n (st rs i) pp := rfl
  exact fin_id (e2 ▸ k)
theorem ne_nilI {l : List Nat} {G : Gp} {Q : DK} (q : Q (.bl (!decide (l = []))) G) : oNe (.lst (nD l)) (.lst []) G Q := ne_lists (b := []) q
def Tr.tag : Tr → Str
  | .pr _ => "prices"
  | .cr _ => "crowd"
  | .sp _ _ _ => "split"
theorem Tr.ix0 {G : Gp} {Q : DK} : ∀ {t : Tr}, Q (.str t.tag) G → oIx t.d (.int 0) G Q
  | .pr _, q => ixt_0 rfl q
  | .cr _, q => ixt_0 rfl q
  | .sp _ _ _, q => ixt_0 rfl q
end DL
set_option Elab.async false
set_option linter.all false
set_option maxRecDepth 100000
set_option maxHeartbeats 4000000
namespace DL
open PySem PySem.Spec PyProof.Rows L2 LN
theorem worth_permR {rs : List Stretch} {a b : List Nat} (h : a.Perm b) : worthOf rs a = worthOf rs b := by
  unfold worthOf
  exact perm_sum (h.map _)
theorem load_permR {n : Int} {rs : List Stretch} {a b : List Nat} {m : Int} (h : a.Perm b) : loadOn n rs a m = loadOn n rs b m := (h.filter _).length_eq
theorem load_appR {n : Int} {rs : List Stretch} {a b : List Nat} {m : Int} : loadOn n rs (a ++ b) m = loadOn n rs a m + loadOn n rs b m := by simp [loadOn]
theorem worth_appR {rs : List Stretch} {a b : List Nat} : worthOf rs (a ++ b) = worthOf rs a + worthOf rs b := by simp [worthOf]
theorem part_perm {l ins : List Nat} (nl : l.Nodup) (ni : ins.Nodup) (h : ∀ i ∈ ins, i ∈ l) : (ins ++ l.filter fun i => decide (i ∉ ins)).Perm l := by
  have n2 : (ins ++ l.filter fun i => decide (i ∉ ins)).Nodup := List.nodup_append.mpr ⟨ni, nl.sublist List.filter_sublist, fun a ha b hb e => by
    have := (List.mem_filter.mp hb).2
    simp at this
    exact this (e ▸ ha)⟩
  refine (List.perm_ext_iff_of_nodup n2 nl).mpr fun a => ?_
  rw [List.mem_append, List.mem_filter]
  constructor
  · rintro (q | q)
    · exact h a q
    · exact q.1
  · intro q
    by_cases c : a ∈ ins
    · exact .inl c
    · exact .inr ⟨q, by simp [c]⟩
theorem sum_le_map {α : Type} {f g : α → Int} : ∀ {l : List α}, (∀ x ∈ l, f x ≤ g x) → (l.map f).sum ≤ (l.map g).sum
  | [], _ => by simp
  | x :: l, h => by
    have h1 := h x List.mem_cons_self
    have h2 := sum_le_map (l := l) fun y hy => h y (List.mem_cons_of_mem _ hy)
    simp only [List.map_cons, List.sum_cons]
    omega
theorem sum_add_map {α : Type} {f g : α → Int} : ∀ {l : List α}, (l.map fun x => f x + g x).sum = (l.map f).sum + (l.map g).sum
  | [] => by simp
  | x :: l => by
    have := sum_add_map (f := f) (g := g) (l := l)
    simp only [List.map_cons, List.sum_cons]
    omega
theorem sum_part {f : Nat → Int} (hf : ∀ i, 0 ≤ f i) : ∀ {a b : List Nat}, a.Nodup → b.Nodup → (∀ i ∈ a, i ∈ b) → (a.map f).sum ≤ (b.map f).sum := fun {a b} na nb h => by
  have e := perm_sum ((part_perm nb na h).map f)
  rw [List.map_append, List.sum_append] at e
  have : 0 ≤ ((b.filter fun i => decide (i ∉ a)).map f).sum := by
    have : ∀ l : List Nat, 0 ≤ (l.map f).sum := fun l => by
      induction l with
      | nil => simp
      | cons x r ih => have := hf x; simp only [List.map_cons, List.sum_cons]; omega
    exact this _
  omega
theorem free_nodup {rs : List Stretch} {ins outs : List Nat} : (freeZ rs ins outs).Nodup := List.nodup_range.sublist List.filter_sublist
/-- weak duality of a leaf -/
theorem leaf_weak {n : Int} {rs : List Stretch} {nb : Int} {pp : Paper} {l ins outs : List Nat} (hs : Some rs.length l) (h1 : ∀ x ∈ pp, 1 ≤ x.2) (hk : ∀ x ∈ pp, (loadOn n rs l x.1 : Int) ≤ nb) (ni : ins.Nodup) (hi : ∀ i ∈ ins, i ∈ l) (ho : ∀ i ∈ outs, i ∉ l) : worthOf rs l ≤ priceZ n rs nb pp ins outs := by
  have nl : l.Nodup := hs.up.imp fun h e => by omega
  have pm := part_perm nl ni hi
  generalize hR : (l.filter fun i => decide (i ∉ ins)) = rest at pm
  have nr : rest.Nodup := by rw [← hR]; exact nl.sublist List.filter_sublist
  have fr : ∀ i ∈ rest, i ∈ freeZ rs ins outs := fun i h => by
    rw [← hR] at h
    obtain ⟨a, b⟩ := List.mem_filter.mp h
    exact free_mem.mpr ⟨hs.lt i a, by simpa using b, fun q => ho i q a⟩
  rw [← worth_permR pm, worth_appR]
  unfold priceZ
  have e1 : worthOf rs rest ≤ (rest.map fun i => restR n (st rs i) pp + tollR n (st rs i) pp).sum := by
    unfold worthOf
    exact sum_le_map fun i _ => restR_ge n (st rs i) pp
  rw [sum_add_map, tollR_swap] at e1
  have e2 : (rest.map fun i => restR n (st rs i) pp).sum ≤ ((freeZ rs ins outs).map fun i => restR n (st rs i) pp).sum := sum_part (fun i => restR_nonneg n (st rs i) pp) nr free_nodup fr
  have e3 : (pp.map fun x => x.2 * (loadOn n rs rest x.1 : Int)).sum ≤ (pp.map fun x => x.2 * (nb - (loadOn n rs ins x.1 : Int))).sum := sum_le_map fun x hx => by
    have a := hk x hx
    rw [← load_permR pm, load_appR] at a
    have b := h1 x hx
    exact Int.mul_le_mul_of_nonneg_left (by omega) (by omega)
  omega
theorem load_subR {n : Int} {rs : List Stretch} {a b : List Nat} {m : Int} (na : a.Nodup) (nb : b.Nodup) (h : ∀ i ∈ a, i ∈ b) : loadOn n rs a m ≤ loadOn n rs b m := by
  rw [← load_permR (part_perm nb na h), load_appR]
  omega
end DL
set_option Elab.async false
set_option linter.all false
set_option maxRecDepth 100000
set_option maxHeartbeats 4000000
namespace L2
open PySem PySem.Spec PyProof.Rows PySem.W
end L2
namespace DL
open PySem PySem.Spec PyProof.Rows L2 PySem.W
end DL
set_option Elab.async false
set_option linter.all false
set_option maxRecDepth 100000
set_option maxHeartbeats 4000000
namespace L2
open PySem PySem.Spec PyProof.Rows
end L2
namespace DL
open PySem PySem.Spec PyProof.Rows L2
inductive JET (X : Cx) (e : Expr) (t : EE) : Prop where
  | mk {te : TE} (a : PET X e te) (b : LE X.K te t) : JET X e t
inductive JST (X : Cx) (Y : Wx) (st : Stmt) (t : ES) : Prop where
  | mk {ts : TS} (a : PST X st ts) (b : LS X.K Y ts t) : JST X Y st t
inductive JSsT (X : Cx) (Y : Wx) (st : List Stmt) (t : ES) : Prop where
  | mk {ts : TS} (a : PSsT X st ts) (b : LS X.K Y ts t) : JSsT X Y st t
section
variable {X : Cx} {Y : Wx} {K : PySem.W.Frag} {e : Expr} {es : List Expr} {st : Stmt} {rest : List Stmt} {pos : Pos} {et eu : ES}
theorem JET.of {t : EE} (h : JE X e t) : JET X e t := by
  obtain ⟨a, b⟩ := h
  exact ⟨CwR.PET.of a, b⟩
theorem JST.of (h : JS X Y st et) : JST X Y st et := by
  obtain ⟨a, b⟩ := h
  exact ⟨PST.of a, b⟩
theorem JSsT.of (h : JSs X Y rest et) : JSsT X Y rest et := by
  obtain ⟨a, b⟩ := h
  exact ⟨PSsT.of a, b⟩
end
end DL
set_option Elab.async false
set_option linter.all false
set_option maxRecDepth 100000
set_option maxHeartbeats 4000000
namespace DL
open PySem PySem.Spec PyProof.Rows L2
open PySem.Sem (wp)
end DL
set_option Elab.async false
set_option linter.all false
set_option maxRecDepth 100000
set_option maxHeartbeats 4000000
namespace DL
open PySem PySem.Spec PyProof.Rows L2
end DL
set_option Elab.async false
set_option linter.all false
set_option maxRecDepth 100000
set_option maxHeartbeats 4000000
namespace DL
open PySem PySem.Spec PyProof.Rows L2
end DL
set_option Elab.async false
set_option linter.all false
set_option maxRecDepth 100000
set_option maxHeartbeats 4000000
namespace DL
open PySem PySem.Spec PyProof.Rows L2
end DL
set_option Elab.async false
set_option linter.all false
set_option maxRecDepth 100000
set_option maxHeartbeats 4000000
namespace DL
open PySem PySem.Spec PyProof.Rows L2
end DL
set_option Elab.async false
set_option linter.all false
set_option maxRecDepth 100000
set_option maxHeartbeats 4000000
namespace DL
open PySem PySem.Spec PyProof.Rows L2
section
variable {X : Cx} {K : PySem.W.Frag} {pos : Pos}
@[simp] def eDispO (tk tv : EE) : EE := fun s G Q => tk s G fun a G1 => tv s G1 fun b G2 => match keyD a with
  | some k => ∀ p, G2 p = none → Q (.ref p) (gput G2 p (.dct [k] [b]))
  | none => False
end
end DL
set_option Elab.async false
set_option linter.all false
set_option maxRecDepth 100000
set_option maxHeartbeats 4000000
namespace DL
open PySem PySem.Spec PyProof.Rows L2
@[simp] def sIfCX (r : OD) (tx : EX) (tb : EE) (t u : ES) : ES := fun N s G => tx s G (fun x G1 => tb s G1 fun y G2 => r x y G2 fun d G3 => match d with
  | .bl b => if b = true then t N s G3 else u N s G3
  | _ => False) fun x G1 => N.xr x s G1
end DL
set_option Elab.async false
set_option linter.all false
set_option maxRecDepth 100000
set_option maxHeartbeats 4000000
namespace PySem.SrtZ
open PySem PySem.Calls PyProof.Rows PySem.W
theorem zip_no_len : typeLookup (.type "zip") "__len__" = pure none := by rw [typeLookup_type, builtinLookup_eq_fast]; kernel_rfl
theorem zip_no_hint : typeLookup (.type "zip") "__length_hint__" = pure none := by rw [typeLookup_type, builtinLookup_eq_fast]; kernel_rfl
/-- the tuples acc are made, at B or above; what stood in h0 stands -/
structure Out (h0 h : Heap) (B : Nat) (xs ys : Array Value) (acc : List Addr) : Prop where
  pr : ∀ (j : Nat) (T : Addr), acc[j]? = some T → ∃ x y, xs[j]? = some x ∧ ys[j]? = some y ∧ IsPair h T x y
  up : acc.Pairwise (· < ·)
  ge : ∀ T ∈ acc, B ≤ T
  kp : ∀ c o, h0.get? c = some o → h.get? c = some o
def IsAcc (h : Heap) (S : Addr) (acc : List Addr) : Prop := ∃ c, h.get? S = some { cls := .type "list", dict := none, data := .seq (acc.map Value.ref).toArray c, slots := #[] }
structure Lp (h0 h : Heap) (B : Nat) (z TI TO i1 i2 l1 l2 S : Addr) (xs ys : Array Value) (acc : List Addr) : Prop where
  out : Out h0 h B xs ys acc
  sq : IsAcc h S acc
  zp : (IsZip h z TI TO .none ∧ ∃ a b, IsPair h TO a b) ∨ ∃ T f oT, IsZipHeld h z TI TO T f ∧ h.get? T = some oT ∧ B ≤ T
  ti : IsPair h TI (.ref i1) (.ref i2)
  it1 : h.IsListIter i1 l1 acc.length
  it2 : h.IsListIter i2 l2 acc.length
  la : h.IsList l1 xs
  lb : h.IsList l2 ys
  bs : B ≤ h.objs.size
structure Ap (h0 : Heap) (B : Nat) (z TI TO i1 i2 S : Addr) : Prop where
  gz : h0.objs.size ≤ z ∧ z < S
  gTI : h0.objs.size ≤ TI ∧ TI < S
  gTO : h0.objs.size ≤ TO ∧ TO < S
  g1 : h0.objs.size ≤ i1 ∧ i1 < S
  g2 : h0.objs.size ≤ i2 ∧ i2 < S
  SB : S < B
section
variable {prog : Program} {w : World} {A : Around} {s : Shared} {h0 : Heap} {B : Nat} {z TI TO i1 i2 l1 l2 S : Addr} {xs ys : Array Value}
theorem old_lt {h : Heap} {c : Addr} {o : Obj} (e : h.get? c = some o) {a : Addr} (g : h.objs.size ≤ a) : c ≠ a := fun q => absurd (Nat.lt_of_lt_of_le (Heap.lt_size e) g) (by rw [q]; exact Nat.lt_irrefl _)
theorem Ap.ne (p : Ap h0 B z TI TO i1 i2 S) {T : Addr} (h : B ≤ T) : T ≠ z ∧ T ≠ TO ∧ T ≠ i1 ∧ T ≠ i2 ∧ T ≠ S ∧ T ≠ TI := by
  have q : ∀ {a : Addr}, a < S → T ≠ a := fun ha => Nat.ne_of_gt (Nat.lt_of_lt_of_le (Nat.lt_trans ha p.SB) h)
  exact ⟨q p.gz.2, q p.gTO.2, q p.g1.2, q p.g2.2, Nat.ne_of_gt (Nat.lt_of_lt_of_le p.SB h), q p.gTI.2⟩
theorem Ap.neS (p : Ap h0 B z TI TO i1 i2 S) : S ≠ z ∧ S ≠ TO ∧ S ≠ i1 ∧ S ≠ i2 ∧ S ≠ TI :=
  ⟨Nat.ne_of_gt p.gz.2, Nat.ne_of_gt p.gTO.2, Nat.ne_of_gt p.g1.2, Nat.ne_of_gt p.g2.2, Nat.ne_of_gt p.gTI.2⟩
theorem Ap.old (p : Ap h0 B z TI TO i1 i2 S) {l : Addr} (h : l < h0.objs.size) : l ≠ z ∧ l ≠ TO ∧ l ≠ i1 ∧ l ≠ i2 ∧ l ≠ S := by
  have q : ∀ {a : Addr}, h0.objs.size ≤ a → l ≠ a := fun ha => Nat.ne_of_lt (Nat.lt_of_lt_of_le h ha)
  exact ⟨q p.gz.1, q p.gTO.1, q p.g1.1, q p.g2.1, q (Nat.le_of_lt (Nat.lt_of_le_of_lt p.gz.1 p.gz.2))⟩
/-- a step of the zip keeps what is made -/
theorem Out.next {h h' : Heap} {acc : List Addr} (L : Out h0 h B xs ys acc) (p : Ap h0 B z TI TO i1 i2 S) (k : ∀ c o, c ≠ z → c ≠ TO → c ≠ i1 → c ≠ i2 → h.get? c = some o → h'.get? c = some o) : Out h0 h' B xs ys acc where
  pr := fun j T e => let ⟨x, y, a, b, q⟩ := L.pr j T e; let m := p.ne (L.ge T (List.mem_of_getElem? e)); ⟨x, y, a, b, k _ _ m.1 m.2.1 m.2.2.1 m.2.2.2.1 q⟩
  up := L.up
  ge := L.ge
  kp := fun c o e => k c o (old_lt e p.gz.1) (old_lt e p.gTO.1) (old_lt e p.g1.1) (old_lt e p.g2.1) (L.kp c o e)
theorem Out.snoc {h : Heap} {acc : List Addr} {T : Addr} {x y : Value} (L : Out h0 h B xs ys acc) (hb : B ≤ T) (hup : ∀ c ∈ acc, c < T) (e : IsPair h T x y) (ex : xs[acc.length]? = some x) (ey : ys[acc.length]? = some y) : Out h0 h B xs ys (acc ++ [T]) where
  pr := fun j U q => by
    rw [List.getElem?_append] at q
    split at q
    · exact L.pr j U q
    · rename_i hj
      have h1 : j - acc.length = 0 := by
        rcases Nat.eq_zero_or_pos (j - acc.length) with h | h
        · exact h
        · rw [List.getElem?_eq_none (by simp; omega)] at q; cases q
      have h2 : j = acc.length := by omega
      rw [h1] at q; cases q; subst h2
      exact ⟨x, y, ex, ey, e⟩
  up := List.pairwise_append.mpr ⟨L.up, by simp, fun a ha b hb => by rw [List.mem_singleton.mp hb]; exact hup a ha⟩
  ge := fun U m => (List.mem_append.mp m).elim (L.ge U) fun q => by rw [List.mem_singleton.mp q]; exact hb
  kp := L.kp
/-- an update at the list S -/
theorem Out.updS {h : Heap} {acc : List Addr} (L : Out h0 h B xs ys acc) (p : Ap h0 B z TI TO i1 i2 S) (f : Obj → Obj) : Out h0 (h.update S f) B xs ys acc where
  pr := fun j T e => let ⟨x, y, a, b, q⟩ := L.pr j T e; ⟨x, y, a, b, (Heap.get?_update_other _ _ (Ne.symm (p.ne (L.ge T (List.mem_of_getElem? e))).2.2.2.2.1)).trans q⟩
  up := L.up
  ge := L.ge
  kp := fun c o e => (Heap.get?_update_other _ _ (Ne.symm (old_lt e (Nat.le_of_lt (Nat.lt_of_le_of_lt p.gz.1 p.gz.2))))).trans (L.kp c o e)
theorem zip_loop (hh : A.in1.handled = none) (D : ZipApart z TI TO i1 i2 l1 l2) (p : Ap h0 B z TI TO i1 i2 S) (hn : min xs.size ys.size ≤ sizeLine) (hl1 : l1 < h0.objs.size) (hl2 : l2 < h0.objs.size) (res : Value) {R : Result → Shared → Prop}
    (hR : ∀ h' acc, acc.length = min xs.size ys.size → Out h0 h' B xs ys acc → IsAcc h' S acc → R (.ok (.ret res)) { s with heap := h' }) :
    ∀ (k : Nat) (h : Heap) (acc : List Addr), min xs.size ys.size - acc.length = k → acc.length ≤ min xs.size ys.size → Lp h0 h B z TI TO i1 i2 l1 l2 S xs ys acc →
      codeAny (model prog w) A (.builtin "list.extend.loop" ⟨[.ref S, .ref z, res], []⟩) R { s with heap := h } := by
  intro k
  induction k with
  | zero =>
    intro h acc hk hi L
    have hin : acc.length = min xs.size ys.size := by omega
    refine codeAny_builtin F.entry_extend_loop ?_
    rw [Around.under_plainId F.plain_extend_loop _]
    show wpAny _ A.in1 (pyNext (.ref z) >>= _) _ _ { s with heap := h }
    have hend : xs[acc.length]? = none ∨ ys[acc.length]? = none := by
      rw [Array.getElem?_eq_none_iff, Array.getElem?_eq_none_iff]
      rcases Nat.le_total xs.size ys.size with q | q
      · exact .inl (by rw [hin, Nat.min_eq_left q]; exact Nat.le_refl _)
      · exact .inr (by rw [hin, Nat.min_eq_right q]; exact Nat.le_refl _)
    refine wpAny_bind ?_
    have fin : ∀ h', (∀ c o, c ≠ z → c ≠ TO → c ≠ i1 → c ≠ i2 → h.get? c = some o → h'.get? c = some o) → R (.ok (.ret res)) { s with heap := h' } := fun h' kk =>
      hR h' acc hin (L.out.next p kk) (let ⟨c, e⟩ := L.sq; ⟨c, kk _ _ p.neS.1 p.neS.2.1 p.neS.2.2.1 p.neS.2.2.2.1 e⟩)
    rcases L.zp with ⟨hz, a, b, hTO⟩ | ⟨T, f, oT, hz, hT, hB⟩
    · exact wpAny_pyNext_zip_end (s := { s with heap := h }) hh D hz L.ti hTO L.it1 L.it2 L.la L.lb hend fun h' kk => wpAny_pure (fin h' kk)
    · exact wpAny_pyNext_zip_end_held (s := { s with heap := h }) hh D hz hT L.ti L.it1 L.it2 L.la L.lb hend fun h' kk => wpAny_pure (fin h' fun c o c1 _ c3 c4 e => kk c o c1 c3 c4 e)
  | succ k ih =>
    intro h acc hk hi L
    have hlt : acc.length < min xs.size ys.size := by omega
    refine codeAny_builtin F.entry_extend_loop ?_
    rw [Around.under_plainId F.plain_extend_loop _]
    show wpAny _ A.in1 (pyNext (.ref z) >>= _) _ _ { s with heap := h }
    obtain ⟨x, hx⟩ : ∃ x, xs[acc.length]? = some x := ⟨_, Array.getElem?_eq_getElem (by omega)⟩
    obtain ⟨y, hy⟩ : ∃ y, ys[acc.length]? = some y := ⟨_, Array.getElem?_eq_getElem (by omega)⟩
    have hnT : ∀ T ∈ acc, T < h.objs.size := fun T m => by
      obtain ⟨j, hj⟩ := List.getElem?_of_mem m
      obtain ⟨_, _, _, _, q⟩ := L.out.pr j T hj
      exact Heap.lt_size q
    have key : ∀ (Q : Option Value → Shared → Prop) (E : Value → Shared → Prop), (∀ h', (∃ T f oT, IsZipHeld h' z TI TO T f ∧ h'.get? T = some oT ∧ B ≤ T) → h'.IsListIter i1 l1 (acc.length + 1) → h'.IsListIter i2 l2 (acc.length + 1) → IsPair h' h.objs.size x y → h'.objs.size = h.objs.size + 1 →
        (∀ c o, c ≠ z → c ≠ TO → c ≠ i1 → c ≠ i2 → h.get? c = some o → h'.get? c = some o) → Q (some (.ref h.objs.size)) { s with heap := h' }) → wpAny (model prog w) A.in1 (pyNext (.ref z)) Q E { s with heap := h } := by
      intro Q E hQ
      rcases L.zp with ⟨hz, a, b, hTO⟩ | ⟨T, f, oT, hz, hT, hB⟩
      · exact wpAny_pyNext_zip_item (s := { s with heap := h }) D hz L.ti hTO L.it1 L.it2 L.la L.lb hx hy fun h' a1 a2 a3 a4 a5 a6 a7 => hQ h' ⟨_, false, _, a1, a5, L.bs⟩ a3 a4 a5 a6 a7
      · exact wpAny_pyNext_zip_item_held (s := { s with heap := h }) D hz hT L.ti L.it1 L.it2 L.la L.lb hx hy fun h' a1 a3 a4 a5 a6 a7 => hQ h' ⟨_, true, _, a1, a7 _ _ (p.ne hB).1 (p.ne hB).2.2.1 (p.ne hB).2.2.2.1 hT, hB⟩ a3 a4 a5 a6 fun c o c1 _ c3 c4 e => a7 c o c1 c3 c4 e
    refine wpAny_bind (key _ _ fun h' hz' hi1 hi2 hp hsz kk => ?_)
    obtain ⟨c, hS⟩ := L.sq
    have hS' := kk S _ p.neS.1 p.neS.2.1 p.neS.2.2.1 p.neS.2.2.2.1 hS
    show wpAny _ A.in1 (updateSeq S (·.push (.ref h.objs.size)) >>= _) _ _ _
    refine wpAny_bind ?_
    refine wpAny_updateSeq (s := { s with heap := h' }) hS' rfl (wpAny_pure ⟨plainId_quiet F.plain_extend_loop _, ?_⟩)
      (by simp only [List.size_toArray, List.length_map]; omega) (by simp only [Array.size_push, List.size_toArray, List.length_map]; omega)
    refine ih (h'.update S (Obj.mapSeq (·.push (.ref h.objs.size)))) (acc ++ [h.objs.size]) (by simp; omega) (by simp; omega) ?_
    have oth : ∀ b o, b ≠ S → h'.get? b = some o → (h'.update S (Obj.mapSeq (·.push (.ref h.objs.size)))).get? b = some o := fun b o q e => (Heap.get?_update_other _ _ (Ne.symm q)).trans e
    obtain ⟨T, f, oT, hzh, hT, hBT⟩ := hz'
    have nS := p.neS
    have eS := Heap.get?_update_self (Obj.mapSeq (·.push (Value.ref h.objs.size))) hS' rfl
    refine ⟨?_, ⟨_, (eS : _ = _).trans (congrArg some (by rw [List.map_append]; simp only [Obj.mapSeq, List.push_toArray]; rfl))⟩, ?_, ?_, ?_, ?_, ?_, ?_, ?_⟩
    · exact ((L.out.next p kk).snoc L.bs hnT hp hx hy).updS p _
    · exact .inr ⟨T, f, oT, oth _ _ (Ne.symm nS.1) hzh, oth _ _ (p.ne hBT).2.2.2.2.1 hT, hBT⟩
    · exact oth _ _ (Ne.symm nS.2.2.2.2) (kk _ _ D.TIz D.TITO D.TIi1 D.TIi2 L.ti)
    · rw [List.length_append]; exact hi1.at fun o e => oth _ o (Ne.symm nS.2.2.1) e
    · rw [List.length_append]; exact hi2.at fun o e => oth _ o (Ne.symm nS.2.2.2.1) e
    · exact L.la.at fun o e => oth _ o (p.old hl1).2.2.2.2 (kk _ _ (p.old hl1).1 (p.old hl1).2.1 (p.old hl1).2.2.1 (p.old hl1).2.2.2.1 e)
    · exact L.lb.at fun o e => oth _ o (p.old hl2).2.2.2.2 (kk _ _ (p.old hl2).1 (p.old hl2).2.1 (p.old hl2).2.2.1 (p.old hl2).2.2.2.1 e)
    · rw [Heap.size_update]; have := L.bs; omega
/-- what a zip over two lists is, when it is made -/
structure ZipNew (h0 h : Heap) (z TI TO i1 i2 l1 l2 : Addr) : Prop where
  zp : IsZip h z TI TO .none
  ti : IsPair h TI (.ref i1) (.ref i2)
  to_ : IsPair h TO .none .none
  it1 : h.IsListIter i1 l1 0
  it2 : h.IsListIter i2 l2 0
  kp : ∀ c o, h0.get? c = some o → h.get? c = some o
  gz : h0.objs.size ≤ z ∧ z < h.objs.size
  gTI : h0.objs.size ≤ TI ∧ TI < h.objs.size
  gTO : h0.objs.size ≤ TO ∧ TO < h.objs.size
  g1 : h0.objs.size ≤ i1 ∧ i1 < h.objs.size
  g2 : h0.objs.size ≤ i2 ∧ i2 < h.objs.size
theorem wpAny_collect_zip {E : Value → Shared → Prop} {Q : List Value → Shared → Prop} (hh : A.in1.handled = none) (D : ZipApart z TI TO i1 i2 l1 l2) (N : ZipNew h0 s.heap z TI TO i1 i2 l1 l2) (hla : h0.IsList l1 xs) (hlb : h0.IsList l2 ys) (hn : min xs.size ys.size ≤ sizeLine)
    (hQ : ∀ h' acc, acc.length = min xs.size ys.size → Out h0 h' (s.heap.objs.size + 1) xs ys acc → s.heap.objs.size < h'.objs.size → Q (acc.map Value.ref) { s with heap := h' }) : wpAny (model prog w) A (collect (.ref z)) Q E s := by
  have hl1 : l1 < h0.objs.size := let ⟨_, e, _⟩ := hla; Heap.lt_size e
  have hl2 : l2 < h0.objs.size := let ⟨_, e, _⟩ := hlb; Heap.lt_size e
  unfold collect
  refine wpAny_bind (wpAny_runValue (codeAny_builtin F.entry_proto_collect ?_))
  rw [Around.under_plainId F.plain_proto_collect _]
  show wpAny _ A.in1 (newList [] >>= fun l => again (.builtin "list.__iadd__" ⟨[l, .ref z], []⟩)) _ _ s
  refine wpAny_bind (wpAny_newObj_type ?_)
  refine wpAny_pure ⟨plainId_quiet F.plain_list_iadd _, codeAny_builtin F.entry_list_iadd ?_⟩
  rw [Around.under_plainId F.plain_list_iadd _]
  show wpAny _ A.in1 (Builtin.List.listExtendWith (.ref s.heap.objs.size) (.ref z) (.ref s.heap.objs.size)) _ _ _
  unfold Builtin.List.listExtendWith
  have up1 : ∀ c o, s.heap.get? c = some o → (s.heap.push { cls := .type "list", data := .seq ([] : List Value).toArray }).get? c = some o := fun c o e => Heap.get?_push_of_some _ e
  have hT : (({ s with heap := s.heap.push { cls := .type "list", data := .seq ([] : List Value).toArray } } : Shared)).TypeIs (.ref z) "zip" := ⟨_, up1 _ _ N.zp, rfl⟩
  refine wpAny_bind (wpAny_typeOf hT ?_)
  have h1 : Builtin.List.listSameRef (.ref s.heap.objs.size) (.ref z) = false := by simp [Builtin.List.listSameRef, Nat.ne_of_gt N.gz.2]
  have h2 : (Value.type "zip" == Value.type "list") = false := by decide
  have h3 : (Value.type "zip" == Value.type "tuple") = false := by decide
  simp only [h1, h2, h3, Bool.or_false, Bool.false_eq_true, if_false]
  refine wpAny_bind (wpAny_pyIter_zip (up1 _ _ N.zp) ?_)
  refine wpAny_bind (wpAny_holding ?_)
  unfold Builtin.List.listLengthHint
  refine wpAny_bind (wpAny_specialOf hT zip_no_len ?_)
  show wpAny _ A.in1 (specialOf (Value.ref z) (Str.ofString "__length_hint__") >>= _) _ _ _
  refine wpAny_bind (wpAny_specialOf hT zip_no_hint ?_)
  refine wpAny_pure ?_
  show wpAny _ A.in1 (rule "list.extend.makes-room" >>= fun _ => Builtin.List.listTouch (.ref s.heap.objs.size) >>= fun _ =>
    again (.builtin "list.extend.loop" ⟨[.ref s.heap.objs.size, .ref z, .ref s.heap.objs.size], []⟩)) _ _ _
  refine wpAny_bind (wpAny_rule ?_)
  have hS₁ : (s.heap.push { cls := .type "list", data := .seq ([] : List Value).toArray }).get? s.heap.objs.size = some { cls := .type "list", data := .seq ([] : List Value).toArray } := Heap.get?_push_size _ rfl
  refine wpAny_bind ?_
  show wpAny _ A.in1 (updateSeq s.heap.objs.size (·.push .none) >>= fun _ => updateSeq s.heap.objs.size (·.pop)) _ _ _
  refine wpAny_bind (wpAny_updateSeq hS₁ rfl ?_)
  have hS₂ := Heap.get?_update_self (Obj.mapSeq (·.push Value.none)) hS₁ rfl
  refine wpAny_updateSeq hS₂ rfl ?_
  have hS₃ := Heap.get?_update_self (Obj.mapSeq (·.pop)) hS₂ rfl
  have oth : ∀ b o, b ≠ s.heap.objs.size → (s.heap.push { cls := .type "list", data := .seq ([] : List Value).toArray }).get? b = some o →
      (((s.heap.push { cls := .type "list", data := .seq ([] : List Value).toArray }).update s.heap.objs.size (Obj.mapSeq (·.push Value.none))).update s.heap.objs.size (Obj.mapSeq (·.pop))).get? b = some o :=
    fun b o hb e => (Heap.get?_update_other _ _ (Ne.symm hb)).trans ((Heap.get?_update_other _ _ (Ne.symm hb)).trans e)
  have up : ∀ c o, s.heap.get? c = some o → (((s.heap.push { cls := .type "list", data := .seq ([] : List Value).toArray }).update s.heap.objs.size (Obj.mapSeq (·.push Value.none))).update s.heap.objs.size (Obj.mapSeq (·.pop))).get? c = some o :=
    fun c o e => oth c o (Nat.ne_of_lt (Heap.lt_size e)) (up1 c o e)
  have p : Ap h0 (s.heap.objs.size + 1) z TI TO i1 i2 s.heap.objs.size := ⟨N.gz, N.gTI, N.gTO, N.g1, N.g2, Nat.lt_succ_self _⟩
  refine wpAny_pure ⟨plainId_quiet F.plain_extend_loop _, zip_loop (s := s) hh D p hn hl1 hl2 _ ?_ _ _ [] rfl (Nat.zero_le _) ?_⟩
  · intro h' acc hl o ⟨c, hS⟩
    show wpAny _ A (load s.heap.objs.size >>= _) _ _ { s with heap := h' }
    refine wpAny_bind (wpAny_load hS ?_)
    exact wpAny_pure (by simpa using hQ h' acc hl o (Heap.lt_size hS))
  · exact ⟨⟨fun j T e => (by simp at e), List.Pairwise.nil, (fun T m => nomatch m), fun c o e => up c o (N.kp c o e)⟩, ⟨_, hS₃⟩, .inl ⟨up _ _ N.zp, _, _, up _ _ N.to_⟩, up _ _ N.ti, N.it1.at fun o e => up _ o e, N.it2.at fun o e => up _ o e, hla.at fun o e => up _ o (N.kp _ o e), hlb.at fun o e => up _ o (N.kp _ o e), by rw [Heap.size_update, Heap.size_update, Heap.size_push]; exact Nat.le_refl _⟩
/-- pairs by their first, then by their second -/
def leP (p q : Int × Int) : Bool := decide (p.1 < q.1 ∨ (p.1 = q.1 ∧ p.2 ≤ q.2))
abbrev Ent := Addr × (Int × Int)
abbrev encE (z : Ent) : PyData := .tuple [.int z.2.1, .int z.2.2]
theorem leE : dataLe false encE = fun a b => leP a.2 b.2 := dataLe_ii (fun z : Ent => z.2.1) (fun z : Ent => z.2.2)
theorem each_of : ∀ {as : List Addr} {ns : List (Int × Int)} {h : Heap}, (∀ (j : Nat) (T : Addr), as[j]? = some T → ∃ m q, ns[j]? = some (m, q) ∧ ∃ t u, IsPair h T (.int m t) (.int q u)) → as.length = ns.length →
    EachIs (fun (v : Value) (z : Ent) => v = .ref z.1 ∧ ∃ t u, IsPair h z.1 (.int z.2.1 t) (.int z.2.2 u)) (as.map Value.ref) (as.zip ns) ∧ EachIs (fun (v : Value) (z : Ent) => ∃ l, Reads h v (encE z) l) (as.map Value.ref) (as.zip ns)
  | [], [], _, _, _ => ⟨.nil, .nil⟩
  | a :: as, n :: ns, h, hp, hl => by
    obtain ⟨e1, e2⟩ := each_of (as := as) (ns := ns) (h := h) (fun j T e => by have := hp (j + 1) T (by simpa using e); simpa using this) (by simpa using hl)
    obtain ⟨m, q, e, t, u, hP⟩ := hp 0 a rfl
    have e' : n = (m, q) := by simpa using e
    subst e'
    have hR : ReadsAll h [Value.int m t, Value.int q u] [.int m, .int q] [] := ReadsAll.cons (as := []) (.int _ _) (ReadsAll.cons (as := []) (.int _ _) .nil)
    exact ⟨.cons ⟨rfl, t, u, hP⟩ e1, .cons ⟨[], Reads.tuple (as := []) hP rfl rfl hR⟩ e2⟩
  | [], _ :: _, _, _, hl => by simp at hl
  | _ :: _, [], _, _, hl => by simp at hl
theorem each_right {α β : Type} {R : α → β → Prop} : ∀ {xs : List α} {ys : List β}, EachIs R xs ys → ∀ y ∈ ys, ∃ x, R x y
  | _, _, .cons h t, y, m => (List.mem_cons.mp m).elim (fun e => ⟨_, e ▸ h⟩) (each_right t y)
theorem each_eq {R : Ent → Prop} : ∀ {out : List Value} {l : List Ent}, EachIs (fun v z => v = Value.ref z.1 ∧ R z) out l → out = l.map fun z => Value.ref z.1
  | _, _, .nil => rfl
  | _, _, .cons h t => by rw [List.map_cons, ← each_eq t, ← h.1]
theorem vals_int {ns : List Int} {its : List Value} (r : L2.Vals (ns.map L2.V.int) its) {j : Nat} {v : Value} (e : its[j]? = some v) : ∃ n t, ns[j]? = some n ∧ v = .int n t := by
  have hl := r.length
  have hj : j < ns.length := by
    have := (List.getElem?_eq_some_iff.mp e).1
    rw [List.length_map] at hl
    omega
  obtain ⟨u, hu, ru⟩ := r.get (i := j) (x := .int ns[j]) (by rw [List.getElem?_map, List.getElem?_eq_getElem hj]; rfl)
  rw [e] at hu; cases hu
  obtain ⟨t, rfl⟩ := ru
  exact ⟨_, t, List.getElem?_eq_getElem hj, rfl⟩
theorem sorted_zip {E : Value → Shared → Prop} {Q : Value → Shared → Prop} {ms qs : List Int} {its its2 : List Value} (hh : A.in1.in1.handled = none) (hu : A.units + 64 < cLine) (D : ZipApart z TI TO i1 i2 l1 l2) (N : ZipNew h0 s.heap z TI TO i1 i2 l1 l2)
    (hla : h0.IsList l1 its.toArray) (hlb : h0.IsList l2 its2.toArray) (r1 : L2.Vals (ms.map L2.V.int) its) (r2 : L2.Vals (qs.map L2.V.int) its2) (hn : min ms.length qs.length ≤ sizeLine)
    (hQ : ∀ h' r (bs : List Ent), bs.map (·.2) = (ms.zip qs).mergeSort leP → (bs.map (·.1)).Nodup → h0.objs.size ≤ r → r ∉ bs.map (·.1) → (∃ c, h'.get? r = some (seqObj "list" (bs.map fun z => Value.ref z.1).toArray c)) →
      (∀ b ∈ bs, h0.objs.size ≤ b.1 ∧ ∃ t u, IsPair h' b.1 (.int b.2.1 t) (.int b.2.2 u)) → (∀ c o, h0.get? c = some o → h'.get? c = some o) → Q (.ref r) { s with heap := h' }) : wpAny (model prog w) A (call (.builtin "sorted") [.ref z]) Q E s := by
  have hz1 : its.toArray.size = ms.length := by rw [List.size_toArray, ← r1.length, List.length_map]
  have hz2 : its2.toArray.size = qs.length := by rw [List.size_toArray, ← r2.length, List.length_map]
  refine call_function_entry_kw kind_sorted plain_sorted entry_sorted (args_sorted1 _) ?_
  unfold Builtin.«sorted»
  refine wpAny_bind (m := checkCount "sorted" 1 1 _) (wpAny_pure ?_)
  refine wpAny_bind (wpAny_collect_zip hh D N hla hlb (by rw [hz1, hz2]; exact hn) fun h' acc hl o hsz => ?_)
  rw [hz1, hz2] at hl
  have hln : acc.length = (ms.zip qs).length := by rw [List.length_zip, hl]
  obtain ⟨e1, e2⟩ := each_of (as := acc) (ns := ms.zip qs) (h := h') (fun j T e => by
    obtain ⟨x, y, ex, ey, q⟩ := o.pr j T e
    rw [List.getElem?_toArray] at ex ey
    obtain ⟨m, t, em, rfl⟩ := vals_int r1 ex
    obtain ⟨n, u, en, rfl⟩ := vals_int r2 ey
    exact ⟨m, n, List.getElem?_zip_eq_some.mpr ⟨em, en⟩, t, u, q⟩) hln
  have hvl : (acc.map Value.ref).length ≤ sizeLine := by rw [List.length_map, hl]; exact hn
  refine wpAny_bind (wpAny_newList ?_ hvl)
  show wpAny _ _ _ _ _ { s with heap := h'.push (seqObj "list" (acc.map Value.ref).toArray 0) }
  have ho : (h'.push (seqObj "list" (acc.map Value.ref).toArray 0)).get? h'.objs.size = some (seqObj "list" (acc.map Value.ref).toArray 0) := Heap.get?_push_size _ rfl
  refine wpAny_bind (wpAny_holding (wpAny_call_entry_kw slot_list_sort ⟨_, ho, rfl⟩ entry_list_sort ?body (args_list_sort _)))
  case body =>
    have upp : ∀ c o, h'.get? c = some o → (h'.push (seqObj "list" (acc.map Value.ref).toArray 0)).get? c = some o := fun c o e => Heap.get?_push_of_some _ e
    have er : EachIs (fun (v : Value) (z : Ent) => ∃ l, Reads (sortingHeap (h'.push (seqObj "list" (acc.map Value.ref).toArray 0)) h'.objs.size (acc.map Value.ref)) v (encE z) l) (acc.map Value.ref) (acc.zip (ms.zip qs)) :=
      e2.mono fun _ _ ⟨as, r⟩ => ⟨as, PyProof.Rows.Reads.keeps (fun b o e => sortingHeap_old (Nat.ne_of_lt (Heap.lt_size e)) (upp b o e)) r⟩
    have hal : AllAlike ((acc.zip (ms.zip qs)).map encE) := AllAlike.of fun b b' => by simp [alike, alikeAll]
    have hk : Sortable ((acc.zip (ms.zip qs)).map encE) := Sortable.tuples fun b => ⟨_, _, rfl⟩
    refine list_sort_vals (s := { s with heap := h'.push (seqObj "list" (acc.map Value.ref).toArray 0) }) (κ := dataKind (sortingHeap (h'.push (seqObj "list" (acc.map Value.ref).toArray 0)) h'.objs.size (acc.map Value.ref)) ((acc.zip (ms.zip qs)).map encE)) ho
      (SortsAt.data (s := { s with heap := sortingHeap (h'.push (seqObj "list" (acc.map Value.ref).toArray 0)) h'.objs.size (acc.map Value.ref) }) (each_map (R := fun v d => ∃ as, Reads (sortingHeap (h'.push (seqObj "list" (acc.map Value.ref).toArray 0)) h'.objs.size (acc.map Value.ref)) v d as) encE er) hal hk ?_) hvl ?_
    · intro d hd
      obtain ⟨b, _, rfl⟩ := List.mem_map.mp hd
      have : (encE b).depth ≤ 1 := by simp [encE, PyData.depth, PyData.depthAll]
      have e : A.in1.in1.units = A.units + 2 := rfl
      rw [e]; omega
    · refine ⟨_, rfl, wpAny_pure ⟨_, rfl, ?_⟩⟩
      have es := sortVals_data false e1 er hal
      rw [leE] at es
      generalize hout : sortVals _ false _ _ = out at es ⊢
      have hpm : ((acc.zip (ms.zip qs)).mergeSort fun a b => leP a.2 b.2).Perm (acc.zip (ms.zip qs)) := List.mergeSort_perm _ _
      have hfst : (acc.zip (ms.zip qs)).map (·.1) = acc := List.map_fst_zip (by rw [hln]; exact Nat.le_refl _)
      have hsnd : (acc.zip (ms.zip qs)).map (·.2) = ms.zip qs := List.map_snd_zip (by rw [hln]; exact Nat.le_refl _)
      have hpf : (((acc.zip (ms.zip qs)).mergeSort fun a b => leP a.2 b.2).map (·.1)).Perm acc := by have := hpm.map (fun z : Ent => z.1); rw [hfst] at this; exact this
      have hlt : ∀ T ∈ acc, T < h'.objs.size := fun T m => by
        obtain ⟨j, hj⟩ := List.getElem?_of_mem m
        obtain ⟨_, _, _, _, q⟩ := o.pr j T hj
        exact Heap.lt_size q
      have hge : ∀ T ∈ acc, h0.objs.size ≤ T := fun T m => Nat.le_trans (Nat.le_of_lt (Nat.lt_of_le_of_lt N.gz.1 N.gz.2)) (Nat.le_trans (Nat.le_succ _) (o.ge T m))
      have old : ∀ b u, h'.get? b = some u → (sortedHeap (h'.push (seqObj "list" (acc.map Value.ref).toArray 0)) h'.objs.size (acc.map Value.ref) out.toArray).get? b = some u := fun b u e => by
        rw [sortedHeap_old (Nat.ne_of_lt (Heap.lt_size e)) (by rw [Heap.size_push]; exact Nat.lt_succ_of_lt (Heap.lt_size e))]
        exact upp b u e
      refine hQ _ _ ((acc.zip (ms.zip qs)).mergeSort fun a b => leP a.2 b.2) ?_ ?_ ?_ ?_ ?_ ?_ fun c u e => old c u (o.kp c u e)
      · have := DL.merge_map (f := fun z : Ent => z.2) (le := leP) (acc.zip (ms.zip qs))
        rw [this, hsnd]
      · exact hpf.nodup_iff.mpr (o.up.imp fun q => Nat.ne_of_lt q)
      · exact Nat.le_trans (Nat.le_of_lt (Nat.lt_of_le_of_lt N.gz.1 N.gz.2)) (Nat.le_of_lt hsz)
      · exact fun m => absurd (hlt _ (hpf.mem_iff.mp m)) (Nat.lt_irrefl _)
      · obtain ⟨c, e⟩ := sortedHeap_at (out := out.toArray) ho
        refine ⟨c, e.trans ?_⟩
        have : out = ((acc.zip (ms.zip qs)).mergeSort fun a b => leP a.2 b.2).map fun z => Value.ref z.1 := each_eq es
        rw [this]
      · intro b hb
        have hb' := hpm.mem_iff.mp hb
        have hba : b.1 ∈ acc := (List.of_mem_zip hb').1
        obtain ⟨v, _, t, u, q⟩ := each_right e1 b hb'
        exact ⟨hge _ hba, t, u, old _ _ q⟩
end
end PySem.SrtZ
namespace L2
open PySem PySem.Spec PyProof.Rows PySem.W PySem.SrtZ
def layT (H : Hp) : List Ent → Hp
  | [] => H
  | z :: l => upd (layT H l) z.1 (.tup [.int z.2.1, .int z.2.2])
theorem layT_none {H : Hp} {a : Addr} : ∀ {l : List Ent}, a ∉ l.map (·.1) → layT H l a = H a
  | [], _ => rfl
  | z :: l, h => by
    rw [List.map_cons, List.mem_cons, not_or] at h
    show upd _ _ _ a = _
    rw [upd_ne h.1]
    exact layT_none h.2
theorem layT_at {H : Hp} : ∀ {l : List Ent}, (l.map (·.1)).Nodup → ∀ z ∈ l, layT H l z.1 = some (.tup [.int z.2.1, .int z.2.2])
  | z :: l, hn, y, hy => by
    rw [List.map_cons, List.nodup_cons] at hn
    show upd _ _ _ _ = _
    rcases List.mem_cons.mp hy with rfl | hy
    · exact upd_same
    · rw [upd_ne (fun e : y.1 = z.1 => hn.1 (List.mem_map.mpr ⟨y, hy, e⟩))]
      exact layT_at hn.2 y hy
/-- sorted(zip(xs, ys)) of ints: a new list of new pairs -/
def tSrtZ (K : PySem.W.Frag) (t : TA) : TE := fun σ H Q => t σ H fun vs H1 => ∃ (a b : Addr) (ms qs : List Int), vs = [.ref a, .ref b] ∧ SqL K H1 a (ms.map V.int) ∧ SqL K H1 b (qs.map V.int) ∧ min ms.length qs.length ≤ sizeLine ∧
  ∀ (bs : List Ent) (q : Addr) (H2 : Hp), bs.map (·.2) = (ms.zip qs).mergeSort leP → (∀ c o, H1 c = some o → H2 c = some o) → (∀ z ∈ bs, H1 z.1 = none ∧ H2 z.1 = some (.tup [.int z.2.1, .int z.2.2])) →
    H1 q = none → H2 q = some (.lst (bs.map fun z => V.ref z.1)) → Q (.ref q) H2
theorem vals_ents : ∀ {l : List Ent}, Vals (l.map fun z => V.ref z.1) (l.map fun z => Value.ref z.1)
  | [] => .nil
  | _ :: _ => .cons rfl vals_ents
section
variable {X : Cx}
theorem pe_srtZ {e e2 : Expr} {ta : TA} {p pos q qos : Pos} (hg : Gl X "sorted") (hm : X.mg "sorted" = none) (hg2 : Gl X "zip") (hm2 : X.mg "zip" = none) (ha : PA X [e, e2] ta) (hc : X.calm = true) (hu : X.A.units + 64 < cLine)
    (na : starEach [e, e2] X.env = (false, eval e X.env) :: starEach [e2] X.env := by rfl) (nl : (backTo qos (starEach [e2] X.env)).any (·.1) = false := by rfl)
    (nb : starEach [.Call (.Name "zip" q) [e, e2] [] qos] X.env = (false, eval (.Call (.Name "zip" q) [e, e2] [] qos) X.env) :: starEach [] X.env := by rfl) :
    PE X (.Call (.Name "sorted" p) [.Call (.Name "zip" q) [e, e2] [] qos] [] pos) (tSrtZ X.K ta) := by
  refine ⟨fun pins s σ H Q I h => ?_⟩
  refine wpAny_Call_Name_kw (ld_blt I hg hm (by decide +kernel : bootBuiltins "sorted" = some (.builtin "sorted")) ?_)
  refine PyProof.Rows.callWith_builtin1 ?_ nb
  rw [nb]
  show wpAny _ _ (spliced ((false, eval (.Call (.Name "zip" q) [e, e2] [] qos) X.env) :: [])) _ _ s
  refine Calls.spliced_cons ?_
  refine Call_ (ld_blt I hg2 hm2 PyProof.Rows.boot_zip (PyProof.Rows.callWith_type1 (thn (ha.run qos pins s σ H _ I h) fun us s1 ⟨vs, H1, I1, r1, q1⟩ => ?_) na nl))
  obtain ⟨a, b, ms, qs, ex, hqx, hqy, hz, q⟩ := q1
  subst ex
  cases r1 with
  | cons r rr =>
    cases rr with
    | cons r' rr =>
      cases rr
      cases r
      cases r'
      obtain ⟨its, rv, p1, _⟩ := I1.list hqx
      obtain ⟨its2, rv2, p2, _⟩ := I1.list hqy
      have la : a < s1.heap.objs.size := p1.lt
      have lb : b < s1.heap.objs.size := p2.lt
      refine call_zip_2 p1.isList p2.isList fun h' hz' hTI hTO h1 h2 hsz hk => Calls.spliced_nil ?_
      have N : ZipNew s1.heap h' (s1.heap.objs.size + 4) (s1.heap.objs.size + 2) (s1.heap.objs.size + 3) s1.heap.objs.size (s1.heap.objs.size + 1) a b :=
        ⟨hz', hTI, hTO, h1, h2, hk, ⟨Nat.le_add_right _ _, by rw [hsz]; exact Nat.lt_succ_self _⟩, ⟨Nat.le_add_right _ _, by rw [hsz]; exact Nat.add_lt_add_left (by decide) _⟩, ⟨Nat.le_add_right _ _, by rw [hsz]; exact Nat.add_lt_add_left (by decide) _⟩, ⟨Nat.le_refl _, by rw [hsz]; exact Nat.lt_add_of_pos_right (by decide)⟩, ⟨Nat.le_add_right _ _, by rw [hsz]; exact Nat.add_lt_add_left (by decide) _⟩⟩
      refine sorted_zip (s := { s1 with heap := h' }) (h0 := s1.heap) (show X.A.handled = none from I.ok.hd hc) hu (PySem.W.ktu_apart s1.heap.objs.size a b la lb) N p1.isList p2.isList rv rv2 hz ?_
      intro hf r bs e1 e2 e3 e4 e5 e6 e7
      have hfr : ∀ c, s1.heap.objs.size ≤ c → H1 c = none := fun c hc => I1.hok.fresh hc
      have hb : ∀ b ∈ bs, H1 b.1 = none := fun b hb => hfr _ (e6 b hb).1
      have hold : ∀ c o, H1 c = some o → upd (layT H1 bs) r (.lst (bs.map fun z => V.ref z.1)) c = some o := fun c o ec => by
        rw [upd_ne (ne_of_none ec (hfr r e3)), layT_none]
        · exact ec
        · intro m
          obtain ⟨z, hz, e⟩ := List.mem_map.mp m
          rw [← e, hb z hz] at ec; cases ec
      have hat : ∀ z ∈ bs, upd (layT H1 bs) r (.lst (bs.map fun z => V.ref z.1)) z.1 = some (.tup [.int z.2.1, .int z.2.2]) := fun z m => by
        rw [upd_ne (fun e : z.1 = r => e4 (List.mem_map.mpr ⟨z, m, e⟩))]
        exact layT_at e2 z m
      refine ⟨.ref r, upd (layT H1 bs) r (.lst (bs.map fun z => V.ref z.1)), ?_, rfl, q bs r _ e1 hold (fun z m => ⟨hb z m, hat z m⟩) (hfr r e3) upd_same⟩
      refine I1.un (t' := s1.toks) ⟨fun b u k _ _ _ => e7 b u k, fun b u k _ _ _ => ⟨u.slots, e7 b u k⟩, fun b u k n _ => ?_, fun b u k _ => ⟨u, e7 b u k⟩, fun b xs k => hold b _ k, fun b o u k => hold b _ k, fun b ps k => ⟨#[], by rw [hold b _ k]; simp⟩⟩ ?_
      · have hlt := Heap.lt_size k
        rw [upd_ne (Nat.ne_of_lt (Nat.lt_of_lt_of_le hlt e3)), layT_none]
        · exact n
        · intro m
          obtain ⟨z, hz, e⟩ := List.mem_map.mp m
          exact absurd (Nat.lt_of_lt_of_le hlt (e6 z hz).1) (by rw [← e]; exact Nat.lt_irrefl _)
      · intro c o ec
        by_cases hr : c = r
        · subst hr
          rw [upd_same] at ec; cases ec
          obtain ⟨n, e5⟩ := e5
          have hl : bs.length ≤ sizeLine := by
            have := congrArg List.length e1
            rw [List.length_map, List.length_mergeSort, List.length_zip] at this
            rw [this]; exact hz
          exact ⟨by rw [List.length_map]; exact hl, _, n, vals_ents, e5⟩
        · rw [upd_ne hr] at ec
          by_cases hm : c ∈ bs.map (·.1)
          · obtain ⟨z, hzm, rfl⟩ := List.mem_map.mp hm
            rw [layT_at e2 z hzm] at ec; cases ec
            obtain ⟨_, t, u, hp⟩ := e6 z hzm
            exact ⟨by simp [sizeLine], [.int z.2.1 t, .int z.2.2 u], .cons ⟨_, rfl⟩ (.cons ⟨_, rfl⟩ .nil), ⟨_, hp, rfl, _, rfl⟩⟩
          · rw [layT_none hm] at ec
            exact (I1.hok c o ec).stay (fun b u _ k => e7 b u k) (fun b k => hold b _ k) fun b xs k => hold b _ k
end
end L2
namespace DL
open PySem PySem.Spec PyProof.Rows L2 PySem.W PySem.SrtZ
def prD (p : Int × Int) : D := .tup [.int p.1, .int p.2]
/-- sorted(zip(xs, ys)), xs and ys ints -/
def eSrtZ (ea : EA) : EE := fun s G Q => ea s G fun xs G1 => match xs with
  | [x, y] => (match (lkL G1 x).bind intsD, (lkL G1 y).bind intsD with
    | some ms, some qs => Q (.lst (((ms.zip qs).mergeSort leP).map prD)) G1
    | _, _ => False)
  | _ => False
theorem reps_ents {K : PySem.W.Frag} {P : Addr → Prop} {G : Gp} {H : Hp} : ∀ {l : List Ent}, (∀ z ∈ l, Rep K H G P (prD z.2) (V.ref z.1)) → Reps K H G P ((l.map (·.2)).map prD) (l.map fun z => V.ref z.1)
  | [], _ => reps_nil
  | z :: l, h => reps_cons (h z List.mem_cons_self) (reps_ents fun y hy => h y (List.mem_cons_of_mem _ hy))
section
variable {X : Cx}
theorem j_srtZ {e e2 : Expr} {ea : EA} {p pos q qos : Pos} (hg : Gl X "sorted") (hm : X.mg "sorted" = none) (hg2 : Gl X "zip") (hm2 : X.mg "zip" = none) (ha : JA X [e, e2] ea) (hu : X.A.units + 64 < cLine) (hc : X.calm = true := by rfl)
    (na : starEach [e, e2] X.env = (false, eval e X.env) :: starEach [e2] X.env := by rfl) (nl : (backTo qos (starEach [e2] X.env)).any (·.1) = false := by rfl)
    (nb : starEach [.Call (.Name "zip" q) [e, e2] [] qos] X.env = (false, eval (.Call (.Name "zip" q) [e, e2] [] qos) X.env) :: starEach [] X.env := by rfl) :
    JE X (.Call (.Name "sorted" p) [.Call (.Name "zip" q) [e, e2] [] qos] [] pos) (eSrtZ ea) :=
  ⟨pe_srtZ hg hm hg2 hm2 ha.pa hc hu na nl nb, fun P s G Q σ H R h r k => by
    refine ha.la P s G _ σ H _ h r fun xs G1 us H1 s1 w1 r1 ll h1 => ?_
    clear ll
    split at h1
    · rename_i x y
      obtain ⟨u, u2, rfl, r2, r3⟩ := reps2 r1
      split at h1
      · rename_i ms qs e1 e2
        obtain ⟨a, rfl, sq, z⟩ := lk_ints w1 r2 e1
        obtain ⟨b, rfl, sq2, z2⟩ := lk_ints w1 r3 e2
        refine ⟨a, b, ms, qs, rfl, sq, sq2, Nat.le_trans (Nat.min_le_left _ _) z, fun bs q H2 eb ho ht hq hq2 => ?_⟩
        have st : Step G1 H1 G1 H2 := ⟨fun c o e g => ⟨ho c o e, g⟩, fun _ o e => ⟨o, e⟩⟩
        have w2 : Wo X.K P G1 H2 := ⟨fun c o e => (by
          obtain ⟨v, ev, rv⟩ := w1.own c o e
          exact ⟨v, ho c v ev, rv.step st fun _ _ x => x⟩), fun c pc => (by
          obtain ⟨g, v, ev, nt⟩ := w1.prv c pc
          exact ⟨g, v, ho c v ev, nt⟩)⟩
        obtain ⟨f1, f2⟩ := w1.fresh hq
        refine k _ G1 _ H2 (s1.trans st) w2 (rep_lst f1 f2 hq2 ?_ ?_) h1
        · rw [← eb, List.length_map, eb, List.length_mergeSort, List.length_zip]
          exact Nat.le_trans (Nat.min_le_left _ _) z
        · rw [← eb]
          exact reps_ents fun y hy => (fun ⟨g1, g2⟩ => rep_tup g1 g2 (ht y hy).2 (by simp [sizeLine]) (reps_cons rep_int (reps_cons rep_int reps_nil))) (w1.fresh (ht y hy).1)
      · exact h1.elim
    · exact h1.elim⟩
end
end DL
set_option Elab.async false
set_option linter.all false
set_option maxRecDepth 100000
set_option maxHeartbeats 4000000
namespace DL
open PySem PySem.Spec PyProof.Rows L2
def mIdxI : MD := fun x xs G Q => match xs with
  | [.int z] => ∃ ds ns, lkL G x = some ds ∧ intsD ds = some ns ∧ z ∈ ns ∧ Q (.int (ns.idxOf z : Nat)) G
  | _ => False
theorem idxI_first {z : Int} : ∀ {ns : List Int}, z ∈ ns → ns[ns.idxOf z]? = some z ∧ ∀ m : Nat, m < ns.idxOf z → ns[m]? ≠ some z
  | [], h => by cases h
  | x :: ns, h => by
    by_cases c : x = z
    · subst c
      rw [List.idxOf_cons_self]
      exact ⟨rfl, fun m hm => by omega⟩
    · have hz : z ∈ ns := by
        rcases List.mem_cons.mp h with q | q
        · exact (c q.symm).elim
        · exact q
      obtain ⟨h1, h2⟩ := idxI_first hz
      have e : (x :: ns).idxOf z = ns.idxOf z + 1 := by
        rw [List.idxOf_cons]
        have : (x == z) = false := beq_eq_false_iff_ne.mpr c
        rw [this]
        rfl
      rw [e]
      refine ⟨by rw [List.getElem?_cons_succ]; exact h1, fun m hm => ?_⟩
      cases m with
      | zero => simp [c]
      | succ m => rw [List.getElem?_cons_succ]; exact h2 m (by omega)
theorem eqV_int {a b : Int} : eqV (.int a) (.int b) = decide (a = b) := by
  first | rfl | (simp [eqV]) | (unfold eqV; simp)
theorem lm_idxI {K : PySem.W.Frag} : LM K (rIndex K) mIdxI := fun P G H x u xs us Q R h w rx rs k => by
  unfold mIdxI at h
  split at h
  · rename_i z
    obtain ⟨ds, ns, e1, e2, hz, q⟩ := h
    obtain ⟨v, rfl, ry⟩ := reps1 rs
    have ev : v = .int z := by unfold Rep at ry; exact ry
    subst ev
    obtain ⟨p, xs, rfl, s1, q1, _⟩ := lk_sq w rx e1
    rw [intsD_eq e2] at q1
    have := reps_ints q1
    subst this
    obtain ⟨h1, h2⟩ := idxI_first hz
    refine ⟨p, ns.map V.int, .int z, ns.idxOf z, .int z, rfl, rfl, s1, rfl, List.all_eq_true.mpr fun y hy => ?_, by rw [List.getElem?_map, h1]; rfl, by rw [eqV_int]; simp, fun m z' hm hz' => ?_, k _ G _ _ (Step.refl _ _) w rep_int q⟩
    · obtain ⟨i, _, rfl⟩ := List.mem_map.mp hy
      rfl
    · rw [List.getElem?_map] at hz'
      cases e : ns[m]? with
      | none => rw [e] at hz'; cases hz'
      | some i =>
        rw [e] at hz'
        cases hz'
        rw [eqV_int]
        exact decide_eq_false fun c => h2 m hm (by rw [e, c])
  · exact h.elim
end DL
set_option Elab.async false
set_option linter.all false
set_option maxRecDepth 100000
set_option maxHeartbeats 4000000
namespace DL
open PySem PySem.Spec PyProof.Rows L2 LN
def lnM (n mo : Int) (k : Nat) : Int := (mo + 1 + (k : Int)) % n
def fstO (n mo : Int) (s : Stretch) : Int := (s.b - mo - 1) % n
def spR (n mo : Int) (s : Stretch) : Sp3 := ⟨(fstO n mo s).toNat, (fstO n mo s + s.e).toNat, s.w⟩
theorem emod_is {a n c t : Int} (h : a = c + n * t) (c0 : 0 ≤ c) (c1 : c < n) : a % n = c := by
  rw [h, Int.add_mul_emod_self_left]
  exact Int.emod_eq_of_lt c0 c1
theorem lnM_sub {n mo : Int} {s : Stretch} {k : Nat} : (lnM n mo k - s.b) % n = (mo + 1 + (k : Int) - s.b) % n := by
  unfold lnM
  rw [Int.sub_emod, Int.emod_emod, ← Int.sub_emod]
structure CutOk (n mo : Int) (s : Stretch) : Prop where
  m0 : 0 ≤ mo
  m1 : mo < n
  e1 : 1 ≤ s.e
  w0 : 0 ≤ s.w
  off : overR n s mo = false
theorem cut_r {n mo : Int} {s : Stretch} (h : CutOk n mo s) : ∃ r t, mo - s.b = r + n * t ∧ s.e ≤ r ∧ r < n ∧ fstO n mo s = n - 1 - r := by
  have hn : 0 < n := by have := h.m0; have := h.m1; omega
  have off := h.off
  unfold overR at off
  have h1 := of_decide_eq_false off
  have h2 := Int.emod_nonneg (mo - s.b) (show n ≠ 0 by omega)
  have h3 := Int.emod_lt_of_pos (mo - s.b) hn
  have h4 := Int.emod_add_mul_ediv (mo - s.b) n
  refine ⟨(mo - s.b) % n, (mo - s.b) / n, h4.symm, by omega, h3, ?_⟩
  unfold fstO
  refine emod_is (t := -((mo - s.b) / n) - 1) ?_ (by omega) (by omega)
  rw [Int.mul_sub, Int.mul_neg]
  omega
theorem cut_sp {n mo : Int} {s : Stretch} (h : CutOk n mo s) : (spR n mo s).b < (spR n mo s).e ∧ (spR n mo s).e ≤ (n - 1).toNat ∧ 0 ≤ (spR n mo s).w := by
  obtain ⟨r, t, e1, e2, e3, e4⟩ := cut_r h
  have := h.e1
  have := h.w0
  unfold spR
  simp only [e4]
  exact ⟨by omega, by omega, by assumption⟩
theorem cut_over {n mo : Int} {s : Stretch} {k : Nat} (h : CutOk n mo s) (hk : k < (n - 1).toNat) : overR n s (lnM n mo k) = true ↔ (spR n mo s).b ≤ k ∧ k < (spR n mo s).e := by
  obtain ⟨r, t, e1, e2, e3, e4⟩ := cut_r h
  have := h.e1
  unfold overR spR
  simp only [e4]
  rw [lnM_sub, decide_eq_true_iff]
  by_cases c : (k : Int) < n - 1 - r
  · rw [emod_is (c := r + 1 + (k : Int)) (t := t) (by omega) (by omega) (by omega)]
    omega
  · rw [emod_is (c := r + 1 + (k : Int) - n) (t := t + 1) (by rw [Int.mul_add, Int.mul_one]; omega) (by omega) (by omega)]
    omega
theorem cut_all {n mo m : Int} (m0 : 0 ≤ mo) (m1 : mo < n) (h0 : 0 ≤ m) (h1 : m < n) : m = mo ∨ ∃ k, k < (n - 1).toNat ∧ m = lnM n mo k := by
  by_cases c : m = mo
  · exact .inl c
  refine .inr ?_
  unfold lnM
  by_cases d : mo < m
  · refine ⟨(m - mo - 1).toNat, by omega, ?_⟩
    rw [emod_is (c := m) (t := 0) (by rw [Int.mul_zero]; omega) h0 h1]
  · refine ⟨(m - mo - 1 + n).toNat, by omega, ?_⟩
    rw [emod_is (c := m) (t := 1) (by rw [Int.mul_one]; omega) h0 h1]
theorem lnM_rg {n mo : Int} (hn : 0 < n) (k : Nat) : 0 ≤ lnM n mo k ∧ lnM n mo k < n := ⟨Int.emod_nonneg _ (by omega), Int.emod_lt_of_pos _ hn⟩
theorem lnM_inj {n mo : Int} {j k : Nat} (m0 : 0 ≤ mo) (m1 : mo < n) (hj : j < (n - 1).toNat) (hk : k < (n - 1).toNat) (h : lnM n mo j = lnM n mo k) : j = k := by
  have v : ∀ i : Nat, i < (n - 1).toNat → lnM n mo i = if mo + 1 + (i : Int) < n then mo + 1 + (i : Int) else mo + 1 + (i : Int) - n := fun i hi => by
    unfold lnM
    split
    · exact Int.emod_eq_of_lt (by omega) (by omega)
    · exact emod_is (t := 1) (by rw [Int.mul_one]; omega) (by omega) (by omega)
  rw [v j hj, v k hk] at h
  split at h <;> split at h <;> omega
/-- the line beside what is put inside -/
structure LineIs (n mo : Int) (rs : List Stretch) (nb : Int) (ins outs bes : List Nat) (tk : Nat → Bool) (pr : Nat → Int) : Prop where
  rg : RgOk n rs
  m0 : 0 ≤ mo
  m1 : mo < n
  off : ∀ i ∈ bes, overR n (st rs i) mo = false
  fre : bes = freeZ rs ins outs
  nd : ins.Nodup
  lt : ∀ i ∈ ins, i < rs.length
  li : ∀ m : Int, 0 ≤ m → m < n → (loadOn n rs ins m : Int) ≤ nb
  ch : Chosen (n - 1).toNat bes.length (fun i => spR n mo (st rs (bes.getD i 0))) (fun k => nb - (loadOn n rs ins (lnM n mo k) : Int)) tk pr
def chL (bes : List Nat) (tk : Nat → Bool) : List Nat := ((List.range bes.length).filter tk).map fun k => bes.getD k 0
theorem getN_mem {bes : List Nat} {i : Nat} (h : i < bes.length) : bes.getD i 0 ∈ bes := by
  rw [List.getD_eq_getElem?_getD, List.getElem?_eq_getElem h]
  exact List.getElem_mem h
section
variable {n mo : Int} {rs : List Stretch} {nb : Int} {ins outs bes : List Nat} {tk : Nat → Bool} {pr : Nat → Int}
theorem LineIs.cut (L : LineIs n mo rs nb ins outs bes tk pr) {i : Nat} (h : i ∈ bes) : CutOk n mo (st rs i) := by
  have hi : i < rs.length := by rw [L.fre] at h; exact (free_mem.mp h).1
  have := L.rg.all _ (st_mem hi)
  exact ⟨L.m0, L.m1, this.e1, this.w0, L.off i h⟩
theorem LineIs.load (L : LineIs n mo rs nb ins outs bes tk pr) {k : Nat} (hk : k < (n - 1).toNat) : (loadOn n rs (chL bes tk) (lnM n mo k) : Int) = sumN bes.length fun i => if tk i = true ∧ (spR n mo (st rs (bes.getD i 0))).b ≤ k ∧ k < (spR n mo (st rs (bes.getD i 0))).e then 1 else 0 := by
  unfold loadOn chL
  rw [List.filter_map, List.length_map]
  rw [show ((fun i => overR n (st rs i) (lnM n mo k)) ∘ fun j => bes.getD j 0) = fun j => overR n (st rs (bes.getD j 0)) (lnM n mo k) from rfl, len_filter]
  refine sumN_congr fun i hi => ?_
  have := cut_over (L.cut (getN_mem hi)) hk
  by_cases q : tk i = true ∧ overR n (st rs (bes.getD i 0)) (lnM n mo k) = true
  · rw [if_pos q, if_pos ⟨q.1, this.mp q.2⟩]
  · rw [if_neg q, if_neg (fun z => q ⟨z.1, this.mpr z.2⟩)]
theorem chL_mem {i : Nat} (h : i ∈ chL bes tk) : i ∈ bes := by
  unfold chL at h
  obtain ⟨k, hk, rfl⟩ := List.mem_map.mp h
  exact getN_mem (List.mem_range.mp (List.mem_filter.mp hk).1)
theorem LineIs.load0 (L : LineIs n mo rs nb ins outs bes tk pr) : loadOn n rs (chL bes tk) mo = 0 := by
  unfold loadOn
  rw [List.length_eq_zero_iff, List.filter_eq_nil_iff]
  intro i hi
  rw [L.off i (chL_mem hi)]
  decide
theorem LineIs.worth : worthOf rs (chL bes tk) = sumN bes.length fun i => if tk i = true then (spR n mo (st rs (bes.getD i 0))).w else 0 := by
  unfold worthOf chL
  rw [List.map_map, ← sum_filter]
  rfl
theorem LineIs.light (L : LineIs n mo rs nb ins outs bes tk pr) {l : List Nat} (p : l.Perm (ins ++ chL bes tk)) {m : Int} (h0 : 0 ≤ m) (h1 : m < n) : (loadOn n rs l m : Int) ≤ nb := by
  rw [load_permR p, load_appR]
  rcases cut_all L.m0 L.m1 h0 h1 with rfl | ⟨k, hk, rfl⟩
  · rw [L.load0]; have := L.li m h0 h1; omega
  · have a := L.ch.ld k hk
    have b := L.load hk
    omega
theorem LineIs.some (L : LineIs n mo rs nb ins outs bes tk pr) {l : List Nat} (p : l.Perm (ins ++ chL bes tk)) (up : l.Pairwise (· ≤ ·)) : Some rs.length l := by
  have nf : bes.Nodup := by rw [L.fre]; exact free_nodup
  have nc : (chL bes tk).Nodup := by
    unfold chL
    rw [List.nodup_iff_pairwise_ne, List.pairwise_map]
    have h : ((List.range bes.length).filter tk).Pairwise fun i j => i < j ∧ j < bes.length := by
      refine List.Pairwise.sublist List.filter_sublist ?_
      rw [List.pairwise_iff_getElem]
      intro i j hi hj hij
      simp at hi hj ⊢
      omega
    refine h.imp fun {i j} ⟨h1, h2⟩ e => ?_
    rw [List.getD_eq_getElem?_getD, List.getD_eq_getElem?_getD, List.getElem?_eq_getElem h2, List.getElem?_eq_getElem (Nat.lt_trans h1 h2)] at e
    exact (List.pairwise_iff_getElem.mp nf) i j (Nat.lt_trans h1 h2) h2 h1 (by simpa using e)
  have nd : (ins ++ chL bes tk).Nodup := List.nodup_append.mpr ⟨L.nd, nc, fun a ha b hb e => by
    have := chL_mem hb
    rw [L.fre] at this
    exact (free_mem.mp this).2.1 (e ▸ ha)⟩
  refine ⟨fun i hi => ?_, ?_⟩
  · rcases List.mem_append.mp (p.mem_iff.mp hi) with q | q
    · exact L.lt i q
    · have := chL_mem q
      rw [L.fre] at this
      exact (free_mem.mp this).1
  · have := p.nodup_iff.mpr nd
    exact (List.pairwise_and_iff.mpr ⟨up, this⟩).imp fun h => Nat.lt_of_le_of_ne h.1 h.2
theorem LineIs.toll (L : LineIs n mo rs nb ins outs bes tk pr) {pp : Paper} (p : pp.Perm (paperP (n - 1).toNat (lnM n mo) pr)) {i : Nat} (hi : i ∈ bes) : tollR n (st rs i) pp = tollN (n - 1).toNat pr (spR n mo (st rs i)) := by
  rw [tollR_eq]
  have h := paper_sum L.ch.nn (pm := lnM n mo) (fun m => if overR n (st rs i) m = true then 1 else 0)
  have e : (pp.map fun x => if overR n (st rs i) x.1 = true then x.2 else 0) = pp.map fun x => x.2 * (if overR n (st rs i) x.1 = true then 1 else 0) := by
    apply List.map_congr_left
    intro x _
    split <;> simp
  rw [e, perm_sum (p.map _), h]
  unfold tollN
  refine sumN_congr fun k hk => ?_
  have := cut_over (L.cut hi) hk
  by_cases q : (spR n mo (st rs i)).b ≤ k ∧ k < (spR n mo (st rs i)).e
  · rw [if_pos (this.mpr q), if_pos q]; simp
  · rw [if_neg (fun z => q (this.mp z)), if_neg q]; simp
theorem list_sumN {f : Nat → Int} {bes : List Nat} : (bes.map f).sum = sumN bes.length fun i => f (bes.getD i 0) := by
  rw [← sum_fn]
  have e : bes.map f = ((List.range bes.length).map fun i => bes.getD i 0).map f := by
    congr 1
    refine List.ext_getElem (by simp) fun i h1 h2 => ?_
    simp [List.getD_eq_getElem?_getD, List.getElem?_eq_getElem h1]
  rw [e, List.map_map]
  rfl
/-- what the leaf claims is what is chosen -/
theorem LineIs.claim (L : LineIs n mo rs nb ins outs bes tk pr) {l : List Nat} {pp : Paper} (pl : l.Perm (ins ++ chL bes tk)) (p : pp.Perm (paperP (n - 1).toNat (lnM n mo) pr)) : priceZ n rs nb pp ins outs = worthOf rs l := by
  rw [worth_permR pl, worth_appR, LineIs.worth (n := n) (mo := mo)]
  unfold priceZ
  rw [← L.fre, perm_sum (p.map _), paper_sum L.ch.nn (pm := lnM n mo) (fun m => nb - (loadOn n rs ins m : Int)), list_sumN]
  have e : (sumN bes.length fun i => restR n (st rs (bes.getD i 0)) pp) = sumN bes.length fun i => max 0 ((spR n mo (st rs (bes.getD i 0))).w - tollN (n - 1).toNat pr (spR n mo (st rs (bes.getD i 0)))) := by
    refine sumN_congr fun i hi => ?_
    unfold restR
    rw [L.toll p (getN_mem hi)]
    show (if (st rs (bes.getD i 0)).w - _ > 0 then (st rs (bes.getD i 0)).w - _ else 0) = max 0 ((st rs (bes.getD i 0)).w - _)
    split <;> omega
  rw [e]
  have := L.ch.cl
  omega
end
end DL
set_option Elab.async false
set_option linter.all false
set_option maxRecDepth 100000
set_option maxHeartbeats 4000000
namespace DL
open PySem PySem.Spec PyProof.Rows L2 LN
abbrev smKs : List Str := ["ring", "benches", "moment", "over_it", "beside_it", "best"]
def ovZ (n : Int) (rs : List Stretch) (mo : Int) : List Nat := (List.range rs.length).filter fun i => overR n (st rs i) mo
def bsZ (n : Int) (rs : List Stretch) (mo : Int) : List Nat := (List.range rs.length).filter fun i => decide (i ∉ ovZ n rs mo)
def smO (dx : Addr) (n : Int) (rs : List Stretch) (nb mo : Int) (be : D) : GO := .ins "Seam" dx smKs [ringD n rs, .int nb, .int mo, .lst (nD (ovZ n rs mo)), .lst (nD (bsZ n rs mo)), be]
/-- no moment has fewer over it -/
structure MoOk (n : Int) (rs : List Stretch) (mo : Int) : Prop where
  m0 : 0 ≤ mo
  m1 : mo < n
  mn : ∀ m : Int, 0 ≤ m → m < n → loadOn n rs (List.range rs.length) mo ≤ loadOn n rs (List.range rs.length) m
def F_Seam_line_moments : Sf := fun ds G Q => ∃ x dx n rs nb mo be, ds = [.ref x] ∧ G x = some (smO dx n rs nb mo be) ∧ RgOk n rs ∧ Q (.lst (fnL (n - 1).toNat fun k => .int (lnM n mo k))) G
def F_Seam_line_spans : Sf := fun ds G Q => ∃ x dx n rs nb mo be, ds = [.ref x] ∧ G x = some (smO dx n rs nb mo be) ∧ RgOk n rs ∧ 0 ≤ mo ∧ mo < n ∧ Q (.lst (fnL (bsZ n rs mo).length fun i => sp3D (spR n mo (st rs ((bsZ n rs mo).getD i 0))))) G
/-- what a leaf gives -/
structure LeafIs (n : Int) (rs : List Stretch) (nb : Int) (ins outs l : List Nat) (pp : Paper) : Prop where
  some : Some rs.length l
  load : ∀ m : Int, 0 ≤ m → m < n → (loadOn n rs l m : Int) ≤ nb
  ok : POk pp
  rg : ∀ x ∈ pp, 0 ≤ x.1 ∧ x.1 < n
  eq : priceZ n rs nb pp ins outs = worthOf rs l
/-- the better of two -/
def beL (rs : List Stretch) (be : Option (Int × List Nat)) (l : List Nat) : Option (Int × List Nat) := match be with
  | none => some (worthOf rs l, l)
  | some x => if x.1 < worthOf rs l then some (worthOf rs l, l) else some x
def r_Seam_line_moments : ES :=
  (sRet (eLc (iR1 (eCons (eOp oSub (eOp oIx (eFld "Seam" "ring" (eVar 0)) (eC (.int 0))) (eC (.int 1))) eNil)) (.nm 1) eYes (eOp oMod (eOp oAdd (eOp oAdd (eFld "Seam" "moment" (eVar 0)) (eC (.int 1))) (eVar 1)) (eOp oIx (eFld "Seam" "ring" (eVar 0)) (eC (.int 0)))) [1]))
def r_Seam_line_spans_L1 : ES :=
  (sSeq (sAsg (eOp oIx (eOp oIx (eFld "Seam" "ring" (eVar 0)) (eC (.int 1))) (eVar 2)) (.tp [3, 4, 5, 6]))
  (sSeq (sAsg (eOp oMod (eOp oSub (eOp oSub (eVar 4) (eFld "Seam" "moment" (eVar 0))) (eC (.int 1))) (eOp oIx (eFld "Seam" "ring" (eVar 0)) (eC (.int 0)))) (.nm 7))
  (sDrop (eBm mApp (eVar 1) (eCons (eTup (eCons (eVar 7) (eCons (eOp oAdd (eVar 7) (eVar 5)) (eCons (eVar 6) eNil)))) eNil)))))
def r_Seam_line_spans : ES :=
  (sSeq (sAsg (eLstO eNil) (.nm 1))
  (sSeq (sFor (iL (eFld "Seam" "beside_it" (eVar 0))) (.nm 2) r_Seam_line_spans_L1)
  (sRet (eVar 1))))
theorem leP_up (l : List (Int × Int)) : (l.mergeSort SrtZ.leP).Pairwise fun a b => SrtZ.leP a b = true :=
  List.pairwise_mergeSort (le := SrtZ.leP) (fun a b c h1 h2 => by simp only [SrtZ.leP, decide_eq_true_eq] at h1 h2 ⊢; omega) (fun a b => by simp only [SrtZ.leP, Bool.or_eq_true, decide_eq_true_eq]; omega) l
/-- the prices, sorted -/
def ppZ (n mo : Int) (pr : Nat → Int) : Paper := ((((List.range (n - 1).toNat).map fun k => (lnM n mo k, pr k)).mergeSort SrtZ.leP)).filter fun x => decide (0 < x.2)
theorem ppZ_perm {n mo : Int} {pr : Nat → Int} : (ppZ n mo pr).Perm (paperP (n - 1).toNat (lnM n mo) pr) := by
  unfold ppZ paperP
  refine ((List.mergeSort_perm _ _).filter _).trans ?_
  rw [List.filter_map]
  exact List.Perm.refl _
theorem zip_maps {α β : Type} {f : Nat → α} {g : Nat → β} : ∀ l : List Nat, (l.map f).zip (l.map g) = l.map fun k => (f k, g k)
  | [] => rfl
  | k :: l => by simp [zip_maps l]
section
variable {n mo : Int} {rs : List Stretch} {nb : Int} {ins outs bes : List Nat} {tk : Nat → Bool} {pr : Nat → Int}
theorem ppZ_mem {x : Int × Int} (h : x ∈ ppZ n mo pr) : ∃ k, k < (n - 1).toNat ∧ 0 < pr k ∧ x = (lnM n mo k, pr k) := by
  have := ppZ_perm.mem_iff.mp h
  unfold paperP at this
  obtain ⟨k, hk, rfl⟩ := List.mem_map.mp this
  obtain ⟨h1, h2⟩ := List.mem_filter.mp hk
  exact ⟨k, List.mem_range.mp h1, of_decide_eq_true h2, rfl⟩
theorem LineIs.papOk (L : LineIs n mo rs nb ins outs bes tk pr) : POk (ppZ n mo pr) where
  len := by
    rw [ppZ_perm.length_eq]
    unfold paperP
    rw [List.length_map]
    refine Nat.le_trans (List.length_filter_le _ _) ?_
    have := L.rg.n2
    simp
    omega
  up := by
    have nd : ((ppZ n mo pr).map (·.1)).Nodup := by
      refine (ppZ_perm.map _).nodup_iff.mpr ?_
      unfold paperP
      rw [List.map_map, List.nodup_iff_pairwise_ne, List.pairwise_map]
      have h : ((List.range (n - 1).toNat).filter fun k => decide (0 < pr k)).Pairwise fun i j => i < j ∧ j < (n - 1).toNat := by
        refine List.Pairwise.sublist List.filter_sublist ?_
        rw [List.pairwise_iff_getElem]
        intro i j hi hj hij
        simp at hi hj ⊢
        omega
      refine h.imp fun {i j} ⟨h1, h2⟩ e => ?_
      have := lnM_inj L.m0 L.m1 (Nat.lt_trans h1 h2) h2 e
      omega
    have u : (ppZ n mo pr).Pairwise fun a b => SrtZ.leP a b = true := List.Pairwise.sublist List.filter_sublist (leP_up _)
    rw [List.nodup_iff_pairwise_ne, List.pairwise_map] at nd
    refine (List.pairwise_and_iff.mpr ⟨u, nd⟩).imp fun {a b} ⟨h1, h2⟩ => ?_
    simp only [SrtZ.leP, decide_eq_true_eq] at h1
    omega
  lo := fun x hx => by
    obtain ⟨k, hk, h0, rfl⟩ := ppZ_mem hx
    have := (lnM_rg (n := n) (mo := mo) (by have := L.rg.n1; omega) k).1
    show _ ≤ lnM n mo k
    omega
  hi := fun x hx => by
    obtain ⟨k, hk, h0, rfl⟩ := ppZ_mem hx
    have := (lnM_rg (n := n) (mo := mo) (by have := L.rg.n1; omega) k).2
    have := L.rg.n2
    show lnM n mo k ≤ _
    omega
  p1 := fun x hx => by
    obtain ⟨k, hk, h0, rfl⟩ := ppZ_mem hx
    show 1 ≤ pr k
    omega
  p2 := fun x hx => by
    obtain ⟨k, hk, h0, rfl⟩ := ppZ_mem hx
    show pr k ≤ _
    rcases L.ch.gr k hk with q | ⟨i, hi, _, _, q⟩
    · omega
    · have hb := getN_mem hi
      have hi2 : bes.getD i 0 < rs.length := (free_mem.mp (by rw [← L.fre]; exact hb)).1
      have := (L.rg.all _ (st_mem hi2)).w1
      have e : (spR n mo (st rs (bes.getD i 0))).w = (st rs (bes.getD i 0)).w := rfl
      omega
theorem LineIs.leaf (L : LineIs n mo rs nb ins outs bes tk pr) {l : List Nat} (p : l.Perm (ins ++ chL bes tk)) (up : l.Pairwise (· ≤ ·)) : LeafIs n rs nb ins outs l (ppZ n mo pr) where
  some := L.some p up
  load := fun m h0 h1 => L.light p h0 h1
  ok := L.papOk
  rg := fun x hx => by
    obtain ⟨k, hk, h0, rfl⟩ := ppZ_mem hx
    exact lnM_rg (by have := L.rg.n1; omega) k
  eq := L.claim p ppZ_perm
end
section
variable {G : Gp} {x dx : Addr} {n : Int} {rs : List Stretch} {nb mo : Int} {be : D} {sl : Sd} {i : Nat} {Q : DK}
theorem fld_at {C f : Str} {ks : List Str} {ds : List D} {d : D} (hs : sl[i]? = some (some (.ref x))) (h : G x = some (.ins C dx ks ds)) (e : lkF f ks ds = some d) (q : Q d G) : eFld C f (eVar i) sl G Q := by
  simp only [eFld, eVar, hs, h, e]
  exact ⟨trivial, q⟩
theorem s_rg (hs : sl[i]? = some (some (.ref x))) (h : G x = some (smO dx n rs nb mo be)) (q : Q (ringD n rs) G) : eFld "Seam" "ring" (eVar i) sl G Q := fld_at hs h (by simp [lkF]) q
theorem s_bn (hs : sl[i]? = some (some (.ref x))) (h : G x = some (smO dx n rs nb mo be)) (q : Q (.int nb) G) : eFld "Seam" "benches" (eVar i) sl G Q := fld_at hs h (by simp [lkF]) q
theorem s_mo (hs : sl[i]? = some (some (.ref x))) (h : G x = some (smO dx n rs nb mo be)) (q : Q (.int mo) G) : eFld "Seam" "moment" (eVar i) sl G Q := fld_at hs h (by simp [lkF]) q
theorem s_ov (hs : sl[i]? = some (some (.ref x))) (h : G x = some (smO dx n rs nb mo be)) (q : Q (.lst (nD (ovZ n rs mo))) G) : eFld "Seam" "over_it" (eVar i) sl G Q := fld_at hs h (by simp [lkF]) q
theorem s_bs (hs : sl[i]? = some (some (.ref x))) (h : G x = some (smO dx n rs nb mo be)) (q : Q (.lst (nD (bsZ n rs mo))) G) : eFld "Seam" "beside_it" (eVar i) sl G Q := fld_at hs h (by simp [lkF]) q
theorem s_be (hs : sl[i]? = some (some (.ref x))) (h : G x = some (smO dx n rs nb mo be)) (q : Q be G) : eFld "Seam" "best" (eVar i) sl G Q := fld_at hs h (by simp [lkF]) q
theorem is_sm {m : Str} (h : G x = some (smO dx n rs nb mo be)) (hm : m ∉ smKs := by decide +kernel) : isIns "Seam" m G (.ref x) := by
  simp only [isIns, h, smO]
  exact ⟨trivial, hm⟩
theorem set_at {N : En} {C f : Str} {v : D} {ks ks' : List Str} {ds ds' : List D} {ee : EE} (hs : sl[i]? = some (some (.ref x))) (he : ∀ Q : DK, Q v G → ee sl G Q) (h : G x = some (.ins C dx ks ds)) (hk : putFk f ks = ks') (hv : putFv f v ks ds = ds') (hl : ks.length < 1000)
    (q : N.nx sl (gput G x (.ins C dx ks' ds'))) : sFldD C f ee (eVar i) N sl G := by
  simp only [sFldD]
  refine he _ ?_
  simp only [eVar, hs, h]
  rw [hk, hv]
  exact ⟨trivial, hl, q⟩
end
theorem rng_nD (k : Nat) : rngD 0 k = nD (List.range k) := rng_nat0 k
theorem load_oneR {n : Int} {rs : List Stretch} {i : Nat} {m : Int} : (loadOn n rs [i] m : Int) = if overR n (st rs i) m = true then 1 else 0 := by
  rw [loadR_cons]
  have : loadOn n rs [] m = 0 := rfl
  rw [this]
  simp
theorem d_Seam_line_moments (ds : List D) (G : Gp) (Q : DK) (h : F_Seam_line_moments ds G Q) : r_Seam_line_moments (fin G Q) (startD 2 ds) G := by
  obtain ⟨x, dx, n, rs, nb, mo, be, rfl, hx, hr, k⟩ := h
  have n1 := hr.n1
  have n2 := hr.n2
  unfold r_Seam_line_moments
  (try dsimp only [oSub, oMod, startD, sRet, eLc, iR1, eCons, eOp, eNil, oI0, eC]); (try simp only [List.map_cons, List.map_nil, List.length_cons, List.length_nil, Nat.reduceAdd, List.replicate, List.cons_append, List.nil_append]); (skip)
  refine s_rg rfl hx (ixg_0 ?_)
  (try dsimp only); (skip); (skip)
  refine ⟨by omega, by omega, ?_⟩
  rw [rng_nat0]
  refine compW_all (f := fun i : Nat => D.int (lnM n mo i)) trivial (List.range (n - 1).toNat) [] (fun i hi => ⟨_, rfl, fun R r => ?_⟩) ?_
  · (try dsimp only [wipeD, List.set_cons_succ, List.set_cons_zero, eOp, oI, eC, eVar, List.getElem?_cons_succ, List.getElem?_cons_zero]); (skip); (skip)
    refine s_mo rfl hx ?_
    (skip); (skip); (skip)
    refine add_ii (add_ii ?_)
    refine s_rg rfl hx ?_
    refine ixg_0 ?_
    (try dsimp only); (skip); (skip)
    exact ⟨by omega, r⟩
  · exact fin_id k
theorem cut_rg {n mo : Int} {s : Stretch} (hn : 0 < n) : 0 ≤ (s.b - mo - 1) % n := Int.emod_nonneg _ (by omega)
theorem d_Seam_line_spans (ds : List D) (G : Gp) (Q : DK) (h : F_Seam_line_spans ds G Q) : r_Seam_line_spans (fin G Q) (startD 8 ds) G := by
  obtain ⟨x, dx, n, rs, nb, mo, be, rfl, hx, hr, m0, m1, k⟩ := h
  have n1 := hr.n1
  have n2 := hr.n2
  have rl := hr.len
  refine seq_gen fun W hW => ?_
  (try dsimp only [startD, sAsg, eLstO, eNil, asg]); (try simp only [List.length_nil, sizeLine_eq, Nat.reduceLeDiff, List.map_cons, List.map_nil, List.length_cons, Nat.reduceAdd, List.replicate, List.cons_append, List.nil_append, true_and]); (try dsimp only [List.set_cons_succ, List.set_cons_zero])
  intro q hq
  refine hW _ _ ?_
  have qx : x ≠ q := fun z => by rw [z, hq] at hx; cases hx
  have hx2 : ∀ o, gput G q o x = some (smO dx n rs nb mo be) := fun o => by rw [gput_ne qx]; exact hx
  have bl : ∀ i ∈ bsZ n rs mo, i < rs.length := fun i hi => List.mem_range.mp (List.mem_filter.mp hi).1
  have bz : (bsZ n rs mo).length ≤ 24 := by
    unfold bsZ
    refine Nat.le_trans (List.length_filter_le _ _) ?_
    simpa using rl
  refine seq_gen fun W2 hW2 => ?_
  (try dsimp only [sFor, iL]); (skip); (skip)
  refine s_bs rfl (hx2 _) ?_
  (try dsimp only [stays, lkL_lst]); (skip); (skip)
  refine forW_ind (g := fun i : Nat => D.int (i : Int)) (fun r s G' => ∃ (done : List Nat) (o2 o3 o4 o5 o6 o7 : Option D), s = [some (.ref x), some (.ref q), o2, o3, o4, o5, o6, o7] ∧ done ++ r = bsZ n rs mo ∧ G' = gput G q (.lst (done.map fun i => sp3D (spR n mo (st rs i))))) (fun _ _ _ _ => trivial) ?_ ?_ (bsZ n rs mo) _ _ ⟨[], _, _, _, _, _, _, rfl, rfl, rfl⟩
  · rintro i r s G' W ⟨done, o2, o3, o4, o5, o6, o7, rfl, hd, rfl⟩ hW
    have hi : i < rs.length := bl i (by rw [← hd]; simp)
    have hdl : done.length ≤ 24 := by have := congrArg List.length hd; simp at this; omega
    unfold r_Seam_line_spans_L1
    refine seq_gen fun W3 hW3 => ?_
    (try dsimp only [List.set_cons_succ, List.set_cons_zero, sAsg, eOp, asg, eVar, List.getElem?_cons_succ, List.getElem?_cons_zero, eC]); (skip); (skip)
    refine s_rg rfl (hx2 _) (ixg_1 (ix_at (bk_at hi) ?_))
    (try dsimp only [Stretch.d, setAll, List.set_cons_succ, List.set_cons_zero]); (skip); (skip)
    refine hW3 _ _ ?_
    refine seq_gen fun W4 hW4 => ?_
    (try dsimp only [oMod, oSub, sAsg, eOp, eVar, List.getElem?_cons_succ, List.getElem?_cons_zero, asg, List.set_cons_succ, List.set_cons_zero, oI, eC, oI0]); (skip); (skip)
    refine s_mo rfl (hx2 _) ?_
    (try dsimp only); (skip); (skip)
    refine s_rg rfl (hx2 _) ?_
    refine ixg_0 ?_
    (try dsimp only); (skip); (skip)
    have c := cut_rg (n := n) (mo := mo) (s := st rs i) (by omega)
    refine ⟨by omega, hW4 _ _ ?_⟩
    (try dsimp only [sDrop, eBm, eVar, List.getElem?_cons_succ, List.getElem?_cons_zero, eCons, eTup, eNil, eOp]); (try simp only [List.length_cons, List.length_nil, Nat.reduceAdd, sizeLine_eq, Nat.reduceLeDiff, true_and]); (skip)
    refine ⟨⟨_, gput_same⟩, add_ii ?_⟩
    (skip); (skip); (skip)
    refine app_ref gput_same (by simp; omega) ?_
    rw [gput_gput]
    refine hW _ _ ⟨done ++ [i], _, _, _, _, _, _, rfl, by simpa using hd, ?_⟩
    rw [List.map_append]
    have e : sp3D (spR n mo (st rs i)) = .tup [.int (((st rs i).b - mo - 1) % n), .int (((st rs i).b - mo - 1) % n + (st rs i).e), .int (st rs i).w] := by
      have := (hr.all _ (st_mem hi)).e1
      unfold sp3D spR fstO
      rw [Int.toNat_of_nonneg c, Int.toNat_of_nonneg (by omega)]
    rw [List.map_cons, List.map_nil, e]
  · rintro s G' ⟨done, o2, o3, o4, o5, o6, o7, rfl, hd, rfl⟩
    rw [List.append_nil] at hd
    subst hd
    refine hW2 _ _ ?_
    (try dsimp only [sRet, eVar, List.getElem?_cons_succ, List.getElem?_cons_zero]); (skip); (skip)
    refine fin_lst (fun a o e => by rw [gput_ne (fun z => by subst z; rw [hq] at e; cases e)]; exact e) gput_same hq (refIns_plain (plainDs_map (fun _ => rfl) _)) ?_
    have e : fnL (bsZ n rs mo).length (fun i => sp3D (spR n mo (st rs ((bsZ n rs mo).getD i 0)))) = (bsZ n rs mo).map fun i => sp3D (spR n mo (st rs i)) := by
      unfold fnL
      refine List.ext_getElem (by simp) fun i h1 h2 => ?_
      simp at h1
      simp [List.getD_eq_getElem?_getD, List.getElem?_eq_getElem h1]
    rw [e] at k
    exact k
theorem nats_of_perm {ms : List Int} {l : List Nat} (h : ms.Perm (l.map fun i : Nat => (i : Int))) (up : ms.Pairwise (· ≤ ·)) : ∃ l2 : List Nat, ms = l2.map (fun i : Nat => (i : Int)) ∧ l2.Perm l ∧ l2.Pairwise (· ≤ ·) := by
  have e : ms = (ms.map Int.toNat).map fun i : Nat => (i : Int) := by
    rw [List.map_map]
    have : ms.map ((fun i : Nat => (i : Int)) ∘ Int.toNat) = ms.map id := List.map_congr_left fun x hx => by
      obtain ⟨i, _, rfl⟩ := List.mem_map.mp (h.mem_iff.mp hx)
      simp
    rw [this, List.map_id]
  refine ⟨ms.map Int.toNat, e, ?_, ?_⟩
  · have := h.map Int.toNat
    rw [List.map_map] at this
    have e2 : (Int.toNat ∘ fun i : Nat => (i : Int)) = id := by funext i; simp
    rw [e2, List.map_id] at this
    exact this
  · rw [List.pairwise_map]
    exact up.imp fun h => by omega
end DL
set_option Elab.async false
set_option linter.all false
set_option maxRecDepth 100000
set_option maxHeartbeats 4000000
namespace L2
open PySem PySem.Spec PyProof.Rows
def iAny (K : PySem.W.Frag) (tl : TE) : TI := fun σ H R => tl σ H fun x H1 => ∃ a, x = V.ref a ∧ (((∃ xs, SqL K H1 a xs) ∧ R (Itl K a) H1) ∨ ((∃ xs, SqT K H1 a xs) ∧ R (Itt K a) H1))
theorem pi_any {X : Cx} {tg l : Expr} {tl : TE} (hl : PE X l tl) : PI X tg l (iAny X.K tl) := by
  refine ⟨fun pins s σ H R I h => ?_⟩
  refine thn (hl.run pins s σ H _ I h) fun v s1 ⟨x, H1, I1, r1, q1⟩ => ?_
  obtain ⟨a, e, q⟩ := q1
  subst e
  cases r1
  have fp : ∀ b ∈ [s1.heap.objs.size], FpOk X pins H1 b := fun b hb => by
    have e : b = s1.heap.objs.size := by simpa using hb
    subst e
    exact I1.fpOk (Nat.le_refl _) (I1.hok.fresh (Nat.le_refl _))
  rcases q with ⟨⟨xs, hq⟩, q⟩ | ⟨⟨xs, hq⟩, q⟩
  · obtain ⟨its, rv, p, hz⟩ := I1.list hq
    refine wpAny_pyIter_list p.isList ?_
    exact ⟨s1.heap.objs.size, [s1.heap.objs.size], _, _, H1, rfl, I1.kept (t' := s1.toks) fun b o e => Heap.get?_push_of_some _ e, turn_list a _, ⟨_, Heap.get?_push_size _ rfl, rfl, rfl⟩, fp, q⟩
  · obtain ⟨its, rv, p, hz⟩ := I1.tuple hq
    refine wpAny_pyIter_tuple (show s1.heap.IsTuple a its.toArray from p) ?_
    exact ⟨s1.heap.objs.size, [s1.heap.objs.size], _, _, H1, rfl, I1.kept (t' := s1.toks) fun b o e => Heap.get?_push_of_some _ e, turn_tuple a _, ⟨_, Heap.get?_push_size _ rfl, rfl, rfl⟩, fp, q⟩
end L2
namespace DL
open PySem PySem.Spec PyProof.Rows L2
section
variable {X : Cx} {K : PySem.W.Frag} {P : Addr → Prop} {G : Gp} {H : Hp} {tg : Expr}
/-- what is walked: a list or a tuple -/
@[simp] def iA (t : EE) : EI := fun s G Q => t s G fun x G1 => match x with
  | .tup ds => Q ds (fun _ => True) G1
  | _ => (match lkL G1 x with
    | some ds => Q ds (stays x ds) G1
    | none => False)
theorem ji_any {l : Expr} {el : EE} (hl : JE X l el) : JI X tg l (iA el) := ⟨pi_any hl.pe, fun P s G Q σ H R h r k => by
  refine hl.le P s G _ σ H _ h r fun x G1 u H1 s1 w1 r1 h1 => ?_
  split at h1
  · rename_i ds
    obtain ⟨a, xs, rfl, g, p, rr, z, q⟩ := rep_t r1
    refine ⟨a, rfl, .inr ⟨⟨xs, SqT.of rr⟩, k ds _ G1 _ H1 s1 w1 ⟨z, fun P' G2 H2 i hP st w kp => ?_⟩ h1⟩⟩
    have q2 : Reps X.K H2 G2 P' ds xs := Reps.mono st hP q
    have rr2 := (st.keep a _ rr g).1
    refine ⟨fun d hd => ?_, fun hi => ⟨xs, SqT.of rr2, by rw [← q2.length]; exact hi⟩⟩
    obtain ⟨v, e1, r1⟩ := q2.get hd
    refine ⟨⟨xs, v, SqT.of rr2, e1⟩, fun y H' hy => ?_⟩
    obtain ⟨rfl, f⟩ := hy
    have := f xs (SqT.of rr2)
    rw [e1] at this
    cases this
    exact ⟨Step.refl _ _, w, r1⟩
  · cases e : lkL G1 x with
    | none => rw [e] at h1; exact h1.elim
    | some ds =>
      rw [e] at h1
      obtain ⟨a, xs, rfl, s, q, z⟩ := lk_sq w1 r1 e
      exact ⟨a, rfl, .inl ⟨⟨xs, s⟩, k ds _ G1 _ H1 s1 w1 (wk_list w1 r1 e) h1⟩⟩⟩
end
/-- isinstance(x, (A, B)) -/
@[simp] def cIsiT : CD := fun xs G Q => match xs with
  | [x, .tup [.ty a, .ty b]] => (match tyD G x with
    | some m => (match kitB m a, kitB m b with
      | some p, some q => Q (.bl (p || q)) G
      | _, _ => False)
    | none => False)
  | _ => False
theorem lc_isiT {K : PySem.W.Frag} : LC K (rIsiT K) cIsiT := fun P G H xs us Q R h w r k => by
  unfold cIsiT at h
  split at h
  · rename_i x a b
    obtain ⟨u, v, rfl, r1, r2⟩ := reps2 r
    split at h
    · rename_i m em
      split at h
      · rename_i p q ep eq
        obtain ⟨tp, xs, rfl, g, pp, rr, z, qq⟩ := rep_t r2
        obtain ⟨v1, v2, rfl, ra, rb⟩ := reps2 qq
        have e1 : v1 = .ty a := by unfold Rep at ra; exact ra
        have e2 : v2 = .ty b := by unfold Rep at rb; exact rb
        subst e1 e2
        refine ⟨u, tp, _, .type m, [.type a, .type b], p || q, rfl, rr, .cons (.ty a) (.cons (.ty b) .nil), ty_of w r1 em, ?_, k _ G _ H (Step.refl _ _) w rep_bl h⟩
        refine kitAny_cons (kit_ty ep) (fun e => ?_) (fun e => by rw [e]; rfl)
        rw [e, Bool.false_or]
        refine kitAny_cons (kit_ty eq) (fun e => ?_) (fun e => e)
        rw [e]
        rfl
      · exact h.elim
    · exact h.elim
  · exact h.elim
/-- sorted(xs) of ints, a new list of its own -/
@[simp] def cSortedIO : CD := fun xs G Q => match xs with
  | [x] => (match (lkL G x).bind intsD with
    | some ns => ∀ (ms : List Int) (q : Addr), ms.Perm ns → ms.Pairwise (· ≤ ·) → G q = none → Q (.ref q) (gput G q (.lst (ms.map D.int)))
    | none => False)
  | _ => False
theorem lc_sortedIO {K : PySem.W.Frag} : LC K (rSortedI K) cSortedIO := fun P G H xs us Q R h w r k => by
  unfold cSortedIO at h
  split at h
  · obtain ⟨u, rfl, r1⟩ := reps1 r
    split at h
    · rename_i ns e
      obtain ⟨a, rfl, s, z⟩ := lk_ints w r1 e
      refine ⟨a, ns, rfl, s, fun ms l pm up hl => ?_⟩
      obtain ⟨f1, f2⟩ := w.fresh hl
      have hz : ms.length ≤ sizeLine := by rw [pm.length_eq]; exact z
      have st : Step G H (gput G l (.lst (ms.map D.int))) (upd H l (.lst (ms.map V.int))) := Step.newOwn w hl
      exact k _ _ _ _ st (w.newOwn hl ⟨_, rfl, by rw [List.length_map]; exact hz, reps_of_ints⟩) (by unfold Rep; exact ⟨rfl, _, gput_same⟩) (h ms l pm up f1)
    · exact h.elim
  · exact h.elim
end DL
set_option Elab.async false
set_option linter.all false
set_option maxRecDepth 100000
set_option maxHeartbeats 4000000
namespace DL
open PySem PySem.Spec PyProof.Rows L2 LN
section
open Classical in
noncomputable def minI (ns : List Int) : Int := if h : ∃ v, v ∈ ns ∧ ∀ y ∈ ns, v ≤ y then Classical.choose h else 0
end
theorem minI_eq {ns : List Int} {v : Int} (h : v ∈ ns) (hm : ∀ y ∈ ns, v ≤ y) : minI ns = v := by
  have ex : ∃ v, v ∈ ns ∧ ∀ y ∈ ns, v ≤ y := ⟨v, h, hm⟩
  unfold minI
  rw [dif_pos ex]
  obtain ⟨h1, h2⟩ := Classical.choose_spec ex
  have := h2 v h
  have := hm _ h1
  omega
def loadsL (n : Int) (rs : List Stretch) : List Int := (List.range n.toNat).map fun m : Nat => ((loadOn n rs (List.range rs.length) (m : Int) : Nat) : Int)
noncomputable def seamF (n : Int) (rs : List Stretch) : Int := (((loadsL n rs).idxOf (minI (loadsL n rs)) : Nat) : Int)
theorem seam_ok {n : Int} {rs : List Stretch} (n1 : 1 ≤ n) : MoOk n rs (seamF n rs) := by
  obtain ⟨v, hv, hm⟩ : ∃ v, v ∈ loadsL n rs ∧ ∀ y ∈ loadsL n rs, v ≤ y := by
    have ne : loadsL n rs ≠ [] := by
      unfold loadsL
      intro e
      have := congrArg List.length e
      simp at this
      omega
    obtain ⟨v, hv⟩ : ∃ v, (loadsL n rs).min? = some v := by
      cases e : (loadsL n rs).min? with
      | none => exact absurd (List.min?_eq_none_iff.mp e) ne
      | some v => exact ⟨v, rfl⟩
    have := List.min?_eq_some_iff.mp hv
    exact ⟨v, this.1, fun y hy => this.2 y hy⟩
  unfold seamF
  rw [minI_eq hv hm]
  obtain ⟨h1, _⟩ := idxI_first hv
  generalize (loadsL n rs).idxOf v = j at h1 ⊢
  unfold loadsL at h1
  rw [List.getElem?_map] at h1
  have hj : j < n.toNat := by
    rcases Nat.lt_or_ge j n.toNat with q | q
    · exact q
    · rw [List.getElem?_eq_none (by simpa using q)] at h1; cases h1
  rw [List.getElem?_range hj] at h1
  have ev : ((loadOn n rs (List.range rs.length) (j : Int) : Nat) : Int) = v := by simpa using h1
  refine ⟨by omega, by omega, fun m h0 h1 => ?_⟩
  have := hm ((loadOn n rs (List.range rs.length) m : Nat) : Int) (List.mem_map.mpr ⟨m.toNat, by simp; omega, by rw [Int.toNat_of_nonneg h0]⟩)
  omega
def crF (n : Int) (rs : List Stretch) (nb : Int) (ins : List Nat) : Option Nat := (List.range n.toNat).find? fun m : Nat => decide (nb < (loadOn n rs ins (m : Int) : Int))
theorem cr_none {n : Int} {rs : List Stretch} {nb : Int} {ins : List Nat} (h : crF n rs nb ins = none) {m : Int} (h0 : 0 ≤ m) (h1 : m < n) : (loadOn n rs ins m : Int) ≤ nb := by
  have := List.find?_eq_none.mp h m.toNat (List.mem_range.mpr (by omega))
  rw [Int.toNat_of_nonneg h0] at this
  simpa using this
theorem cr_some {n : Int} {rs : List Stretch} {nb : Int} {ins : List Nat} {m : Nat} (h : crF n rs nb ins = some m) : (m : Int) < n ∧ nb < (loadOn n rs ins (m : Int) : Int) := by
  have h1 := List.mem_range.mp (List.mem_of_find?_eq_some h)
  have h2 := List.find?_some h
  exact ⟨by omega, of_decide_eq_true h2⟩
def srtN (l : List Nat) : List Nat := l.mergeSort fun a b => decide (a ≤ b)
theorem srtN_perm (l : List Nat) : (srtN l).Perm l := List.mergeSort_perm _ _
theorem srtN_up (l : List Nat) : (srtN l).Pairwise (· ≤ ·) := (List.pairwise_mergeSort (le := fun a b : Nat => decide (a ≤ b)) (fun a b c h1 h2 => by simp only [decide_eq_true_eq] at h1 h2 ⊢; omega) (fun a b => by simp only [Bool.or_eq_true, decide_eq_true_eq]; omega) l).imp fun h => of_decide_eq_true h
theorem srtN_eq {l l2 : List Nat} (p : l2.Perm l) (up : l2.Pairwise (· ≤ ·)) : l2 = srtN l :=
  (p.trans (srtN_perm l).symm).eq_of_pairwise (le := (· ≤ ·)) (fun a b _ _ h1 h2 => Nat.le_antisymm h1 h2) up (srtN_up l)
def spF (n mo : Int) (rs : List Stretch) (i : Nat) : Sp3 := spR n mo (st rs ((bsZ n rs mo).getD i 0))
def liF (n mo : Int) (rs : List Stretch) (nb : Int) (ins : List Nat) (k : Nat) : Int := nb - (loadOn n rs ins (lnM n mo k) : Int)
noncomputable def tkF (n mo : Int) (rs : List Stretch) (nb : Int) (ins : List Nat) : Nat → Bool := chT (n - 1).toNat (bsZ n rs mo).length (spF n mo rs) (liF n mo rs nb ins)
noncomputable def prF (n mo : Int) (rs : List Stretch) (nb : Int) (ins : List Nat) : Nat → Int := chP (n - 1).toNat (bsZ n rs mo).length (spF n mo rs) (liF n mo rs nb ins)
noncomputable def lfL (n mo : Int) (rs : List Stretch) (nb : Int) (ins : List Nat) : List Nat := srtN (ins ++ chL (bsZ n rs mo) (tkF n mo rs nb ins))
noncomputable def lfP (n mo : Int) (rs : List Stretch) (nb : Int) (ins : List Nat) : Paper := ppZ n mo (prF n mo rs nb ins)
abbrev BE := Option (Int × List Nat)
/-- the tree behind a choice of the first ones over the seam, and the best that is found -/
noncomputable def trF (n mo : Int) (rs : List Stretch) (nb : Int) : List Nat → List Nat → BE → Tr × BE
  | [], ins, be => (match crF n rs nb ins with
    | some m => (.cr (m : Int), be)
    | none => (.pr (lfP n mo rs nb ins), beL rs be (lfL n mo rs nb ins)))
  | i :: r, ins, be => (match crF n rs nb ins with
    | some m => (.cr (m : Int), be)
    | none => (.sp i (trF n mo rs nb r (ins ++ [i]) be).1 (trF n mo rs nb r ins (trF n mo rs nb r (ins ++ [i]) be).2).1, (trF n mo rs nb r ins (trF n mo rs nb r (ins ++ [i]) be).2).2))
theorem bs_off {n mo : Int} {rs : List Stretch} {i : Nat} (h : i ∈ bsZ n rs mo) : i < rs.length ∧ overR n (st rs i) mo = false := by
  obtain ⟨h1, h2⟩ := List.mem_filter.mp h
  have h2 := of_decide_eq_true h2
  unfold ovZ at h2
  rw [List.mem_filter, not_and] at h2
  exact ⟨List.mem_range.mp h1, Bool.eq_false_iff.mpr (h2 h1)⟩
theorem sp_ok {n mo : Int} {rs : List Stretch} (hr : RgOk n rs) (m0 : 0 ≤ mo) (m1 : mo < n) : ∀ i, i < (bsZ n rs mo).length → (spF n mo rs i).b < (spF n mo rs i).e ∧ (spF n mo rs i).e ≤ (n - 1).toNat ∧ 0 ≤ (spF n mo rs i).w := fun i hi => by
  have hm := bs_off (getN_mem hi)
  have := hr.all _ (st_mem hm.1)
  exact cut_sp ⟨m0, m1, this.e1, this.w0, hm.2⟩
theorem li_ok {n mo : Int} {rs : List Stretch} {nb : Int} {ins : List Nat} (n1 : 1 ≤ n) (h : crF n rs nb ins = none) : ∀ k, k < (n - 1).toNat → 0 ≤ liF n mo rs nb ins k := fun k _ => by
  have := lnM_rg (n := n) (mo := mo) (by omega) k
  have := cr_none h this.1 this.2
  unfold liF
  omega
/-- where the tree is: ins put inside, outs put outside, rest yet to come -/
structure TrAt (n mo : Int) (rs : List Stretch) (rest ins outs : List Nat) : Prop where
  rg : RgOk n rs
  m0 : 0 ≤ mo
  m1 : mo < n
  nd : ins.Nodup
  lt : ∀ i ∈ ins, i < rs.length
  rn : rest.Nodup
  fr : ∀ i ∈ rest, i ∈ freeZ rs ins outs
  bs : bsZ n rs mo = freeZ rs (ins ++ rest) outs
theorem TrAt.leaf {n mo : Int} {rs : List Stretch} {nb : Int} {ins outs : List Nat} (T : TrAt n mo rs [] ins outs) (h : crF n rs nb ins = none) : LeafIs n rs nb ins outs (lfL n mo rs nb ins) (lfP n mo rs nb ins) := by
  have n1 := T.rg.n1
  have L : LineIs n mo rs nb ins outs (bsZ n rs mo) (tkF n mo rs nb ins) (prF n mo rs nb ins) :=
    ⟨T.rg, T.m0, T.m1, fun i hi => (bs_off hi).2, by have := T.bs; rw [List.append_nil] at this; exact this, T.nd, T.lt, fun m a b => cr_none h a b, chosen_ok (sp_ok T.rg T.m0 T.m1) (li_ok n1 h)⟩
  exact L.leaf (srtN_perm _) (srtN_up _)
theorem free_snoc {rs : List Stretch} {ins outs : List Nat} {i : Nat} (r : List Nat) : freeZ rs (ins ++ i :: r) outs = freeZ rs ((ins ++ [i]) ++ r) outs := by rw [List.append_assoc]; rfl
theorem free_cross {rs : List Stretch} {ins outs : List Nat} {i : Nat} (r : List Nat) : freeZ rs (ins ++ i :: r) outs = freeZ rs (ins ++ r) (outs ++ [i]) := by
  unfold freeZ
  refine List.filter_congr fun j _ => ?_
  simp only [List.mem_append, List.mem_cons, List.not_mem_nil, or_false]
  by_cases a : j ∈ ins <;> by_cases b : j = i <;> by_cases c : j ∈ r <;> by_cases d : j ∈ outs <;> simp [a, b, c, d]
theorem TrAt.in_ {n mo : Int} {rs : List Stretch} {ins outs r : List Nat} {i : Nat} (T : TrAt n mo rs (i :: r) ins outs) : TrAt n mo rs r (ins ++ [i]) outs := by
  obtain ⟨f1, f2, f3⟩ := free_mem.mp (T.fr i List.mem_cons_self)
  have rn := List.nodup_cons.mp T.rn
  refine ⟨T.rg, T.m0, T.m1, List.nodup_append.mpr ⟨T.nd, by simp, fun a ha b hb e => f2 (by rw [List.mem_singleton.mp hb] at e; exact e ▸ ha)⟩, fun j hj => ?_, rn.2, fun j hj => ?_, by rw [← free_snoc]; exact T.bs⟩
  · rcases List.mem_append.mp hj with q | q
    · exact T.lt j q
    · rw [List.mem_singleton.mp q]; exact f1
  · obtain ⟨g1, g2, g3⟩ := free_mem.mp (T.fr j (List.mem_cons_of_mem _ hj))
    exact free_mem.mpr ⟨g1, fun q => (List.mem_append.mp q).elim g2 fun q => rn.1 (by rw [← List.mem_singleton.mp q]; exact hj), g3⟩
theorem TrAt.out_ {n mo : Int} {rs : List Stretch} {ins outs r : List Nat} {i : Nat} (T : TrAt n mo rs (i :: r) ins outs) : TrAt n mo rs r ins (outs ++ [i]) := by
  have rn := List.nodup_cons.mp T.rn
  refine ⟨T.rg, T.m0, T.m1, T.nd, T.lt, rn.2, fun j hj => ?_, by rw [← free_cross]; exact T.bs⟩
  obtain ⟨g1, g2, g3⟩ := free_mem.mp (T.fr j (List.mem_cons_of_mem _ hj))
  exact free_mem.mpr ⟨g1, g2, fun q => (List.mem_append.mp q).elim g3 fun q => rn.1 (by rw [← List.mem_singleton.mp q]; exact hj)⟩
/-- what a tree's leaves claim, as the law walks it -/
def clm (n : Int) (rs : List Stretch) (nb : Int) : Tr → List Nat → List Nat → Option (List Int)
  | .pr pp, ins, outs => some [priceZ n rs nb pp ins outs]
  | .cr m, ins, _ => if (0 ≤ m ∧ m < n) ∧ nb < (loadOn n rs ins m : Int) then some [] else none
  | .sp i a b, ins, outs => if i ∈ freeZ rs ins outs then
      (match clm n rs nb a (ins ++ [i]) outs with
        | some s1 => (match clm n rs nb b ins (outs ++ [i]) with
          | some s2 => some (s1 ++ s2)
          | none => none)
        | none => none) else none
/-- the better is found -/
structure BeOk (n : Int) (rs : List Stretch) (nb : Int) (be be' : BE) (s : List Int) : Prop where
  up : ∀ x, be = some x → ∃ y, be' = some y ∧ x.1 ≤ y.1
  all : ∀ v ∈ s, ∃ y, be' = some y ∧ v ≤ y.1
  new : be' = be ∨ ∃ y, be' = some y ∧ y.1 ∈ s ∧ y.1 = worthOf rs y.2 ∧ Some rs.length y.2 ∧ ∀ m : Int, 0 ≤ m → m < n → (loadOn n rs y.2 m : Int) ≤ nb
theorem BeOk.trans {n : Int} {rs : List Stretch} {nb : Int} {a b c : BE} {s t : List Int} (h : BeOk n rs nb a b s) (k : BeOk n rs nb b c t) : BeOk n rs nb a c (s ++ t) where
  up := fun x hx => let ⟨y, hy, l⟩ := h.up x hx; let ⟨z, hz, m⟩ := k.up y hy; ⟨z, hz, Int.le_trans l m⟩
  all := fun v hv => by
    rcases List.mem_append.mp hv with q | q
    · obtain ⟨y, hy, l⟩ := h.all v q
      obtain ⟨z, hz, m⟩ := k.up y hy
      exact ⟨z, hz, Int.le_trans l m⟩
    · exact k.all v q
  new := by
    rcases k.new with e | ⟨y, e, m, r⟩
    · rcases h.new with e2 | ⟨y, e2, m, r⟩
      · exact .inl (e.trans e2)
      · exact .inr ⟨y, e.trans e2, List.mem_append_left _ m, r⟩
    · exact .inr ⟨y, e, List.mem_append_right _ m, r⟩
theorem be_leaf {n mo : Int} {rs : List Stretch} {nb : Int} {ins outs : List Nat} {be : BE} (T : TrAt n mo rs [] ins outs) (h : crF n rs nb ins = none) : BeOk n rs nb be (beL rs be (lfL n mo rs nb ins)) [priceZ n rs nb (lfP n mo rs nb ins) ins outs] := by
  have L := T.leaf h
  have fresh : beL rs be (lfL n mo rs nb ins) = some (worthOf rs (lfL n mo rs nb ins), lfL n mo rs nb ins) → beL rs be (lfL n mo rs nb ins) = be ∨ ∃ y, beL rs be (lfL n mo rs nb ins) = some y ∧ y.1 ∈ [priceZ n rs nb (lfP n mo rs nb ins) ins outs] ∧ y.1 = worthOf rs y.2 ∧ Some rs.length y.2 ∧ ∀ m : Int, 0 ≤ m → m < n → (loadOn n rs y.2 m : Int) ≤ nb := fun e =>
    .inr ⟨_, e, by rw [L.eq]; exact List.mem_singleton.mpr rfl, rfl, L.some, L.load⟩
  cases be with
  | none => exact ⟨fun x e => (nomatch e), fun v hv => ⟨_, rfl, by rw [List.mem_singleton.mp hv, L.eq]; exact Int.le_refl _⟩, fresh rfl⟩
  | some x =>
    by_cases c : x.1 < worthOf rs (lfL n mo rs nb ins)
    · have e : beL rs (some x) (lfL n mo rs nb ins) = some (worthOf rs (lfL n mo rs nb ins), lfL n mo rs nb ins) := by unfold beL; exact if_pos c
      exact ⟨fun y hy => by cases hy; exact ⟨_, e, by show x.1 ≤ worthOf _ _; omega⟩, fun v hv => ⟨_, e, by rw [List.mem_singleton.mp hv, L.eq]; exact Int.le_refl _⟩, fresh e⟩
    · have e : beL rs (some x) (lfL n mo rs nb ins) = some x := by unfold beL; exact if_neg c
      exact ⟨fun y hy => by cases hy; exact ⟨_, e, Int.le_refl _⟩, fun v hv => ⟨_, e, by rw [List.mem_singleton.mp hv, L.eq]; omega⟩, .inl e⟩
/-- what the tree is -/
structure TrOkF (n : Int) (rs : List Stretch) (nb : Int) (d : Nat) (ins outs : List Nat) (be : BE) (t : Tr) (be' : BE) : Prop where
  cl : ∃ s, clm n rs nb t ins outs = some s ∧ BeOk n rs nb be be' s ∧ (crF n rs nb ins = none → s ≠ [])
  pap : t.pap n
  small : t.small
  dep : t.dep ≤ d + 1
  size : t.size + 1 ≤ 2 ^ (d + 1)
theorem trF_ok {n mo : Int} {rs : List Stretch} {nb : Int} : ∀ {rest ins outs : List Nat} {be : BE}, TrAt n mo rs rest ins outs → TrOkF n rs nb rest.length ins outs be (trF n mo rs nb rest ins be).1 (trF n mo rs nb rest ins be).2
  | [], ins, outs, be, T => by
    have n2 := T.rg.n2
    unfold trF
    cases e : crF n rs nb ins with
    | some m =>
      obtain ⟨h1, h2⟩ := cr_some e
      exact ⟨⟨[], by unfold clm; rw [if_pos ⟨⟨by omega, h1⟩, h2⟩], ⟨fun x hx => ⟨x, hx, Int.le_refl _⟩, fun v hv => (nomatch hv), .inl rfl⟩, fun q => by rw [e] at q; cases q⟩, trivial, ⟨by omega, by omega⟩, Nat.le_add_left _ _, by simp [Tr.size]⟩
    | none =>
      have L := T.leaf e
      exact ⟨⟨_, rfl, be_leaf T e, fun _ q => (nomatch q)⟩, ⟨L.ok, L.rg⟩, trivial, Nat.le_add_left _ _, by simp [Tr.size]⟩
  | i :: r, ins, outs, be, T => by
    have n2 := T.rg.n2
    have rl := T.rg.len
    unfold trF
    have fi := free_mem.mp (T.fr i List.mem_cons_self)
    cases e : crF n rs nb ins with
    | some m =>
      obtain ⟨h1, h2⟩ := cr_some e
      have := Nat.one_le_two_pow (n := r.length)
      exact ⟨⟨[], by unfold clm; rw [if_pos ⟨⟨by omega, h1⟩, h2⟩], ⟨fun x hx => ⟨x, hx, Int.le_refl _⟩, fun v hv => (nomatch hv), .inl rfl⟩, fun q => by rw [e] at q; cases q⟩, trivial, ⟨by omega, by omega⟩, by simp only [Tr.dep]; omega, by simp only [Tr.size, List.length_cons, Nat.pow_succ]; omega⟩
    | none =>
      have A := trF_ok (nb := nb) (be := be) T.in_
      have B := trF_ok (nb := nb) (be := (trF n mo rs nb r (ins ++ [i]) be).2) T.out_
      obtain ⟨s1, c1, b1, _⟩ := A.cl
      obtain ⟨s2, c2, b2, x2⟩ := B.cl
      refine ⟨⟨s1 ++ s2, ?_, b1.trans b2, fun _ q => x2 e (List.append_eq_nil_iff.mp q).2⟩, ⟨A.pap, B.pap⟩, ⟨by omega, A.small, B.small⟩, ?_, ?_⟩
      · unfold clm
        rw [if_pos (T.fr i List.mem_cons_self), c1]
        dsimp only
        rw [c2]
      · have := A.dep
        have := B.dep
        simp only [Tr.dep, List.length_cons]
        omega
      · have a := A.size
        have b := B.size
        simp only [Tr.size, List.length_cons]
        rw [Nat.pow_succ]
        omega
theorem tr_start {n mo : Int} {rs : List Stretch} (hr : RgOk n rs) (m0 : 0 ≤ mo) (m1 : mo < n) : TrAt n mo rs (ovZ n rs mo) [] [] := by
  refine ⟨hr, m0, m1, .nil, fun i hi => (nomatch hi), List.nodup_range.sublist List.filter_sublist, fun i hi => free_mem.mpr ⟨List.mem_range.mp (List.mem_filter.mp hi).1, fun h => (nomatch h), fun h => (nomatch h)⟩, ?_⟩
  unfold bsZ freeZ
  exact List.filter_congr fun i _ => by simp
/-- the whole tree, and the best -/
noncomputable def moT (n : Int) (rs : List Stretch) (nb : Int) : Tr := (trF n (seamF n rs) rs nb (ovZ n rs (seamF n rs)) [] none).1
noncomputable def moB (n : Int) (rs : List Stretch) (nb : Int) : BE := (trF n (seamF n rs) rs nb (ovZ n rs (seamF n rs)) [] none).2
structure MostR (n : Int) (rs : List Stretch) (nb : Int) (w : Int) (l : List Nat) : Prop where
  be : moB n rs nb = some (w, l)
  wo : w = worthOf rs l
  some : Some rs.length l
  load : ∀ m : Int, 0 ≤ m → m < n → (loadOn n rs l m : Int) ≤ nb
  cl : ∃ s, clm n rs nb (moT n rs nb) [] [] = .some s ∧ w ∈ s ∧ ∀ v ∈ s, v ≤ w
theorem most_ringF {n : Int} {rs : List Stretch} {nb : Int} (hr : RgOk n rs) (n0 : 0 ≤ nb) : ∃ w l, MostR n rs nb w l := by
  have mo := seam_ok (rs := rs) hr.n1
  have T := trF_ok (nb := nb) (be := none) (tr_start hr mo.m0 mo.m1)
  obtain ⟨s, c, b, x⟩ := T.cl
  have e : crF n rs nb [] = none := by
    unfold crF
    rw [List.find?_eq_none]
    intro m _
    have : loadOn n rs [] (m : Int) = 0 := rfl
    rw [this]
    simp
    omega
  have ne := x e
  rcases b.new with q | ⟨y, q, m, wo, so, lo⟩
  · obtain ⟨v, hv⟩ := List.exists_mem_of_ne_nil s ne
    obtain ⟨y, hy, _⟩ := b.all v hv
    rw [q] at hy
    cases hy
  · exact ⟨y.1, y.2, q, wo, so, lo, s, c, m, fun v hv => by
      obtain ⟨z, hz, l⟩ := b.all v hv
      have e2 : Option.some y = Option.some z := q.symm.trans hz
      cases e2
      exact l⟩
theorem clm_weak {n : Int} {rs : List Stretch} {nb : Int} {l : List Nat} (hs : Some rs.length l) (hk : ∀ m : Int, 0 ≤ m → m < n → (loadOn n rs l m : Int) ≤ nb) : ∀ (t : Tr) {ins outs : List Nat} {s : List Int}, clm n rs nb t ins outs = some s → t.pap n → ins.Nodup → (∀ i ∈ ins, i ∈ l) → (∀ i ∈ outs, i ∉ l) → ∃ v ∈ s, worthOf rs l ≤ v
  | .pr pp, ins, outs, s, h, hp, ni, hi, ho => by
    unfold clm at h
    cases h
    exact ⟨_, List.mem_singleton.mpr rfl, leaf_weak hs hp.1.p1 (fun x hx => hk x.1 (hp.2 x hx).1 (hp.2 x hx).2) ni hi ho⟩
  | .cr m, ins, outs, s, h, hp, ni, hi, ho => by
    unfold clm at h
    split at h
    · rename_i c
      have nl : l.Nodup := hs.up.imp fun h e => by omega
      have a := load_subR (n := n) (rs := rs) (m := m) ni nl hi
      have b := hk m c.1.1 c.1.2
      omega
    · cases h
  | .sp i a b, ins, outs, s, h, hp, ni, hi, ho => by
    unfold clm at h
    split at h
    · rename_i c
      obtain ⟨f1, f2, f3⟩ := free_mem.mp c
      split at h
      · rename_i s1 e1
        split at h
        · rename_i s2 e2
          cases h
          by_cases c : i ∈ l
          · obtain ⟨v, hv, w⟩ := clm_weak hs hk a e1 hp.1 (List.nodup_append.mpr ⟨ni, by simp, fun x hx y hy e => f2 (by rw [List.mem_singleton.mp hy] at e; exact e ▸ hx)⟩) (fun j hj => by
              rcases List.mem_append.mp hj with q | q
              · exact hi j q
              · rw [List.mem_singleton.mp q]; exact c) ho
            exact ⟨v, List.mem_append_left _ hv, w⟩
          · obtain ⟨v, hv, w⟩ := clm_weak hs hk b e2 hp.2 ni hi (fun j hj => by
              rcases List.mem_append.mp hj with q | q
              · exact ho j q
              · rw [List.mem_singleton.mp q]; exact c)
            exact ⟨v, List.mem_append_right _ hv, w⟩
        · cases h
      · cases h
    · cases h
/-- no choice is worth more -/
theorem MostR.max {n : Int} {rs : List Stretch} {nb w : Int} {l l2 : List Nat} (M : MostR n rs nb w l) (hr : RgOk n rs) (hs : Some rs.length l2) (hk : ∀ m : Int, 0 ≤ m → m < n → (loadOn n rs l2 m : Int) ≤ nb) : worthOf rs l2 ≤ w := by
  have mo := seam_ok (rs := rs) hr.n1
  have T := trF_ok (nb := nb) (be := none) (tr_start hr mo.m0 mo.m1)
  obtain ⟨s, c, _, a⟩ := M.cl
  obtain ⟨v, hv, h⟩ := clm_weak hs hk _ c T.pap .nil (fun i hi => nomatch hi) (fun i hi => nomatch hi)
  have := a v hv
  omega
end DL
set_option Elab.async false
set_option linter.all false
set_option maxRecDepth 100000
set_option maxHeartbeats 4000000
namespace DL
open PySem PySem.Spec PyProof.Rows L2 LN
/-- a tree whose lists are owned: its addresses -/
inductive RTr (G : Gp) : Tr → D → List Addr → Prop
  | pr {pp : Paper} {p : Addr} : G p = some (.lst (pp.map qD)) → RTr G (.pr pp) (.tup [.str "prices", .ref p]) [p]
  | cr {m : Int} : RTr G (.cr m) (.tup [.str "crowd", .int m]) []
  | sp {i : Nat} {a b : Tr} {da db : D} {A B : List Addr} {p : Addr} : G p = some (.lst [da, db]) → RTr G a da A → RTr G b db B → RTr G (.sp i a b) (.tup [.str "split", .int (i : Int), .ref p]) (p :: (A ++ B))
theorem RTr.mono {G G' : Gp} : ∀ {t : Tr} {d : D} {A : List Addr}, RTr G t d A → (∀ a ∈ A, G' a = G a) → RTr G' t d A
  | _, _, _, .pr h, e => .pr (by rw [e _ (List.mem_singleton.mpr rfl)]; exact h)
  | _, _, _, .cr, _ => .cr
  | _, _, _, .sp h a b, e => .sp (by rw [e _ List.mem_cons_self]; exact h) (a.mono fun x hx => e x (List.mem_cons_of_mem _ (List.mem_append_left _ hx))) (b.mono fun x hx => e x (List.mem_cons_of_mem _ (List.mem_append_right _ hx)))
theorem RTr.lst {G : Gp} : ∀ {t : Tr} {d : D} {A : List Addr}, RTr G t d A → ∀ a ∈ A, ∃ ds, G a = some (.lst ds)
  | _, _, _, .pr h, a, ha => by rw [List.mem_singleton.mp ha]; exact ⟨_, h⟩
  | _, _, _, .cr, a, ha => nomatch ha
  | _, _, _, .sp h x y, a, ha => by
    rcases List.mem_cons.mp ha with rfl | q
    · exact ⟨_, h⟩
    · rcases List.mem_append.mp q with q | q
      · exact x.lst a q
      · exact y.lst a q
theorem RTr.fr {G : Gp} : ∀ {t : Tr} {d : D} {A : List Addr}, RTr G t d A → FrD G d t.d
  | _, _, _, .pr h => .tup (.cons (.pl rfl) (.cons (.ref h (frds_pl (plainDs_map (fun _ => rfl) _))) .nil))
  | _, _, _, .cr => .pl rfl
  | _, _, _, .sp h a b => .tup (.cons (.pl rfl) (.cons (.pl rfl) (.cons (.ref h (.cons a.fr (.cons b.fr .nil))) .nil)))
/-- the best, its choice owned -/
inductive BeR (G : Gp) : D → BE → Option Addr → Prop
  | non : BeR G .non none none
  | som {w : Int} {l : List Nat} {c : Addr} : G c = some (.lst (nD l)) → BeR G (.tup [.int w, .ref c]) (some (w, l)) (some c)
def F_seam_ofF : Sf := fun ds G Q => ∃ n rs, ds = [ringD n rs] ∧ RgOk n rs ∧ Q (.int (seamF n rs)) G
def F_Seam___init__F : Sf := fun ds G Q => ∃ x dx n rs nb, ds = [.ref x, ringD n rs, .int nb] ∧ RgOk n rs ∧ G x = some (.ins "Seam" dx [] []) ∧ Q .non (gput G x (smO dx n rs nb (seamF n rs) .non))
def crD : Option Nat → D
  | none => .non
  | some m => .int (m : Int)
def F_Seam_crowdedF : Sf := fun ds G Q => ∃ x dx n rs nb mo be, ∃ ins : List Nat, ds = [.ref x, .lst (nD ins)] ∧ G x = some (smO dx n rs nb mo be) ∧ RgOk n rs ∧ (∀ i ∈ ins, i < rs.length) ∧ Q (crD (crF n rs nb ins)) G
def F_Seam_leafO : Sf := fun ds G Q => ∃ x dx n rs nb mo d0 be c0, ∃ ins : List Nat, ds = [.ref x, .lst (nD ins)] ∧ G x = some (smO dx n rs nb mo d0) ∧ BeR G d0 be c0 ∧ RgOk n rs ∧ 0 ≤ mo ∧ mo < n ∧ ins.Nodup ∧ (∀ i ∈ ins, i < rs.length) ∧ crF n rs nb ins = none ∧
  ∀ (G' : Gp) (d1 d : D) (c1 : Option Addr) (A : List Addr), (∀ a o, a ≠ x → G a = some o → G' a = some o) → G' x = some (smO dx n rs nb mo d1) → BeR G' d1 (beL rs be (lfL n mo rs nb ins)) c1 → RTr G' (.pr (lfP n mo rs nb ins)) d A → A.Nodup → (∀ a ∈ A, G a = none) → (∀ c, c1 = some c → c ∉ A ∧ (c0 = some c ∨ G c = none)) → Q d G'
def F_Seam_treeO : Nat → Sf
  | 0 => fun _ _ _ => False
  | k + 1 => fun ds G Q => ∃ x dx n rs nb mo d0 be c0, ∃ ins : List Nat, ∃ at_ : Nat, ds = [.ref x, .int (at_ : Int), .lst (nD ins)] ∧ G x = some (smO dx n rs nb mo d0) ∧ BeR G d0 be c0 ∧ RgOk n rs ∧ 0 ≤ mo ∧ mo < n ∧ at_ ≤ (ovZ n rs mo).length ∧ (ovZ n rs mo).length - at_ ≤ k ∧ (ins ++ (ovZ n rs mo).drop at_).Nodup ∧ (∀ i ∈ ins, i < rs.length) ∧
    ∀ (G' : Gp) (d1 d : D) (c1 : Option Addr) (A : List Addr), (∀ a o, a ≠ x → G a = some o → G' a = some o) → G' x = some (smO dx n rs nb mo d1) → BeR G' d1 (trF n mo rs nb ((ovZ n rs mo).drop at_) ins be).2 c1 → RTr G' (trF n mo rs nb ((ovZ n rs mo).drop at_) ins be).1 d A → A.Nodup → (∀ a ∈ A, G a = none) → (∀ c, c1 = some c → c ∉ A ∧ (c0 = some c ∨ G c = none)) → Q d G'
def F_ring_mostO : Sx := fun ds G Q U => ∃ n rs nb, ds = [ringD n rs, .int nb] ∧ RgOk n rs ∧ 0 ≤ nb ∧
  ((ovZ n rs (seamF n rs)).length ≤ 6 → ∀ (G' : Gp) (w : Int) (l : List Nat) (c : Addr) (d : D) (A : List Addr), MostR n rs nb w l → (∀ a o, G a = some o → G' a = some o) → G' c = some (.lst (nD l)) → RTr G' (moT n rs nb) d A → A.Nodup → c ∉ A → G c = none → (∀ a ∈ A, G a = none) → Q (.tup [.int w, .ref c, d]) G') ∧
  (6 < (ovZ n rs (seamF n rs)).length → U ⟨"TooMany", none⟩ G)
def r_seam_ofF : ES :=
  (sSeq (sAsg (eCall F_ring_loads (eCons (eVar 0) (eCons (eListRange (eCons (eCB cLen (eCons (eOp oIx (eVar 0) (eC (.int 1))) eNil)) eNil)) eNil))) (.nm 1))
  (sRet (eBm mIdxI (eVar 1) (eCons (eCB cMin (eCons (eVar 1) eNil)) eNil))))
def r_Seam___init__F : ES :=
  (sSeq (sFldD "Seam" "ring" (eVar 1) (eVar 0))
  (sSeq (sFldD "Seam" "benches" (eVar 2) (eVar 0))
  (sSeq (sFldD "Seam" "moment" (eCall F_seam_ofF (eCons (eVar 1) eNil)) (eVar 0))
  (sSeq (sAsg (eListRange (eCons (eCB cLen (eCons (eOp oIx (eVar 1) (eC (.int 1))) eNil)) eNil)) (.nm 3))
  (sSeq (sFldD "Seam" "over_it" (eLc (iL (eVar 3)) (.nm 4) (eT (eOp oEq (eCall F_load_on (eCons (eVar 1) (eCons (eLst (eCons (eVar 4) eNil)) (eCons (eFld "Seam" "moment" (eVar 0)) eNil)))) (eC (.int 1)))) (eVar 4) [4]) (eVar 0))
  (sSeq (sFldD "Seam" "beside_it" (eLc (iL (eVar 3)) (.nm 4) (eT (eOp (oIn true) (eVar 4) (eFld "Seam" "over_it" (eVar 0)))) (eVar 4) [4]) (eVar 0))
  (sFldD "Seam" "best" (eC .non) (eVar 0))))))))
def r_Seam_crowdedF_L1 : ES :=
  (sIf (eT (eOp oGt (eCall F_load_on (eCons (eFld "Seam" "ring" (eVar 0)) (eCons (eVar 1) (eCons (eVar 2) eNil)))) (eFld "Seam" "benches" (eVar 0)))) (sRet (eVar 2)) sNext)
def r_Seam_crowdedF : ES :=
  (sSeq (sFor (iR1 (eCons (eOp oIx (eFld "Seam" "ring" (eVar 0)) (eC (.int 0))) eNil)) (.nm 2) r_Seam_crowdedF_L1)
  (sRet (eC .non)))
def r_Seam_leafO : ES :=
  (sSeq (sAsg (eMeth "Seam" "line_moments" F_Seam_line_moments (eVar 0) eNil) (.nm 2))
  (sSeq (sAsg (eLc (iL (eVar 2)) (.nm 8) eYes (eOp oSub (eFld "Seam" "benches" (eVar 0)) (eCall F_load_on (eCons (eFld "Seam" "ring" (eVar 0)) (eCons (eVar 1) (eCons (eVar 8) eNil))))) [8]) (.nm 3))
  (sSeq (sAsg (eCall F_chosen_within (eCons (eMeth "Seam" "line_spans" F_Seam_line_spans (eVar 0) eNil) (eCons (eVar 3) eNil))) (.tp [4, 5]))
  (sSeq (sAsg (eCB cSortedIO (eCons (eOp oAdd (eVar 1) (eLc (iL (eVar 4)) (.nm 11) eYes (eOp oIx (eFld "Seam" "beside_it" (eVar 0)) (eVar 11)) [11])) eNil)) (.nm 6))
  (sSeq (sAsg (eCB cSum (eCons (eLc (iL (eVar 6)) (.nm 9) eYes (eOp oIx (eOp oIx (eOp oIx (eFld "Seam" "ring" (eVar 0)) (eC (.int 1))) (eVar 9)) (eC (.int 3))) [9]) eNil)) (.nm 7))
  (sSeq (sIf (eOr (eT (eOp oIsN (eFld "Seam" "best" (eVar 0)) (eC .non))) (eT (eOp oGt (eVar 7) (eOp oIx (eFld "Seam" "best" (eVar 0)) (eC (.int 0)))))) (sFldD "Seam" "best" (eTup (eCons (eVar 7) (eCons (eVar 6) eNil))) (eVar 0)) sNext)
  (sRet (eTup (eCons (eC (.str "prices")) (eCons (eLcO (iL (eSrtZ (eCons (eVar 2) (eCons (eVar 5) eNil)))) (.nm 10) (eT (eOp oGt (eOp oIx (eVar 10) (eC (.int 1))) (eC (.int 0)))) (eVar 10) [10]) eNil))))))))))
def r_Seam_treeO (n : Nat) : ES :=
  (sSeq (sAsg (eMeth "Seam" "crowded" F_Seam_crowdedF (eVar 0) (eCons (eVar 2) eNil)) (.nm 3))
  (sSeq (sIf (eT (eOp oNotN (eVar 3) (eC .non))) (sRet (eTup (eCons (eC (.str "crowd")) (eCons (eVar 3) eNil)))) sNext)
  (sSeq (sIf (eT (eOp oEq (eVar 1) (eCB cLen (eCons (eFld "Seam" "over_it" (eVar 0)) eNil)))) (sRet (eMeth "Seam" "leaf" F_Seam_leafO (eVar 0) (eCons (eVar 2) eNil))) sNext)
  (sSeq (sAsg (eOp oIx (eFld "Seam" "over_it" (eVar 0)) (eVar 1)) (.nm 4))
  (sRet (eTup (eCons (eC (.str "split")) (eCons (eVar 4) (eCons (eLstO (eCons (eMeth "Seam" "tree" (F_Seam_treeO n) (eVar 0) (eCons (eOp oAdd (eVar 1) (eC (.int 1))) (eCons (eOp oAdd (eVar 2) (eLst (eCons (eVar 4) eNil))) eNil))) (eCons (eMeth "Seam" "tree" (F_Seam_treeO n) (eVar 0) (eCons (eOp oAdd (eVar 1) (eC (.int 1))) (eCons (eVar 2) eNil))) eNil))) eNil)))))))))
def r_ring_mostO : ES :=
  (sSeq (sAsg (eMake "Seam" F_Seam___init__F (eCons (eVar 0) (eCons (eVar 1) eNil))) (.nm 2))
  (sSeq (sIf (eT (eOp oGt (eCB cLen (eCons (eFld "Seam" "over_it" (eVar 2)) eNil)) (eC (.int 6)))) (sRaise "TooMany") sNext)
  (sSeq (sAsg (eMeth "Seam" "tree" (F_Seam_treeO 8) (eVar 2) (eCons (eC (.int 0)) (eCons (eLst eNil) eNil))) (.nm 3))
  (sRet (eTup (eCons (eOp oIx (eFld "Seam" "best" (eVar 2)) (eC (.int 0))) (eCons (eOp oIx (eFld "Seam" "best" (eVar 2)) (eC (.int 1))) (eCons (eVar 3) eNil))))))))
theorem BeR.lst {G : Gp} {d : D} {be : BE} {c : Option Addr} (h : BeR G d be c) {a : Addr} (e : c = some a) : ∃ ds, G a = some (.lst ds) := by
  cases h with
  | non => cases e
  | som h => cases e; exact ⟨_, h⟩
theorem BeR.mono {G G' : Gp} {d : D} {be : BE} {c : Option Addr} (h : BeR G d be c) (k : ∀ a, c = some a → G' a = G a) : BeR G' d be c := by
  cases h with
  | non => exact .non
  | som h => exact .som (by rw [k _ rfl]; exact h)
theorem d_seam_ofF (ds : List D) (G : Gp) (Q : DK) (h : F_seam_ofF ds G Q) : r_seam_ofF (fin G Q) (startD 2 ds) G := by
  obtain ⟨n, rs, rfl, hr, k⟩ := h
  have n1 := hr.n1
  have n2 := hr.n2
  have rl := hr.len
  refine seq_gen fun W hW => ?_
  (try dsimp only [startD, sAsg, eCall, eCons, eVar, asg, eListRange, eCB, eOp, eNil, eC]); (try simp only [List.map_cons, List.map_nil, List.length_cons, List.length_nil, Nat.reduceAdd, List.replicate, List.cons_append, List.nil_append]); (try dsimp only [List.getElem?_cons_zero, List.set_cons_succ, List.set_cons_zero])
  refine ixg_1 (len_lst ?_)
  rw [List.length_map]
  (try dsimp only); (skip); (skip)
  refine ⟨by omega, by omega, ?_⟩
  rw [Int.toNat_natCast, rng_nD]
  refine ⟨n, rs, _, rfl, by omega, n2, fun i hi => List.mem_range.mp hi, ?_⟩
  refine hW _ _ ?_
  have e : ((List.range n.toNat).map fun m : Nat => D.int ((loadOn n rs (List.range rs.length) (m : Int) : Nat) : Int)) = (loadsL n rs).map D.int := by unfold loadsL; rw [List.map_map]; rfl
  rw [e]
  (try dsimp only [sRet, eBm, eVar, List.getElem?_cons_succ, List.getElem?_cons_zero, eCons, eCB, eNil, cMin, lkL_lst, Option.bind_some]); (skip); (skip)
  rw [intsD_map]
  (try dsimp only); (skip); (skip)
  have ll : (loadsL n rs).length = n.toNat := by unfold loadsL; simp
  refine ⟨trivial, by rw [ll]; omega, fun v hv hm => ?_⟩
  refine ⟨_, _, lkL_lst, intsD_map _, hv, ?_⟩
  have es : seamF n rs = (((loadsL n rs).idxOf v : Nat) : Int) := by unfold seamF; rw [minI_eq hv hm]
  rw [es] at k
  exact fin_id k
theorem d_Seam___init__F (ds : List D) (G : Gp) (Q : DK) (h : F_Seam___init__F ds G Q) : r_Seam___init__F (fin G Q) (startD 5 ds) G := by
  obtain ⟨x, dx, n, rs, nb, rfl, hr, hx, k⟩ := h
  have n1 := hr.n1
  have rl := hr.len
  generalize hmo : seamF n rs = mo at k
  refine seq_gen fun W hW => ?_
  (try dsimp only [startD]); (try simp only [List.map_cons, List.map_nil, List.length_cons, List.length_nil, Nat.reduceAdd, List.replicate, List.cons_append, List.nil_append]); (skip)
  refine set_at (v := ringD n rs) (ks' := ["ring"]) (ds' := [ringD n rs]) rfl (fun Q q => q) hx (by decide +kernel) (by simp [putFv]) (by decide) (hW _ _ ?_)
  refine seq_gen fun W2 hW2 => ?_
  refine set_at (v := .int nb) (ks' := ["ring", "benches"]) (ds' := [ringD n rs, .int nb]) rfl (fun Q q => q) gput_same (by decide +kernel) (by simp [putFv]) (by decide) (hW2 _ _ ?_)
  rw [gput_gput]
  refine seq_gen fun W3 hW3 => ?_
  refine set_at (v := .int mo) (ks' := ["ring", "benches", "moment"]) (ds' := [ringD n rs, .int nb, .int mo]) rfl (fun Q q => ?_) gput_same (by decide +kernel) (by simp [putFv]) (by decide) (hW3 _ _ ?_)
  · (try dsimp only [eCall, eCons, eVar, List.getElem?_cons_succ, List.getElem?_cons_zero, eNil]); (skip); (skip)
    exact ⟨n, rs, rfl, hr, by rw [hmo]; exact q⟩
  rw [gput_gput]
  refine seq_gen fun W4 hW4 => ?_
  (try dsimp only [sAsg, eListRange, eCons, eCB, eOp, eVar, List.getElem?_cons_succ, List.getElem?_cons_zero, asg, List.set_cons_succ, List.set_cons_zero, eNil, eC]); (skip); (skip)
  refine ixg_1 (len_lst ?_)
  rw [List.length_map]
  (try dsimp only); (skip); (skip)
  refine ⟨by omega, by omega, ?_⟩
  rw [Int.toNat_natCast, rng_nat0]
  refine hW4 _ _ ?_
  refine seq_gen fun W5 hW5 => ?_
  refine set_at (v := .lst (nD (ovZ n rs mo))) (ks' := ["ring", "benches", "moment", "over_it"]) (ds' := [ringD n rs, .int nb, .int mo, .lst (nD (ovZ n rs mo))]) rfl (fun Q q => ?_) gput_same (by decide +kernel) (by simp [putFv]) (by decide) (hW5 _ _ ?_)
  · (try dsimp only [eLc, iL, eVar, List.getElem?_cons_succ, List.getElem?_cons_zero, wipeD, List.set_cons_succ, List.set_cons_zero, stays, lkL_lst]); (skip); (skip)
    refine compW_map (p := fun i => overR n (st rs i) mo) (f := fun i : Nat => D.int (i : Int)) trivial (List.range rs.length) [] (fun i hi => ⟨_, rfl, fun R r => ?_, fun _ R r => ?_⟩) ?_
    · (try dsimp only [List.set_cons_succ, List.set_cons_zero, eT, eOp, eCall, eCons, eVar, List.getElem?_cons_succ, List.getElem?_cons_zero, eC, eLst, eNil]); (try simp only [List.length_cons, List.length_nil, Nat.reduceAdd, sizeLine_eq, Nat.reduceLeDiff, true_and]); (skip)
      refine fld_at (d := .int mo) rfl gput_same (by simp [lkF]) ?_
      refine ⟨n, rs, [i], mo, rfl, by omega, fun j hj => by rw [List.mem_singleton.mp hj]; exact List.mem_range.mp hi, ?_⟩
      rw [load_oneR]
      refine eq_ii ?_
      by_cases c : overR n (st rs i) mo = true
      · rw [if_pos c, decide_eq_true rfl]; rw [c] at r; exact r
      · rw [if_neg c, decide_eq_false (by decide)]; rw [Bool.eq_false_iff.mpr c] at r; exact r
    · (try dsimp only [List.set_cons_succ, List.set_cons_zero, eVar, List.getElem?_cons_succ, List.getElem?_cons_zero]); (skip); (skip)
      exact r
    · exact q
  rw [gput_gput]
  refine seq_gen fun W6 hW6 => ?_
  refine set_at (v := .lst (nD (bsZ n rs mo))) (ks' := ["ring", "benches", "moment", "over_it", "beside_it"]) (ds' := [ringD n rs, .int nb, .int mo, .lst (nD (ovZ n rs mo)), .lst (nD (bsZ n rs mo))]) rfl (fun Q q => ?_) gput_same (by decide +kernel) (by simp [putFv]) (by decide) (hW6 _ _ ?_)
  · (try dsimp only [eLc, iL, eVar, List.getElem?_cons_succ, List.getElem?_cons_zero, wipeD, List.set_cons_succ, List.set_cons_zero, stays, lkL_lst]); (skip); (skip)
    refine compW_map (p := fun i => decide (i ∉ ovZ n rs mo)) (f := fun i : Nat => D.int (i : Int)) trivial (List.range rs.length) [] (fun i hi => ⟨_, rfl, fun R r => ?_, fun _ R r => ?_⟩) ?_
    · (try dsimp only [List.set_cons_succ, List.set_cons_zero, eT, eOp, eVar, List.getElem?_cons_succ, List.getElem?_cons_zero]); (skip); (skip)
      refine fld_at (d := .lst (nD (ovZ n rs mo))) rfl gput_same (by simp [lkF]) ?_
      exact notIn_nats r
    · (try dsimp only [List.set_cons_succ, List.set_cons_zero, eVar, List.getElem?_cons_succ, List.getElem?_cons_zero]); (skip); (skip)
      exact r
    · exact q
  rw [gput_gput]
  refine set_at (v := .non) (ks' := smKs) (ds' := [ringD n rs, .int nb, .int mo, .lst (nD (ovZ n rs mo)), .lst (nD (bsZ n rs mo)), .non]) rfl (fun Q q => q) gput_same (by decide +kernel) (by simp [putFv]) (by decide) (fin_nx ?_)
  rw [gput_gput]
  exact k
theorem d_Seam_crowdedF (ds : List D) (G : Gp) (Q : DK) (h : F_Seam_crowdedF ds G Q) : r_Seam_crowdedF (fin G Q) (startD 3 ds) G := by
  obtain ⟨x, dx, n, rs, nb, mo, be, ins, rfl, hx, hr, hi, k⟩ := h
  have n1 := hr.n1
  have n2 := hr.n2
  refine seq_gen fun W hW => ?_
  (try dsimp only [startD, sFor, iR1, eCons, eOp, eNil, eC]); (try simp only [List.map_cons, List.map_nil, List.length_cons, List.length_nil, Nat.reduceAdd, List.replicate, List.cons_append, List.nil_append]); (skip)
  refine s_rg rfl hx (ixg_0 ?_)
  (try dsimp only); (skip); (skip)
  refine ⟨by omega, by omega, ?_⟩
  refine forW_rng (n := n.toNat) (fun j s G' => ∃ o2, s = [some (.ref x), some (.lst (nD ins)), o2] ∧ G' = G ∧ ∀ m : Nat, m < j → ¬ nb < (loadOn n rs ins (m : Int) : Int)) ?_ ?_ ⟨_, rfl, rfl, fun m h => by omega⟩
  · rintro j s G' W hj ⟨o2, rfl, rfl, hl⟩ hW
    unfold r_Seam_crowdedF_L1
    (try dsimp only [asg, List.set_cons_succ, List.set_cons_zero, oGt, sIf, eT, eOp, eCall, eCons, sRet, eVar, sNext, oI0, eNil, List.getElem?_cons_succ, List.getElem?_cons_zero]); (skip); (skip)
    refine s_rg rfl hx ?_
    refine ⟨n, rs, ins, j, rfl, by omega, hi, ?_⟩
    refine s_bn rfl hx ?_
    (try dsimp only); (skip); (skip)
    by_cases c : nb < (loadOn n rs ins (j : Int) : Int)
    · rw [decide_eq_true c]
      (skip); (try simp only [if_true]); (skip)
      have e : crF n rs nb ins = some j := by
        unfold crF
        rw [List.find?_eq_some_iff_append]
        refine ⟨decide_eq_true c, List.range j, List.range' (j + 1) (n.toNat - j - 1), ?_, fun m hm => by simpa using hl m (List.mem_range.mp hm)⟩
        have r := List.range'_append_1 (s := 0) (m := j) (n := n.toNat - j - 1 + 1)
        rw [Nat.zero_add] at r
        rw [List.range_eq_range', List.range_eq_range', ← List.range'_succ, r]
        congr 1
        omega
      rw [e] at k
      exact fin_id k
    · rw [decide_eq_false c]
      (skip); (try simp only [Bool.false_eq_true, if_false]); (skip)
      refine hW _ _ ⟨_, rfl, rfl, fun m h => ?_⟩
      by_cases e : m = j
      · rw [e]; exact c
      · exact hl m (by omega)
  · rintro s G' ⟨o2, rfl, rfl, hl⟩
    refine hW _ _ ?_
    (try dsimp only [sRet, eC]); (skip); (skip)
    have e : crF n rs nb ins = none := by
      unfold crF
      rw [List.find?_eq_none]
      intro m hm
      simpa using hl m (List.mem_range.mp hm)
    rw [e] at k
    exact fin_id k
theorem insR_len {rs : List Stretch} {ins : List Nat} (nd : ins.Nodup) (il : ∀ i ∈ ins, i < rs.length) : ins.length ≤ rs.length := by
  have := (part_perm List.nodup_range nd (fun i hi => List.mem_range.mpr (il i hi))).length_eq
  rw [List.length_append, List.length_range] at this
  omega
theorem d_Seam_leafO (ds : List D) (G : Gp) (Q : DK) (h : F_Seam_leafO ds G Q) : r_Seam_leafO (fin G Q) (startD 12 ds) G := by
  obtain ⟨x, dx, n, rs, nb, mo, d0, be, c0, ins, rfl, hx, hb, hr, m0, m1, nd, il, cr, k⟩ := h
  have n1 := hr.n1
  have n2 := hr.n2
  have rl := hr.len
  have bl : ∀ i ∈ bsZ n rs mo, i < rs.length := fun i hi => (bs_off hi).1
  have bz : (bsZ n rs mo).length ≤ 24 := by
    unfold bsZ
    refine Nat.le_trans (List.length_filter_le _ _) ?_
    simpa using rl
  have iz := insR_len nd il
  refine seq_gen fun W hW => ?_
  (try dsimp only [startD, sAsg, eMeth, eVar, asg, eNil]); (try simp only [List.map_cons, List.map_nil, List.length_cons, List.length_nil, Nat.reduceAdd, List.replicate, List.cons_append, List.nil_append]); (try dsimp only [List.getElem?_cons_zero, List.set_cons_succ, List.set_cons_zero])
  refine ⟨is_sm hx, ?_⟩
  refine ⟨x, dx, n, rs, nb, mo, _, rfl, hx, hr, hW _ _ ?_⟩
  refine seq_gen fun W2 hW2 => ?_
  (try dsimp only [oSub, sAsg, eLc, iL, eVar, List.getElem?_cons_succ, List.getElem?_cons_zero, wipeD, List.set_cons_succ, List.set_cons_zero, asg, stays, lkL_lst]); (skip); (skip)
  refine compW_all (g := fun k : Nat => D.int (lnM n mo k)) (f := fun k : Nat => D.int (liF n mo rs nb ins k)) trivial (List.range (n - 1).toNat) [] (fun j hj => ⟨_, rfl, fun R r => ?_⟩) ?_
  · (try dsimp only [List.set_cons_succ, List.set_cons_zero, eOp, oI0, eCall, eCons, eVar, List.getElem?_cons_succ, List.getElem?_cons_zero, eNil]); (skip); (skip)
    refine s_bn rfl hx ?_
    (skip); (skip); (skip)
    refine s_rg rfl hx ?_
    refine ⟨n, rs, ins, _, rfl, by omega, il, ?_⟩
    (try dsimp only); (skip); (skip)
    exact r
  rw [List.nil_append]
  refine hW2 _ _ ?_
  refine seq_gen fun W3 hW3 => ?_
  (try dsimp only [sAsg, eCall, eCons, eMeth, eVar, List.getElem?_cons_zero, asg, List.getElem?_cons_succ, eNil]); (skip); (skip)
  refine ⟨is_sm hx, ?_⟩
  refine ⟨x, dx, n, rs, nb, mo, _, rfl, hx, hr, m0, m1, ?_⟩
  refine ⟨(n - 1).toNat, (bsZ n rs mo).length, spF n mo rs, liF n mo rs nb ins, rfl, by omega, by omega, sp_ok hr m0 m1, li_ok n1 cr, ?_⟩
  have ehT : chT (n - 1).toNat (bsZ n rs mo).length (spF n mo rs) (liF n mo rs nb ins) = tkF n mo rs nb ins := rfl
  have ehP : chP (n - 1).toNat (bsZ n rs mo).length (spF n mo rs) (liF n mo rs nb ins) = prF n mo rs nb ins := rfl
  rw [ehT, ehP]
  have ehL : lfL n mo rs nb ins = srtN (ins ++ chL (bsZ n rs mo) (tkF n mo rs nb ins)) := rfl
  have ehQ : lfP n mo rs nb ins = ppZ n mo (prF n mo rs nb ins) := rfl
  generalize tkF n mo rs nb ins = tk at ehL ⊢
  generalize prF n mo rs nb ins = pr at ehQ ⊢
  (try dsimp only [setAll, List.set_cons_succ, List.set_cons_zero]); (skip); (skip)
  refine hW3 _ _ ?_
  refine seq_gen fun W4 hW4 => ?_
  (try dsimp only [sAsg, eCB, eCons, eOp, eVar, List.getElem?_cons_succ, List.getElem?_cons_zero, asg, List.set_cons_succ, List.set_cons_zero, eNil, eLc, iL, wipeD, stays, lkL_lst]); (skip); (skip)
  refine compW_all (g := fun k : Nat => D.int (k : Int)) (f := fun k : Nat => D.int (((bsZ n rs mo).getD k 0 : Nat) : Int)) trivial ((List.range (bsZ n rs mo).length).filter tk) [] (fun j hj => ⟨_, rfl, fun R r => ?_⟩) ?_
  · have hj2 := List.mem_range.mp (List.mem_filter.mp hj).1
    (try dsimp only [List.set_cons_succ, List.set_cons_zero, eOp, eVar, List.getElem?_cons_succ, List.getElem?_cons_zero]); (skip); (skip)
    refine s_bs rfl hx ?_
    refine ix_at (d := .int (((bsZ n rs mo).getD j 0 : Nat) : Int)) ?_ r
    refine atI_nat ?_
    unfold nD
    rw [List.getElem?_map, List.getElem?_eq_getElem hj2, List.getD_eq_getElem?_getD, List.getElem?_eq_getElem hj2]
    rfl
  have e1 : ((List.range (bsZ n rs mo).length).filter tk).map (fun k : Nat => D.int (((bsZ n rs mo).getD k 0 : Nat) : Int)) = nD (chL (bsZ n rs mo) tk) := by
    unfold nD chL
    rw [List.map_map]
    rfl
  rw [List.nil_append, e1]
  have cz : (chL (bsZ n rs mo) tk).length ≤ 24 := by
    unfold chL
    rw [List.length_map]
    refine Nat.le_trans (List.length_filter_le _ _) ?_
    simpa using bz
  refine app_d (by omega) ?_
  have e2 : nD (ins ++ chL (bsZ n rs mo) tk) = ((ins ++ chL (bsZ n rs mo) tk).map fun i : Nat => (i : Int)).map D.int := by unfold nD; rw [List.map_map]; rfl
  rw [e2]
  (try dsimp only [cSortedIO, lkL_lst, Option.bind_some]); (skip); (skip)
  rw [intsD_map]
  (try dsimp only); (skip); (skip)
  intro ms q pm up hq
  obtain ⟨l, rfl, pl, ul⟩ := nats_of_perm pm up
  have el := srtN_eq pl ul
  rw [← ehL] at el
  have ll : ∀ i ∈ l, i < rs.length := fun i hi => by
    rcases List.mem_append.mp (pl.mem_iff.mp hi) with z | z
    · exact il i z
    · exact bl i (chL_mem z)
  rw [← el, ← ehQ.symm] at k
  have e3 : (l.map fun i : Nat => (i : Int)).map D.int = nD l := by unfold nD; rw [List.map_map]; rfl
  rw [e3]
  have qx : q ≠ x := fun z => by rw [z, hx] at hq; cases hq
  have hx1 : gput G q (.lst (nD l)) x = some (smO dx n rs nb mo d0) := by rw [gput_ne qx.symm]; exact hx
  refine hW4 _ _ ?_
  refine seq_gen fun W5 hW5 => ?_
  (try dsimp only [sAsg, eCB, eCons, eLc, iL, eVar, List.getElem?_cons_succ, List.getElem?_cons_zero, asg, List.set_cons_succ, List.set_cons_zero, eNil]); (skip); (skip)
  have lkq : lkL (gput G q (.lst (nD l))) (.ref q) = some (nD l) := by simp only [lkL, gput_same]
  simp only [lkq]
  (try dsimp only [wipeD, List.set_cons_succ, List.set_cons_zero]); (skip); (skip)
  refine compW_all (g := fun k : Nat => D.int (k : Int)) (f := fun k : Nat => D.int (st rs k).w) (stays_of lkq) l [] (fun j hj => ⟨_, rfl, fun R r => ?_⟩) ?_
  · (try dsimp only [List.set_cons_succ, List.set_cons_zero, eOp, eC, eVar, List.getElem?_cons_succ, List.getElem?_cons_zero]); (skip); (skip)
    refine s_rg rfl hx1 (ixg_1 (ix_at (bk_at (ll j hj)) (ixt_0 (d := .int (st rs j).w) rfl r)))
  have e4 : l.map (fun k : Nat => D.int (st rs k).w) = (l.map fun k => (st rs k).w).map D.int := by rw [List.map_map]; rfl
  rw [List.nil_append, e4]
  (try dsimp only [cSum, lkL_lst, Option.bind_some]); (try simp only [intsD_map]); (skip)
  have e5 : (l.map fun k => (st rs k).w).sum = worthOf rs l := rfl
  rw [e5]
  refine hW5 _ _ ?_
  refine seq_gen fun W6 hW6 => ?_
  -- the price list, whatever the best is now
  have go : ∀ (G2 : Gp) (d1 : D) (c1 : Option Addr), (∀ a o, a ≠ x → gput G q (.lst (nD l)) a = some o → G2 a = some o) → G2 x = some (smO dx n rs nb mo d1) → BeR G2 d1 (beL rs be l) c1 → (∀ c, c1 = some c → c0 = some c ∨ G c = none) →
      W6 [some (.ref x), some (.lst (nD ins)), some (.lst (fnL (n - 1).toNat fun k => .int (lnM n mo k))), some (.lst ((List.range (n - 1).toNat).map fun k : Nat => D.int (liF n mo rs nb ins k))), some (.lst (nD ((List.range (bsZ n rs mo).length).filter tk))), some (.lst (fnL (n - 1).toNat fun k => .int (pr k))), some (.ref q), some (.int (worthOf rs l)), none, none, none, none] G2 := by
    intro G2 d1 c1 g1 g2 g3 g4
    refine hW6 _ _ ?_
    (try dsimp only [oGt, sRet, eTup, eCons, eC, eLcO, iL, eSrtZ, eVar, List.getElem?_cons_succ, List.getElem?_cons_zero, eNil]); (try simp only [List.length_cons, List.length_nil, Nat.reduceAdd, sizeLine_eq, Nat.reduceLeDiff, true_and]); (skip)
    have f1 : fnL (n - 1).toNat (fun k => D.int (lnM n mo k)) = ((List.range (n - 1).toNat).map (lnM n mo)).map D.int := by unfold fnL; rw [List.map_map]; rfl
    have f2 : fnL (n - 1).toNat (fun k => D.int (pr k)) = ((List.range (n - 1).toNat).map pr).map D.int := by unfold fnL; rw [List.map_map]; rfl
    rw [f1, f2]
    simp only [lkL_lst, Option.bind_some, intsD_map]
    rw [zip_maps]
    (try dsimp only [wipeD, List.set_cons_succ, List.set_cons_zero, stays]); (skip); (skip)
    refine compW_map (g := prD) (p := fun y => decide (0 < y.2)) (f := qD) trivial _ [] (fun y hy => ⟨_, rfl, fun R r => ?_, fun _ R r => ?_⟩) ?_
    · (try dsimp only [List.set_cons_succ, List.set_cons_zero, eT, eOp, eVar, List.getElem?_cons_succ, List.getElem?_cons_zero, oI0, eC]); (skip); (skip)
      refine ixt_0 (d := .int y.2) rfl ?_
      (try dsimp only); (skip); (skip)
      exact r
    · (try dsimp only [List.set_cons_succ, List.set_cons_zero, eVar, List.getElem?_cons_succ, List.getElem?_cons_zero]); (skip); (skip)
      exact r
    · rw [List.nil_append]
      intro p hp
      (skip); (skip); (skip)
      have px : p ≠ x := fun z => by rw [z, g2] at hp; cases hp
      have dn : ∀ a, a ≠ x → G2 a = none → G a = none := fun a ax h => by
        cases e : G a with
        | none => rfl
        | some o =>
          have := g1 a o ax (by rw [gput_ne (fun z => by rw [z, hq] at e; cases e)]; exact e)
          rw [h] at this; cases this
      refine fin_id (k _ d1 _ c1 [p] (fun a o ax e => ?_) (by rw [gput_ne px.symm]; exact g2) (g3.mono fun a ea => ?_) (.pr gput_same) (by simp) (fun a ha => by rw [List.mem_singleton.mp ha]; exact dn p px hp) fun c ec => ⟨?_, g4 c ec⟩)
      · have : G2 a = some o := g1 a o ax (by rw [gput_ne (fun z => by rw [z, hq] at e; cases e)]; exact e)
        rw [gput_ne (fun z => by rw [z, hp] at this; cases this)]
        exact this
      · obtain ⟨ds, e⟩ := g3.lst ea
        rw [gput_ne (fun z => by rw [z, hp] at e; cases e)]
      · obtain ⟨ds, e⟩ := g3.lst ec
        exact fun m => by rw [List.mem_singleton.mp m, hp] at e; cases e
  have put : sFldD "Seam" "best" (eTup (eCons (eVar 7) (eCons (eVar 6) eNil))) (eVar 0) { fin G Q with nx := W6 } [some (.ref x), some (.lst (nD ins)), some (.lst (fnL (n - 1).toNat fun k => .int (lnM n mo k))), some (.lst ((List.range (n - 1).toNat).map fun k : Nat => D.int (liF n mo rs nb ins k))), some (.lst (nD ((List.range (bsZ n rs mo).length).filter tk))), some (.lst (fnL (n - 1).toNat fun k => .int (pr k))), some (.ref q), some (.int (worthOf rs l)), none, none, none, none] (gput G q (.lst (nD l))) ∨ beL rs be l ≠ some (worthOf rs l, l) := by
    by_cases eb : beL rs be l = some (worthOf rs l, l)
    · left
      refine set_at (v := .tup [.int (worthOf rs l), .ref q]) (ks' := smKs) (ds' := [ringD n rs, .int nb, .int mo, .lst (nD (ovZ n rs mo)), .lst (nD (bsZ n rs mo)), .tup [.int (worthOf rs l), .ref q]]) rfl (fun Q q => (by (try dsimp only [eTup, eCons, eVar, List.getElem?_cons_succ, List.getElem?_cons_zero, eNil]); (try simp only [List.length_cons, List.length_nil, Nat.reduceAdd, sizeLine_eq, Nat.reduceLeDiff, true_and]); (skip); exact q)) hx1 (by decide +kernel) (by simp [putFv]) (by decide) ?_
      refine go _ (.tup [.int (worthOf rs l), .ref q]) (some q) (fun a o ax e => by rw [gput_ne ax]; exact e) gput_same ?_ (fun c ec => by cases ec; exact .inr hq)
      rw [eb]
      exact .som (by rw [gput_ne qx]; exact gput_same)
    · exact .inr eb
  (try dsimp only [oGt, sIf, eOr, eT, eOp, sNext, eVar, List.getElem?_cons_succ, List.getElem?_cons_zero, oI0, eC]); (try simp only [if_true]); (skip)
  refine s_be rfl hx1 ?_
  cases hb with
  | non =>
    (try dsimp only [oIsN]); (try simp only [if_true]); (skip)
    rcases put with z | z
    · exact z
    · exact absurd rfl z
  | @som w l0 c h0 =>
    (try dsimp only [oIsN]); (try simp only [Bool.false_eq_true, if_false]); (skip)
    refine s_be rfl hx1 (ixt_0 (d := .int w) rfl ?_)
    (try dsimp only); (skip); (skip)
    by_cases cc : w < worthOf rs l
    · rw [decide_eq_true cc]
      (skip); (try simp only [if_true]); (skip)
      rcases put with z | z
      · exact z
      · exact absurd (by unfold beL; exact if_pos cc) z
    · rw [decide_eq_false cc]
      (skip); (try simp only [Bool.false_eq_true, if_false]); (skip)
      refine go _ _ (some c) (fun a o _ e => e) hx1 ?_ (fun a ea => .inl ea)
      have : beL rs (some (w, l0)) l = some (w, l0) := by unfold beL; exact if_neg cc
      rw [this]
      exact .som (by rw [gput_ne (fun z => by rw [z, hq] at h0; cases h0)]; exact h0)
theorem trF_cr {n mo : Int} {rs : List Stretch} {nb : Int} {rest ins : List Nat} {be : BE} {m : Nat} (h : crF n rs nb ins = some m) : trF n mo rs nb rest ins be = (.cr (m : Int), be) := by
  cases rest <;> (unfold trF; rw [h])
theorem d_Seam_treeO (k : Nat) (ds : List D) (G : Gp) (Q : DK) (h : F_Seam_treeO (k + 1) ds G Q) : r_Seam_treeO k (fin G Q) (startD 5 ds) G := by
  obtain ⟨x, dx, n, rs, nb, mo, d0, be, c0, ins, at_, rfl, hx, hb, hr, m0, m1, al, ak, nd, il, kq⟩ := h
  have ov : ∀ i ∈ ovZ n rs mo, i < rs.length := fun i hi => List.mem_range.mp (List.mem_filter.mp hi).1
  have ndi := (List.nodup_append.mp nd).1
  have rl := hr.len
  have il2 := insR_len ndi il
  refine seq_gen fun W hW => ?_
  (try dsimp only [startD, sAsg, eMeth, eVar, asg, eCons, eNil]); (try simp only [List.map_cons, List.map_nil, List.length_cons, List.length_nil, Nat.reduceAdd, List.replicate, List.cons_append, List.nil_append]); (try dsimp only [List.getElem?_cons_zero, List.getElem?_cons_succ, List.set_cons_succ, List.set_cons_zero])
  refine ⟨is_sm hx, ?_⟩
  refine ⟨x, dx, n, rs, nb, mo, _, ins, rfl, hx, hr, il, hW _ _ ?_⟩
  refine seq_gen fun W2 hW2 => ?_
  cases cr : crF n rs nb ins with
  | some m =>
    (try dsimp only [crD, sIf, eT, eOp, eVar, List.getElem?_cons_succ, List.getElem?_cons_zero, sRet, eTup, eCons, eC, eNil, sNext, oNotN]); (try simp only [List.length_cons, List.length_nil, Nat.reduceAdd, sizeLine_eq, Nat.reduceLeDiff, true_and, if_true]); (skip)
    have e := trF_cr (mo := mo) (rest := (ovZ n rs mo).drop at_) (be := be) cr
    rw [e] at kq
    exact fin_id (kq G d0 _ c0 [] (fun a o _ e => e) hx hb .cr .nil (fun a ha => nomatch ha) fun c ec => ⟨(fun h => nomatch h), .inl ec⟩)
  | none =>
    (try dsimp only [crD, sIf, eT, eOp, eVar, List.getElem?_cons_succ, List.getElem?_cons_zero, sRet, eTup, eCons, eC, eNil, sNext, oNotN]); (try simp only [Bool.false_eq_true, List.length_cons, List.length_nil, Nat.reduceAdd, sizeLine_eq, Nat.reduceLeDiff, true_and, if_false]); (skip)
    refine hW2 _ _ ?_
    refine seq_gen fun W3 hW3 => ?_
    (try dsimp only [sIf, eT, eOp, eVar, List.getElem?_cons_succ, List.getElem?_cons_zero, sRet, sNext, eCB, eCons, eNil]); (skip); (skip)
    refine s_ov rfl hx ?_
    refine len_lst (eq_ii ?_)
    have nl : (nD (ovZ n rs mo)).length = (ovZ n rs mo).length := by unfold nD; simp
    rw [nl]
    by_cases c : at_ = (ovZ n rs mo).length
    · rw [decide_eq_true (by omega)]
      (try dsimp only [eMeth, eVar, List.getElem?_cons_zero, eCons, List.getElem?_cons_succ, eNil]); (try simp only [if_true]); (skip)
      refine ⟨is_sm hx, ?_⟩
      have e0 : (ovZ n rs mo).drop at_ = [] := by rw [c]; exact List.drop_length
      rw [e0] at kq
      have e : trF n mo rs nb [] ins be = (.pr (lfP n mo rs nb ins), beL rs be (lfL n mo rs nb ins)) := by unfold trF; rw [cr]
      rw [e] at kq
      exact ⟨x, dx, n, rs, nb, mo, d0, be, c0, ins, rfl, hx, hb, hr, m0, m1, ndi, il, cr, fun G' d1 d c1 A q1 q2 q3 q4 q5 q6 q7 => fin_id (kq G' d1 d c1 A q1 q2 q3 q4 q5 q6 q7)⟩
    · rw [decide_eq_false (by omega)]
      have hlt : at_ < (ovZ n rs mo).length := by omega
      obtain ⟨k', rfl⟩ : ∃ k', k = k' + 1 := ⟨k - 1, by omega⟩
      (try dsimp only); (try simp only [Bool.false_eq_true, if_false]); (skip)
      refine hW3 _ _ ?_
      refine seq_gen fun W4 hW4 => ?_
      (try dsimp only [sAsg, eOp, asg, List.set_cons_succ, List.set_cons_zero, eVar, List.getElem?_cons_succ, List.getElem?_cons_zero]); (skip); (skip)
      refine s_ov rfl hx ?_
      generalize hi : (ovZ n rs mo)[at_] = i
      have ed : (ovZ n rs mo).drop at_ = i :: (ovZ n rs mo).drop (at_ + 1) := by rw [← hi]; exact List.drop_eq_getElem_cons hlt
      have hii : i < rs.length := ov i (by rw [← hi]; exact List.getElem_mem hlt)
      refine ix_at (d := .int (i : Int)) ?_ (hW4 _ _ ?_)
      · refine atI_nat ?_
        unfold nD
        rw [List.getElem?_map, List.getElem?_eq_getElem hlt, hi]
        rfl
      rw [ed] at kq nd
      have e : trF n mo rs nb (i :: (ovZ n rs mo).drop (at_ + 1)) ins be = (.sp i (trF n mo rs nb ((ovZ n rs mo).drop (at_ + 1)) (ins ++ [i]) be).1 (trF n mo rs nb ((ovZ n rs mo).drop (at_ + 1)) ins (trF n mo rs nb ((ovZ n rs mo).drop (at_ + 1)) (ins ++ [i]) be).2).1, (trF n mo rs nb ((ovZ n rs mo).drop (at_ + 1)) ins (trF n mo rs nb ((ovZ n rs mo).drop (at_ + 1)) (ins ++ [i]) be).2).2) := by
        conv => lhs; unfold trF
        rw [cr]
      rw [e] at kq
      have nd1 : ((ins ++ [i]) ++ (ovZ n rs mo).drop (at_ + 1)).Nodup := by rw [List.append_assoc]; exact nd
      have nd2 : (ins ++ (ovZ n rs mo).drop (at_ + 1)).Nodup := nd.sublist (List.Sublist.append_left (List.sublist_cons_self _ _) _)
      (try dsimp only [sRet, eTup, eCons, eC, eVar, List.getElem?_cons_succ, List.getElem?_cons_zero, eLstO, eMeth, eNil, eOp, eLst]); (try simp only [List.length_cons, List.length_nil, Nat.reduceAdd, sizeLine_eq, Nat.reduceLeDiff, true_and]); (skip)
      refine ⟨is_sm hx, add_ii ?_⟩
      refine add_ok (by simp [nD]; omega) ?_
      have eI : nD ins ++ [D.int (i : Int)] = nD (ins ++ [i]) := by simp [nD]
      rw [eI]
      refine ⟨x, dx, n, rs, nb, mo, d0, be, c0, ins ++ [i], at_ + 1, by simp, hx, hb, hr, m0, m1, hlt, by omega, nd1, fun j hj => ?_, fun G1 d1 da c1 A q1 q2 q3 q4 q5 q6 q7 => ?_⟩
      · rcases List.mem_append.mp hj with q | q
        · exact il j q
        · rw [List.mem_singleton.mp q]; exact hii
      refine ⟨is_sm q2, add_ii ?_⟩
      refine ⟨x, dx, n, rs, nb, mo, d1, _, c1, ins, at_ + 1, by simp, q2, q3, hr, m0, m1, hlt, by omega, nd2, il, fun G2 d2 db c2 B p1 p2 p3 p4 p5 p6 p7 => ?_⟩
      (try dsimp only); (skip); (skip)
      intro p hp
      have xg : ∀ {a}, G a = none → a ≠ x := fun h z => by rw [z, hx] at h; cases h
      have px : p ≠ x := fun z => by rw [z, p2] at hp; cases hp
      have A1 : ∀ a ∈ A, G2 a = G1 a := fun a ha => by
        obtain ⟨ds, e⟩ := q4.lst a ha
        rw [e]
        exact p1 a _ (xg (q6 a ha)) e
      have up : ∀ a o, a ≠ x → G a = some o → G2 a = some o := fun a o ax e => p1 a o ax (q1 a o ax e)
      have A2 : ∀ a ∈ A, gput G2 p (.lst [da, db]) a = G1 a := fun a ha => by
        obtain ⟨ds, e⟩ := q4.lst a ha
        rw [gput_ne (fun z => by rw [← z, A1 a ha, e] at hp; cases hp)]
        exact A1 a ha
      have B2 : ∀ a ∈ B, gput G2 p (.lst [da, db]) a = G2 a := fun a ha => by
        obtain ⟨ds, e⟩ := p4.lst a ha
        exact gput_ne (fun z => by rw [← z, e] at hp; cases hp)
      have nog : ∀ {a}, G1 a = none → G a = none := fun {a} h => by
        cases e : G a with
        | none => rfl
        | some o =>
          by_cases ax : a = x
          · rw [ax, q2] at h; cases h
          · rw [q1 a o ax e] at h; cases h
      have disj : ∀ a ∈ A, a ∉ B := fun a ha hb => by
        obtain ⟨ds, e⟩ := q4.lst a ha
        rw [p6 a hb] at e
        cases e
      refine fin_id (kq _ d2 _ c2 (p :: (A ++ B)) (fun a o ax e => ?_) (by rw [gput_ne px.symm]; exact p2) (p3.mono fun a ea => ?_) (.sp gput_same (q4.mono A2) (p4.mono B2)) ?_ ?_ fun c ec => ⟨?_, ?_⟩)
      · have := up a o ax e
        rw [gput_ne (fun z => by rw [z, hp] at this; cases this)]
        exact this
      · obtain ⟨ds, e⟩ := p3.lst ea
        rw [gput_ne (fun z => by rw [z, hp] at e; cases e)]
      · refine List.nodup_cons.mpr ⟨fun m => ?_, List.nodup_append.mpr ⟨q5, p5, fun a ha b hb e => disj a ha (e ▸ hb)⟩⟩
        rcases List.mem_append.mp m with m | m
        · obtain ⟨ds, e⟩ := q4.lst p m
          rw [← A1 p m, hp] at e
          cases e
        · obtain ⟨ds, e⟩ := p4.lst p m
          rw [hp] at e
          cases e
      · intro a ha
        rcases List.mem_cons.mp ha with rfl | q
        · cases e : G a with
          | none => rfl
          | some o =>
            have := up a o px e
            rw [hp] at this; cases this
        · rcases List.mem_append.mp q with q | q
          · exact q6 a q
          · exact nog (p6 a q)
      · intro m
        rcases List.mem_cons.mp m with rfl | q
        · obtain ⟨ds, e⟩ := p3.lst ec
          rw [hp] at e; cases e
        · rcases List.mem_append.mp q with q | q
          · rcases (p7 c ec).2 with z | z
            · exact (q7 c z).1 q
            · obtain ⟨ds, e⟩ := q4.lst c q
              rw [z] at e; cases e
          · exact (p7 c ec).1 q
      · rcases (p7 c ec).2 with z | z
        · exact (q7 c z).2
        · exact .inr (nog z)
theorem d_ring_mostO (ds : List D) (G : Gp) (Q : DK) (U : Ux) (h : F_ring_mostO ds G Q U) : r_ring_mostO (finX G Q U) (startD 4 ds) G := by
  obtain ⟨n, rs, nb, rfl, hr, n0, k, u⟩ := h
  have mo := seam_ok (rs := rs) hr.n1
  refine seq_gen fun W hW => ?_
  (try dsimp only [startD, sAsg, eMake, eCons, eVar, asg, eNil]); (try simp only [List.map_cons, List.map_nil, List.length_cons, List.length_nil, Nat.reduceAdd, List.replicate, List.cons_append, List.nil_append]); (try dsimp only [List.getElem?_cons_zero, List.getElem?_cons_succ, List.set_cons_succ, List.set_cons_zero])
  intro x dx hx
  refine ⟨x, dx, n, rs, nb, rfl, hr, gput_same, ⟨rfl, hW _ _ ?_⟩⟩
  rw [gput_gput]
  refine seq_gen fun W2 hW2 => ?_
  (try dsimp only [oGt, sIf, eT, eOp, eCB, eCons, sRaise, sNext, oI0, eC, eNil]); (skip); (skip)
  refine s_ov rfl gput_same ?_
  refine len_lst ?_
  have nl : (nD (ovZ n rs (seamF n rs))).length = (ovZ n rs (seamF n rs)).length := by unfold nD; simp
  rw [nl]
  (try dsimp only); (skip); (skip)
  have keep : ∀ (o : GO) b v, G b = some v → gput G x o b = some v := fun o b v e => by rw [gput_ne (fun z => by rw [z, hx] at e; cases e)]; exact e
  by_cases c : 6 < (ovZ n rs (seamF n rs)).length
  · rw [decide_eq_true (by omega)]
    (skip); (try simp only [if_true]); (skip)
    exact finX_back (fun b o e => keep _ b o e) (by simp only [refX]) (u c)
  rw [decide_eq_false (by omega)]
  (skip); (try simp only [Bool.false_eq_true, if_false]); (skip)
  refine hW2 _ _ ?_
  refine seq_gen fun W3 hW3 => ?_
  (try dsimp only [sAsg, eMeth, eVar, List.getElem?_cons_succ, List.getElem?_cons_zero, asg, List.set_cons_succ, List.set_cons_zero, eCons, eC, eLst, eNil]); (try simp only [List.length_nil, sizeLine_eq, Nat.reduceLeDiff, true_and]); (skip)
  refine ⟨is_sm gput_same, ?_⟩
  have hov := (tr_start hr mo.m0 mo.m1).rn
  refine ⟨x, dx, n, rs, nb, seamF n rs, .non, none, none, [], 0, rfl, gput_same, .non, hr, mo.m0, mo.m1, Nat.zero_le _, (show (ovZ n rs (seamF n rs)).length ≤ 7 by omega), by simpa using hov, (fun i hi => nomatch hi), fun G1 d1 d c1 A q1 q2 q3 q4 q5 q6 q7 => hW3 _ _ ?_⟩
  rw [List.drop_zero] at q3 q4
  obtain ⟨w, l, M⟩ := most_ringF (nb := nb) hr n0
  have eb : (trF n (seamF n rs) rs nb (ovZ n rs (seamF n rs)) [] none).2 = some (w, l) := M.be
  rw [eb] at q3
  cases q3 with
  | @som _ _ cc hc =>
  have up : ∀ a o, G a = some o → G1 a = some o := fun a o e => q1 a o (fun z => by rw [z, hx] at e; cases e) (keep _ a o e)
  have xc : ∀ {a}, gput G x (smO dx n rs nb (seamF n rs) .non) a = none → G a = none := fun {a} h => by
    cases e : G a with
    | none => rfl
    | some o => rw [keep _ a o e] at h; cases h
  (try dsimp only [sRet, eTup, eCons, eOp, eVar, List.getElem?_cons_succ, List.getElem?_cons_zero, eNil, eC]); (try simp only [List.length_cons, List.length_nil, Nat.reduceAdd, sizeLine_eq, Nat.reduceLeDiff, true_and]); (skip)
  refine s_be rfl q2 (ixt_0 (d := .int w) rfl ?_)
  refine s_be rfl q2 (ixt_0 (d := .ref cc) rfl ?_)
  (skip); (skip); (skip)
  refine fin_id (k (by omega) G1 w l cc d A M up hc q4 q5 (q7 cc rfl).1 ?_ fun a ha => xc (q6 a ha))
  rcases (q7 cc rfl).2 with z | z
  · cases z
  · exact xc z
end DL
set_option Elab.async false
set_option linter.all false
set_option maxRecDepth 100000
set_option maxHeartbeats 4000000
namespace DL
open PySem PySem.Spec PyProof.Rows L2 LN
def LtOk (n : Int) (rs : List Stretch) (b : Int) (k : Nat) (l : List Nat) : Prop := Some k l ∧ ∀ m : Int, 0 ≤ m → m < n → (loadOn n rs l m : Int) ≤ b
def F__law_round : Sf := fun ds G Q => ∃ a many x y z, ds = [.ref a, .int many] ∧ G a = some (stO x y z) ∧ Ok3 x y z ∧ 0 ≤ many ∧ many ≤ 7 ∧ ∀ n rs x' y' z', Ok3 x' y' z' → RgOk n rs → rs.length ≤ 9 → Q (ringD n rs) (gput G a (stO x' y' z'))
def F__law_refused : Sf := fun ds G Q => ∃ n rs nb, ds = [ringD n rs, .int nb] ∧ RgOk n rs ∧ 0 ≤ nb ∧ 6 < (ovZ n rs (seamF n rs)).length ∧ Q (.bl true) G
def F__law_ring_choices : Sf := fun ds G Q => ∃ (n : Int) (rs : List Stretch) (b : Int), ds = [ringD n rs, .int b] ∧ RgOk n rs ∧ rs.length ≤ 9 ∧ 0 ≤ b ∧ ∀ ls : List (List Nat), (∀ l, l ∈ ls ↔ LtOk n rs b rs.length l) → Q (.lst (ls.map fun l => .lst (nD l))) G
def F__law_number60 : Sf := fun ds G Q => ∃ i m : Int, ds = [.int i, .int m] ∧ Q (.bl (decide (0 ≤ i ∧ i < m))) G
def F__law_priced : Sf := fun ds G Q => ∃ n rs nb, ∃ (pp : Paper) (ins outs : List Nat), ds = [ringD n rs, .int nb, .lst (pp.map qD), .tup [.lst (nD ins), .lst (nD outs)]] ∧ RgOk n rs ∧ POk pp ∧ (∀ x ∈ pp, 0 ≤ x.1 ∧ x.1 < n) ∧ (∀ i ∈ ins, i < rs.length) ∧ Q (.lst [.int (priceZ n rs nb pp ins outs)]) G
def F__law_walk : Nat → Sf
  | 0 => fun _ _ _ => False
  | k + 1 => fun ds G Q => ∃ n rs nb, ∃ (t : Tr) (ins outs : List Nat) (deep : Int) (s : List Int), ds = [ringD n rs, .int nb, t.d, .tup [.lst (nD ins), .lst (nD outs)], .int deep] ∧ RgOk n rs ∧ t.pap n ∧ t.dep ≤ k ∧ t.dep ≤ deep ∧ (∀ i ∈ ins, i < rs.length) ∧ ins.length + t.dep ≤ 1000 ∧ outs.length + t.dep ≤ 1000 ∧ t.size ≤ 600 ∧ clm n rs nb t ins outs = some s ∧ Q (.lst (iD s)) G
def F__law_many : Sf := fun ds G Q => ∃ t : Tr, ds = [t.d] ∧ t.size ≤ 500 ∧ t.dep ≤ 20 ∧ Q (.int (t.size : Int)) G
def F__law_right : Sf := fun ds G Q => ∃ n rs nb w l, ds = [ringD n rs, .int nb, .tup [.int w, .lst (nD l), (moT n rs nb).d], .int w] ∧ RgOk n rs ∧ 0 ≤ nb ∧ (ovZ n rs (seamF n rs)).length ≤ 6 ∧ MostR n rs nb w l ∧ Q (.bl true) G
def r__law_round_L1 : ES :=
  (sDrop (eBm mApp (eVar 3) (eCons (eTup (eCons (eOp oAdd (eC (.str "zzz")) (eOp oIx (eC (.str "tuvwxyz")) (eVar 4))) (eCons (eOp oMod (eVar 4) (eVar 2)) (eCons (eVar 2) (eCons (eCall F__law_take (eCons (eVar 0) (eCons (eC (.int 20)) eNil))) eNil))))) eNil)))
def r__law_round_L2 : ES :=
  (sSeq (sAsg (eCall F__law_take (eCons (eVar 0) (eCons (eVar 2) eNil))) (.nm 5))
  (sDrop (eBm mApp (eVar 3) (eCons (eTup (eCons (eOp oAdd (eC (.str "y")) (eOp oIx (eC (.str "ab")) (eVar 4))) (eCons (eVar 5) (eCons (eOp oAdd (eC (.int 1)) (eCall F__law_take (eCons (eVar 0) (eCons (eVar 2) eNil)))) (eCons (eCall F__law_take (eCons (eVar 0) (eCons (eC (.int 20)) eNil))) eNil))))) eNil))))
def r__law_round : ES :=
  (sSeq (sAsg (eOp oAdd (eC (.int 1)) (eCall F__law_take (eCons (eVar 0) (eCons (eC (.int 9)) eNil)))) (.nm 2))
  (sSeq (sAsg (eLstO eNil) (.nm 3))
  (sSeq (sFor (iR1 (eCons (eVar 1) eNil)) (.nm 4) r__law_round_L1)
  (sSeq (sFor (iR1 (eCons (eCall F__law_take (eCons (eVar 0) (eCons (eC (.int 3)) eNil))) eNil)) (.nm 4) r__law_round_L2)
  (sRet (eTup (eCons (eVar 2) (eCons (eVar 3) eNil))))))))
def r__law_refused : ES :=
  (sSeq (sTryAs (["TooMany"] : List Str) "BenchError" 2 (sDropX (eCallX F_ring_mostO (eXa (eCons (eVar 0) (eCons (eVar 1) eNil))))) (fun a dd x =>
    (sSeq (sIf (eOr (eNot (eTru (eIsE a dd x 2 (isSub x.c "TooMany")))) (eNot (eTru (eIsE a dd x 2 true)))) (sRet (eC (.bl false))) sNext)
  (sSeq (sIf (eTru (eIsE a dd x 2 ((["Crowded", "NoBenches", "NoBook", "NoRing", "NoRow", "NoStretch"] : List Str).any fun c => isSub x.c c))) (sRet (eC (.bl false))) sNext)
  (sRet (eNotT (eIsE a dd x 2 ((["NoText", "NoTree", "NoTurn", "NoUndo", "Unknown"] : List Str).any fun c => isSub x.c c))))))))
  (sRet (eC (.bl false))))
def r__law_ring_choices_L1 : ES :=
  (sSeq (sAsg (eLc (iL (eVar 2)) (.nm 5) eYes (eOp oAdd (eVar 5) (eLst (eCons (eVar 3) eNil))) [5]) (.nm 4))
  (sAsg (eOp oAdd (eVar 2) (eLc (iL (eVar 4)) (.nm 5) (eTru (eCall F__law_is_light (eCons (eVar 0) (eCons (eVar 5) (eCons (eVar 1) eNil))))) (eVar 5) [5])) (.nm 2)))
def r__law_ring_choices : ES :=
  (sSeq (sAsg (eLst (eCons (eLst eNil) eNil)) (.nm 2))
  (sSeq (sFor (iR1 (eCons (eCB cLen (eCons (eOp oIx (eVar 0) (eC (.int 1))) eNil)) eNil)) (.nm 3) r__law_ring_choices_L1)
  (sRet (eVar 2))))
def r__law_number60 : ES :=
  (sRet (eAndT (eCall F__law_whole (eCons (eVar 0) eNil)) (eChain oLe oLt (eC (.int 0)) (eVar 0) (eVar 1))))
def r__law_priced_L1 : ES :=
  (sAsg (eOp oAdd (eVar 6) (eOp oMul (eVar 8) (eOp oSub (eVar 1) (eCall F__law_load_in (eCons (eVar 0) (eCons (eVar 4) (eCons (eVar 7) eNil))))))) (.nm 6))
def r__law_priced : ES :=
  (sSeq (sAsg (eVar 3) (.tp [4, 5]))
  (sSeq (sIf (eNot (eTru (eCall F__law_is_paper (eCons (eVar 2) eNil)))) (sRet (eC .non)) sNext)
  (sSeq (sIf (eT (eOp oNe (eLc (iL (eVar 2)) (.tp [7, 8]) (eNot (eT (eChain oLe oLt (eC (.int 0)) (eVar 7) (eOp oIx (eVar 0) (eC (.int 0)))))) (eVar 7) [7, 8]) (eLst eNil))) (sRet (eC .non)) sNext)
  (sSeq (sAsg (eCB cSum (eCons (eLc (iL (eVar 4)) (.nm 10) eYes (eOp oIx (eOp oIx (eOp oIx (eVar 0) (eC (.int 1))) (eVar 10)) (eC (.int 3))) [10]) eNil)) (.nm 6))
  (sSeq (sFor (iL (eVar 2)) (.tp [7, 8]) r__law_priced_L1)
  (sSeq (sAsg (eLc (iR1 (eCons (eCB cLen (eCons (eOp oIx (eVar 0) (eC (.int 1))) eNil)) eNil)) (.nm 10) (eAnd (eT (eOp (oIn true) (eVar 10) (eVar 4))) (eT (eOp (oIn true) (eVar 10) (eVar 5)))) (eVar 10) [10]) (.nm 9))
  (sRet (eLst (eCons (eOp oAdd (eVar 6) (eCB cSum (eCons (eLc (iL (eVar 9)) (.nm 10) eYes (eCall F__law_ring_rest (eCons (eVar 0) (eCons (eVar 10) (eCons (eVar 2) eNil)))) [10]) eNil))) eNil)))))))))
def r__law_walk (n : Nat) : ES :=
  (sSeq (sAsg (eVar 3) (.tp [5, 6]))
  (sSeq (sIf (eOr (eNot (eTru (eCB cIsi (eCons (eVar 2) (eCons (eC (.ty "tuple")) eNil))))) (eT (eOp oEq (eVar 4) (eC (.int 0))))) (sRet (eC .non)) sNext)
  (sSeq (sIf (eAnd (eT (eOp oEq (eCB cLen (eCons (eVar 2) eNil)) (eC (.int 2)))) (eT (eOp oEq (eOp oIx (eVar 2) (eC (.int 0))) (eC (.str "prices"))))) (sRet (eCall F__law_priced (eCons (eVar 0) (eCons (eVar 1) (eCons (eOp oIx (eVar 2) (eC (.int 1))) (eCons (eVar 3) eNil)))))) sNext)
  (sSeq (sIf (eAnd (eT (eOp oEq (eCB cLen (eCons (eVar 2) eNil)) (eC (.int 2)))) (eAnd (eT (eOp oEq (eOp oIx (eVar 2) (eC (.int 0))) (eC (.str "crowd")))) (eTru (eCall F__law_number60 (eCons (eOp oIx (eVar 2) (eC (.int 1))) (eCons (eOp oIx (eVar 0) (eC (.int 0))) eNil)))))) (sRet (eOp oIx (eLst (eCons (eLst eNil) (eCons (eC .non) eNil))) (eCB cInt1 (eCons (eOp oLe (eCall F__law_load_in (eCons (eVar 0) (eCons (eVar 5) (eCons (eOp oIx (eVar 2) (eC (.int 1))) eNil)))) (eVar 1)) eNil)))) sNext)
  (sSeq (sIf (eOr (eT (eOp oNe (eCB cLen (eCons (eVar 2) eNil)) (eC (.int 3)))) (eOr (eT (eOp oNe (eOp oIx (eVar 2) (eC (.int 0))) (eC (.str "split")))) (eNot (eTru (eCall F__law_number60 (eCons (eOp oIx (eVar 2) (eC (.int 1))) (eCons (eCB cLen (eCons (eOp oIx (eVar 0) (eC (.int 1))) eNil)) eNil))))))) (sRet (eC .non)) sNext)
  (sSeq (sIf (eOr (eT (eOp (oIn false) (eOp oIx (eVar 2) (eC (.int 1))) (eOp oAdd (eVar 5) (eVar 6)))) (eOr (eNot (eTru (eCB cIsi (eCons (eOp oIx (eVar 2) (eC (.int 2))) (eCons (eC (.ty "list")) eNil))))) (eT (eOp oNe (eCB cLen (eCons (eOp oIx (eVar 2) (eC (.int 2))) eNil)) (eC (.int 2)))))) (sRet (eC .non)) sNext)
  (sSeq (sAsg (eCall (F__law_walk n) (eCons (eVar 0) (eCons (eVar 1) (eCons (eOp oIx (eOp oIx (eVar 2) (eC (.int 2))) (eC (.int 0))) (eCons (eTup (eCons (eOp oAdd (eVar 5) (eLst (eCons (eOp oIx (eVar 2) (eC (.int 1))) eNil))) (eCons (eVar 6) eNil))) (eCons (eOp oSub (eVar 4) (eC (.int 1))) eNil)))))) (.nm 7))
  (sSeq (sAsg (eCall (F__law_walk n) (eCons (eVar 0) (eCons (eVar 1) (eCons (eOp oIx (eOp oIx (eVar 2) (eC (.int 2))) (eC (.int 1))) (eCons (eTup (eCons (eVar 5) (eCons (eOp oAdd (eVar 6) (eLst (eCons (eOp oIx (eVar 2) (eC (.int 1))) eNil))) eNil))) (eCons (eOp oSub (eVar 4) (eC (.int 1))) eNil)))))) (.nm 8))
  (sSeq (sIf (eOr (eT (eOp oIsN (eVar 7) (eC .non))) (eT (eOp oIsN (eVar 8) (eC .non)))) (sRet (eC .non)) sNext)
  (sRet (eOp oAdd (eVar 7) (eVar 8))))))))))))
def r__law_many_L1 : ES :=
  (sSeq (sAsg (eBm mPop (eVar 1) eNil) (.nm 3))
  (sSeq (sAsg (eOp oAdd (eVar 2) (eC (.int 1))) (.nm 2))
  (sIf (eT (eOp oEq (eOp oIx (eVar 3) (eC (.int 0))) (eC (.str "split")))) (sAsg (eOp oAddO (eVar 1) (eOp oIx (eVar 3) (eC (.int 2)))) (.nm 1)) sNext)))
def r__law_many : ES :=
  (sSeq (sAsg (eLstO (eCons (eVar 0) eNil)) (.nm 1))
  (sSeq (sAsg (eC (.int 0)) (.nm 2))
  (sSeq (sWhile (eAnd (eT (eOp oNe (eVar 1) (eLst eNil))) (eT (eOp oLt (eVar 2) (eC (.int 600))))) r__law_many_L1)
  (sRet (eVar 2)))))
def r__law_right : ES :=
  (sSeq (sIf (eOr (eNot (eTru (eCB cIsi (eCons (eVar 2) (eCons (eC (.ty "tuple")) eNil))))) (eT (eOp oNe (eCB cLen (eCons (eVar 2) eNil)) (eC (.int 3))))) (sRet (eC (.bl false))) sNext)
  (sSeq (sIf (eOr (eNot (eTru (eCall F__law_whole (eCons (eOp oIx (eVar 2) (eC (.int 0))) eNil)))) (eNot (eTru (eCB cIsi (eCons (eOp oIx (eVar 2) (eC (.int 1))) (eCons (eC (.ty "list")) eNil)))))) (sRet (eC (.bl false))) sNext)
  (sSeq (sAsg (eOp oIx (eVar 2) (eC (.int 1))) (.nm 4))
  (sSeq (sIf (eOr (eT (eOp oNe (eLc (iL (eVar 4)) (.nm 6) (eNot (eTru (eCall F__law_number60 (eCons (eVar 6) (eCons (eCB cLen (eCons (eOp oIx (eVar 0) (eC (.int 1))) eNil)) eNil))))) (eVar 6) [6]) (eLst eNil))) (eT (eOp oNe (eCB cSortedI (eCons (eVar 4) eNil)) (eVar 4)))) (sRet (eC (.bl false))) sNext)
  (sSeq (sIf (eT (eOp oNe (eCB cLen (eCons (eLc (iR1 (eCons (eCB cLen (eCons (eOp oIx (eVar 0) (eC (.int 1))) eNil)) eNil)) (.nm 6) (eT (eOp (oIn false) (eVar 6) (eVar 4))) (eVar 6) [6]) eNil)) (eCB cLen (eCons (eVar 4) eNil)))) (sRet (eC (.bl false))) sNext)
  (sSeq (sIf (eNot (eTru (eCall F__law_is_light (eCons (eVar 0) (eCons (eVar 4) (eCons (eVar 1) eNil)))))) (sRet (eC (.bl false))) sNext)
  (sSeq (sAsg (eCall (F__law_walk 31) (eCons (eVar 0) (eCons (eVar 1) (eCons (eOp oIx (eVar 2) (eC (.int 2))) (eCons (eTup (eCons (eLst eNil) (eCons (eLst eNil) eNil))) (eCons (eC (.int 30)) eNil)))))) (.nm 5))
  (sSeq (sIf (eOr (eT (eOp oIsN (eVar 5) (eC .non))) (eOr (eT (eOp oGt (eCall F__law_many (eCons (eOp oIx (eVar 2) (eC (.int 2))) eNil)) (eC (.int 500)))) (eT (eOp oNe (eCB cMax (eCons (eVar 5) eNil)) (eVar 3))))) (sRet (eC (.bl false))) sNext)
  (sRet (eAndT (eOp oEq (eOp oIx (eVar 2) (eC (.int 0))) (eVar 3)) (eOp oEq (eCB cSum (eCons (eLc (iL (eVar 4)) (.nm 6) eYes (eOp oIx (eOp oIx (eOp oIx (eVar 0) (eC (.int 1))) (eVar 6)) (eC (.int 3))) [6]) eNil)) (eVar 3))))))))))))
theorem load_nil {n : Int} {rs : List Stretch} {m : Int} : loadOn n rs [] m = 0 := rfl
theorem lt_snoc {n : Int} {rs : List Stretch} {b : Int} {j : Nat} {l : List Nat} (h : LtOk n rs b (j + 1) l) : (j ∉ l ∧ LtOk n rs b j l) ∨ ∃ l2, l = l2 ++ [j] ∧ LtOk n rs b j l2 := by
  obtain ⟨hs, hk⟩ := h
  by_cases c : j ∈ l
  · right
    rcases List.eq_nil_or_concat l with e | ⟨r, y, e⟩
    · subst e; cases c
    · rw [List.concat_eq_append] at e
      subst e
      have up := List.pairwise_append.mp hs.up
      have ey : y = j := by
        rcases List.mem_append.mp c with q | q
        · have h1 := up.2.2 j q y (by simp)
          have h2 := hs.lt y (by simp)
          omega
        · exact (List.mem_singleton.mp q).symm
      subst ey
      refine ⟨r, rfl, ⟨fun i hi => up.2.2 i hi y (by simp), up.1⟩, fun m h0 h1 => ?_⟩
      have := hk m h0 h1
      rw [loadR_snoc] at this
      split at this <;> omega
  · exact .inl ⟨c, ⟨fun i hi => by
      have := hs.lt i hi
      have : i ≠ j := fun e => c (e ▸ hi)
      omega, hs.up⟩, hk⟩
theorem d__law_ring_choices (ds : List D) (G : Gp) (Q : DK) (h : F__law_ring_choices ds G Q) : r__law_ring_choices (fin G Q) (startD 6 ds) G := by
  obtain ⟨n, rs, b, rfl, hr, h7, hb, k⟩ := h
  refine seq_gen fun W hW => ?_
  simp [startD]
  refine hW _ _ (seq_gen fun W2 hW2 => ?_)
  simp
  refine ⟨by omega, ?_⟩
  refine forW_rng (n := rs.length) (fun j s G' => ∃ (ls : List (List Nat)) (o3 o4 : Option D), s = [some (ringD n rs), some (.int b), some (.lst (ls.map fun l => .lst (nD l))), o3, o4, none] ∧ G' = G ∧ ls.length ≤ 2 ^ j ∧ ∀ l, l ∈ ls ↔ LtOk n rs b j l) ?_ ?_ ⟨[[]], none, none, rfl, rfl, by simp, fun l => ?_⟩
  · rintro j s G' W hj ⟨ls, o3, o4, rfl, rfl, hlen, hls⟩ hW
    have hl2 : ls.length ≤ 512 := Nat.le_trans hlen (Nat.pow_le_pow_right (by decide) (by omega : j ≤ 9))
    refine seq_gen fun W2 hW2 => ?_
    simp
    refine compW_all (f := fun l : List Nat => D.lst (nD (l ++ [j]))) (g := fun l : List Nat => D.lst (nD l)) True.intro ls [] (fun l hl => ⟨_, rfl, fun R r => ?_⟩) ?_
    · have := some_len ((hls l).mp hl).1
      simp
      refine ⟨Nat.le_trans (by simp [nD]; omega : _ ≤ 100) (by decide), ?_⟩
      simpa [nD] using r
    have e1 : ls.map (fun l => D.lst (nD (l ++ [j]))) = (ls.map fun l => l ++ [j]).map fun l => D.lst (nD l) := by simp
    rw [List.nil_append, e1]
    refine hW2 _ _ ?_
    simp only [sAsg, eOp, eVar, eLc, iL, List.getElem?_cons_succ, List.getElem?_cons_zero, lkL_lst]
    refine compW_ind (α := List Nat) (g := fun l => D.lst (nD l)) (fun r acc G'' => ∃ ms done : List (List Nat), acc = ms.map (fun l => D.lst (nD l)) ∧ G'' = G' ∧ ms.length + r.length ≤ ls.length ∧ (ls.map fun l => l ++ [j]) = done ++ r ∧ (∀ l, l ∈ ms ↔ l ∈ done ∧ LtOk n rs b (j + 1) l) ∧ ∀ l ∈ r, Some (j + 1) l) (fun _ _ _ _ => trivial) ?_ ?_ _ _ _ ⟨[], [], rfl, rfl, by simp, rfl, by simp, fun l hl => ?_⟩
    · rintro l r acc G'' W ⟨ms, done, rfl, rfl, hl1, hd, hms, hr2⟩ hW
      have sl := hr2 l List.mem_cons_self
      simp
      refine lightL_ok hr (fun i hi => by have := sl.lt i hi; omega) fun c hc => ?_
      simp at hl1
      cases c with
      | true =>
        simp
        refine hW _ _ ⟨ms ++ [l], done ++ [l], by simp, rfl, by simp; omega, by rw [hd]; simp, fun l2 => ?_, fun l hl => hr2 l (List.mem_cons_of_mem _ hl)⟩
        rw [List.mem_append, List.mem_append, hms l2, List.mem_singleton]
        constructor
        · rintro (q | rfl)
          · exact ⟨.inl q.1, q.2⟩
          · exact ⟨.inr rfl, sl, hc.mp rfl⟩
        · rintro ⟨q | q, z⟩
          · exact .inl ⟨q, z⟩
          · exact .inr q
      | false =>
        simp
        refine hW _ _ ⟨ms, done ++ [l], rfl, rfl, by omega, by rw [hd]; simp, fun l2 => ?_, fun l hl => hr2 l (List.mem_cons_of_mem _ hl)⟩
        rw [List.mem_append, hms l2, List.mem_singleton]
        constructor
        · exact fun q => ⟨.inl q.1, q.2⟩
        · rintro ⟨q | rfl, z⟩
          · exact ⟨q, z⟩
          · exact absurd (hc.mpr z.2) (by decide)
    · rintro acc G'' ⟨ms, done, rfl, rfl, hl1, hd, hms, -⟩
      simp at hl1
      rw [List.append_nil] at hd
      refine add_ok (by simp; omega) ?_
      refine hW _ _ ⟨ls ++ ms, _, _, by rw [List.map_append]; rfl, rfl, ?_, fun l => ?_⟩
      · rw [List.length_append, Nat.pow_succ]
        omega
      · rw [List.mem_append, hls l, hms l, ← hd]
        constructor
        · rintro (⟨q1, q2⟩ | q)
          · exact ⟨⟨fun i hi => Nat.lt_succ_of_lt (q1.lt i hi), q1.up⟩, q2⟩
          · exact q.2
        · intro q
          rcases lt_snoc q with z | ⟨l2, rfl, z⟩
          · exact .inl z.2
          · exact .inr ⟨List.mem_map.mpr ⟨l2, (hls l2).mpr z, rfl⟩, q⟩
    · obtain ⟨l2, hl2, rfl⟩ := List.mem_map.mp hl
      obtain ⟨q1, q2⟩ := (hls l2).mp hl2
      refine ⟨fun i hi => ?_, ?_⟩
      · rcases List.mem_append.mp hi with q | q
        · have := q1.lt i q; omega
        · simp at q; omega
      · rw [List.pairwise_append]
        refine ⟨q1.up, by simp, fun i hi x hx => ?_⟩
        simp at hx
        have := q1.lt i hi
        omega
  · rintro s G' ⟨ls, o3, o4, rfl, rfl, hlen, hls⟩
    refine hW2 _ _ ?_
    simp
    exact fin_id (k ls hls)
  · rw [List.mem_singleton]
    constructor
    · rintro rfl
      exact ⟨⟨by simp, by simp⟩, fun m _ _ => by rw [load_nil]; omega⟩
    · rintro ⟨q, -⟩
      cases l with
      | nil => rfl
      | cons i l => exact absurd (q.lt i List.mem_cons_self) (by omega)
theorem d__law_number60 (ds : List D) (G : Gp) (Q : DK) (h : F__law_number60 ds G Q) : r__law_number60 (fin G Q) (startD 2 ds) G := by
  obtain ⟨i, m, rfl, k⟩ := h
  unfold r__law_number60
  (try dsimp only [oLe, oLt, startD, sRet, eAndT, eCall, eCons, eVar, eChain, eC, oI0, eNil]); (try simp only [List.map_cons, List.map_nil, List.length_cons, List.length_nil, Nat.reduceAdd, List.cons_append, List.nil_append]); (try dsimp only [List.getElem?_cons_zero, List.getElem?_cons_succ])
  refine whole_any rfl ?_
  (try dsimp only [whB, truD_bl]); (try simp only [if_true]); (skip)
  by_cases c : 0 ≤ i
  · rw [decide_eq_true c]
    (skip); (try simp only [if_true]); (skip)
    have : decide (i < m) = decide (0 ≤ i ∧ i < m) := by simp [c]
    rw [this]
    exact fin_id k
  · rw [decide_eq_false c]
    (skip); (try simp only [Bool.false_eq_true, if_false]); (skip)
    have : decide (0 ≤ i ∧ i < m) = false := by simp [c]
    rw [this] at k
    exact fin_id k
theorem d__law_priced (ds : List D) (G : Gp) (Q : DK) (h : F__law_priced ds G Q) : r__law_priced (fin G Q) (startD 11 ds) G := by
  obtain ⟨n, rs, nb, pp, ins, outs, rfl, hr, hp, hg, hi, k⟩ := h
  have rl := hr.len
  have n1 := hr.n1
  refine seq_gen fun W hW => ?_
  (try dsimp only [startD, sAsg, eVar, asg]); (try simp only [List.map_cons, List.map_nil, List.length_cons, List.length_nil, Nat.reduceAdd, List.replicate, List.cons_append, List.nil_append]); (try dsimp only [List.getElem?_cons_succ, List.getElem?_cons_zero, setAll, List.set_cons_succ, List.set_cons_zero])
  refine hW _ _ ?_
  refine seq_gen fun W2 hW2 => ?_
  (try dsimp only [sIf, eNot, eTru, eCall, eCons, eVar, List.getElem?_cons_succ, List.getElem?_cons_zero, sRet, eC, sNext, eNil]); (skip); (skip)
  refine ⟨pp, rfl, hp, ?_⟩
  (try dsimp only [truD_bl]); (try simp only [Bool.not_true, Bool.false_eq_true, if_false]); (skip)
  refine hW2 _ _ ?_
  refine seq_gen fun W3 hW3 => ?_
  (try dsimp only [oLe, oLt, sIf, eT, eOp, eLc, iL, eVar, List.getElem?_cons_succ, List.getElem?_cons_zero, wipeD, List.set_cons_succ, List.set_cons_zero, sRet, eC, sNext, eLst, eNil, stays, lkL_lst]); (try simp only [List.length_nil, sizeLine_eq, Nat.reduceLeDiff, true_and]); (skip)
  refine compW_map (g := qD) (p := fun x => !decide (0 ≤ x.1 ∧ x.1 < n)) (f := fun x => D.int x.1) trivial pp [] (fun x hx => ⟨_, rfl, fun R r => ?_, fun _ R r => ?_⟩) ?_
  · (try dsimp only [List.set_cons_succ, List.set_cons_zero, eNot, eT, eChain, eC, eVar, List.getElem?_cons_succ, List.getElem?_cons_zero, oI0, eOp]); (try simp only [Bool.not_false]); (skip)
    by_cases c0 : 0 ≤ x.1
    · rw [decide_eq_true c0]
      (skip); (try simp only [if_true]); (skip)
      refine ixg_0 ?_
      (try dsimp only); (skip); (skip)
      have : (!decide (x.1 < n)) = !decide (0 ≤ x.1 ∧ x.1 < n) := by simp [c0]
      rw [this]
      exact r
    · rw [decide_eq_false c0]
      (skip); (try simp only [Bool.false_eq_true, if_false]); (skip)
      have : (!decide (0 ≤ x.1 ∧ x.1 < n)) = true := by simp [c0]
      rw [this] at r
      exact r
  · (try dsimp only [List.set_cons_succ, List.set_cons_zero, eVar, List.getElem?_cons_succ, List.getElem?_cons_zero]); (skip); (skip)
    exact r
  have ef : pp.filter (fun x => !decide (0 ≤ x.1 ∧ x.1 < n)) = [] := by
    rw [List.filter_eq_nil_iff]
    intro x hx
    rw [decide_eq_true (hg x hx)]
    decide
  rw [ef]
  (skip); (try simp only [List.map_nil, List.append_nil]); (skip)
  refine ne_nilI (l := []) ?_
  rw [decide_eq_true rfl]
  (try dsimp only); (try simp only [Bool.not_true, Bool.false_eq_true, if_false]); (skip)
  refine hW3 _ _ ?_
  refine seq_gen fun W4 hW4 => ?_
  (try dsimp only [sAsg, eCB, eCons, eLc, iL, eVar, List.getElem?_cons_succ, List.getElem?_cons_zero, wipeD, List.set_cons_succ, List.set_cons_zero, asg, eNil, stays, lkL_lst]); (skip); (skip)
  refine compW_all (g := fun i : Nat => D.int (i : Int)) (f := fun i => D.int (st rs i).w) trivial ins [] (fun i hi' => ⟨_, rfl, fun R r => ?_⟩) ?_
  · (try dsimp only [List.set_cons_succ, List.set_cons_zero, eOp, eVar, List.getElem?_cons_zero, eC, List.getElem?_cons_succ]); (skip); (skip)
    exact ixg_1 (ix_at (bk_at (hi i hi')) (ixt_0 (d := .int (st rs i).w) rfl r))
  rw [List.nil_append]
  have e : ins.map (fun i => D.int (st rs i).w) = (ins.map fun i => (st rs i).w).map D.int := by rw [List.map_map]; rfl
  rw [e]
  (try dsimp only [cSum, lkL_lst, Option.bind_some]); (try simp only [intsD_map]); (skip)
  refine hW4 _ _ ?_
  refine seq_gen fun W5 hW5 => ?_
  (try dsimp only [sFor, iL, eVar, List.getElem?_cons_succ, List.getElem?_cons_zero, lkL_lst]); (skip); (skip)
  refine forW_ind (g := qD) (fun r sl G' => ∃ (done : Paper) (o5 o6 : Option D), G' = G ∧ pp = done ++ r ∧ sl = [some (ringD n rs), some (.int nb), some (.lst (pp.map qD)), some (.tup [.lst (nD ins), .lst (nD outs)]), some (.lst (nD ins)), some (.lst (nD outs)), some (.int ((ins.map fun i => (st rs i).w).sum + (done.map fun x => x.2 * (nb - (loadOn n rs ins x.1 : Int))).sum)), o5, o6, none, none]) (fun _ _ _ _ => stays_of lkL_lst) ?_ ?_ pp _ _ ⟨[], none, none, rfl, rfl, ?_⟩
  · rintro y r sl G' W ⟨done, o5, o6, rfl, ep, rfl⟩ hW'
    (try dsimp only [qD, asg, setAll, List.set_cons_succ, List.set_cons_zero]); (skip); (skip)
    unfold r__law_priced_L1
    (try dsimp only [oMul, oSub, sAsg, eOp, eVar, List.getElem?_cons_succ, List.getElem?_cons_zero, asg, List.set_cons_succ, List.set_cons_zero, oI, oI0, eCall, eCons, eNil]); (skip); (skip)
    refine load_on_ok (by omega) hi ?_
    (try dsimp only); (skip); (skip)
    have yp : y ∈ pp := by rw [ep]; simp
    have y1 := hp.p1 y yp
    have y2 := hp.p2 y yp
    refine ⟨cmul_l (by omega) (by omega), ?_⟩
    refine add_ii ?_
    (skip); (skip); (skip)
    refine hW' _ _ ⟨done ++ [y], some (.int y.1), some (.int y.2), rfl, by rw [ep]; simp, ?_⟩
    simp only [List.map_append, List.map_cons, List.map_nil, List.sum_append, List.sum_cons, List.sum_nil]
    rw [Int.add_zero, Int.add_assoc]
  · rintro sl G' ⟨done, o5, o6, rfl, ep, rfl⟩
    rw [List.append_nil] at ep
    subst ep
    refine hW5 _ _ ?_
    refine seq_gen fun W6 hW6 => ?_
    (try dsimp only [sAsg, eLc, iR1, eCons, eCB, eOp, eVar, List.getElem?_cons_zero, asg, List.set_cons_succ, List.set_cons_zero, eNil, eC]); (skip); (skip)
    refine ixg_1 (len_lst ?_)
    rw [List.length_map]
    (try dsimp only); (skip); (skip)
    refine ⟨by omega, by omega, ?_⟩
    rw [Int.toNat_natCast, rng_nat0]
    refine compW_free (by simp [wipeD]) (by decide) (by decide) rfl rfl ?_
    refine hW6 _ _ ?_
    (try dsimp only [sRet, eLst, eCons, eOp, eVar, List.getElem?_cons_succ, List.getElem?_cons_zero, eNil, eCB, eLc, iL, wipeD, List.set_cons_succ, List.set_cons_zero, stays, lkL_lst]); (try simp only [List.length_cons, List.length_nil, Nat.reduceAdd, sizeLine_eq, Nat.reduceLeDiff, true_and]); (skip)
    refine compW_all (g := fun i : Nat => D.int (i : Int)) (f := fun i => D.int (restR n (st rs i) pp)) trivial (freeZ rs ins outs) [] (fun i hi' => ⟨_, rfl, fun R r => ?_⟩) ?_
    · (try dsimp only [List.set_cons_succ, List.set_cons_zero, eCall, eCons, eVar, List.getElem?_cons_zero, List.getElem?_cons_succ, eNil]); (skip); (skip)
      exact ⟨n, rs, i, pp, rfl, by omega, (free_mem.mp hi').1, r⟩
    rw [List.nil_append]
    have e2 : (freeZ rs ins outs).map (fun i => D.int (restR n (st rs i) pp)) = ((freeZ rs ins outs).map fun i => restR n (st rs i) pp).map D.int := by rw [List.map_map]; rfl
    rw [e2]
    (try dsimp only [cSum, lkL_lst, Option.bind_some]); (try simp only [intsD_map]); (skip)
    refine add_ii (fin_id ?_)
    exact k
  · simp only [List.map_nil, List.sum_nil, Int.add_zero]
theorem clm_len {n : Int} {rs : List Stretch} {nb : Int} : ∀ (t : Tr) {ins outs : List Nat} {s : List Int}, clm n rs nb t ins outs = some s → s.length ≤ t.size
  | .pr pp, ins, outs, s, h => by unfold clm at h; cases h; simp [Tr.size]
  | .cr m, ins, outs, s, h => by
    unfold clm at h
    split at h
    · cases h; simp
    · cases h
  | .sp i a b, ins, outs, s, h => by
    unfold clm at h
    split at h
    · split at h
      · rename_i s1 e1
        split at h
        · rename_i s2 e2
          cases h
          have h1 := clm_len a e1
          have h2 := clm_len b e2
          rw [List.length_append]
          simp only [Tr.size]
          omega
        · cases h
      · cases h
    · cases h
theorem app_i {L M : List Int} {G : Gp} {Q : DK} (h : L.length + M.length ≤ 16777216) (q : Q (.lst (iD (L ++ M))) G) : oAdd (.lst (iD L)) (.lst (iD M)) G Q := by
  refine add_ok (by simp [iD]; omega) ?_
  rw [show iD L ++ iD M = iD (L ++ M) by unfold iD; rw [List.map_append]]
  exact q
theorem d__law_walk (k : Nat) (ds : List D) (G : Gp) (Q : DK) (h : F__law_walk (k + 1) ds G Q) : r__law_walk k (fin G Q) (startD 9 ds) G := by
  obtain ⟨n, rs, nb, t, ins, outs, deep, s, rfl, hr, pap, dk, dd, hi, i9, o9, sz, hc, kq⟩ := h
  have rl := hr.len
  have n1 := hr.n1
  have kt : kitB "tuple" "tuple" = some true := by decide +kernel
  have kl : kitB "list" "list" = some true := by decide +kernel
  have d1 := t.dep1
  refine seq_gen fun W hW => ?_
  (try dsimp only [startD, sAsg, eVar, asg]); (try simp only [List.map_cons, List.map_nil, List.length_cons, List.length_nil, Nat.reduceAdd, List.replicate, List.cons_append, List.nil_append]); (try dsimp only [List.getElem?_cons_succ, List.getElem?_cons_zero, setAll, List.set_cons_succ, List.set_cons_zero])
  refine hW _ _ ?_
  refine seq_gen fun W2 hW2 => ?_
  have tyT : tyD G t.d = some "tuple" := by cases t <;> rfl
  (try dsimp only [sIf, eOr, eNot, eTru, eCB, eCons, eVar, List.getElem?_cons_succ, List.getElem?_cons_zero, sRet, eC, sNext, eT, eOp, cIsi, truD_bl, eNil]); (try simp only [tyT, Option.bind_some, kt, Bool.not_true, Bool.false_eq_true, if_true, if_false]); (skip)
  refine eq_ii ?_
  rw [decide_eq_false (by omega)]
  (try dsimp only); (try simp only [Bool.false_eq_true, if_false]); (skip)
  refine hW2 _ _ ?_
  refine seq_gen fun W3 hW3 => ?_
  cases t with
  | pr pp =>
    obtain ⟨pk, pb⟩ := pap
    (try dsimp only [Tr.d, sIf, eAnd, eT, eOp, eCB, eCons, eVar, List.getElem?_cons_succ, List.getElem?_cons_zero, sRet, eCall, eNil, eC, sNext]); (try simp only [Bool.false_eq_true, if_false]); (skip)
    refine len_tup (eq_ii ?_)
    rw [decide_eq_true (by rfl)]
    (try dsimp only); (try simp only [if_true]); (skip)
    refine ixt_0 (d := .str "prices") rfl (eq_ss (asc_of _) (asc_of _) ?_)
    rw [decide_eq_true rfl]
    (try dsimp only); (try simp only [if_true]); (skip)
    refine ixt_0 (d := .lst (pp.map qD)) rfl ?_
    refine ⟨n, rs, nb, pp, ins, outs, rfl, hr, pk, pb, hi, ?_⟩
    unfold clm at hc
    cases hc
    exact fin_id kq
  | cr m =>
    (try dsimp only [Tr.d, sIf, eAnd, eT, eOp, eCB, eCons, eVar, List.getElem?_cons_succ, List.getElem?_cons_zero, sRet, eCall, eNil, eC, sNext]); (try simp only [Bool.false_eq_true, if_false]); (skip)
    refine len_tup (eq_ii ?_)
    rw [decide_eq_true (by rfl)]
    (try dsimp only); (try simp only [if_true]); (skip)
    refine ixt_0 (d := .str "crowd") rfl (eq_ss (asc_of _) (asc_of _) ?_)
    rw [decide_eq_false (by decide +kernel)]
    (try dsimp only); (try simp only [Bool.false_eq_true, if_false]); (skip)
    refine hW3 _ _ ?_
    refine seq_gen fun W4 hW4 => ?_
    (try dsimp only [oLe, sIf, eAnd, eT, eOp, eCB, eCons, eVar, List.getElem?_cons_succ, List.getElem?_cons_zero, sRet, eLst, eNil, eCall, oI0, eC, sNext, eTru]); (try simp only [List.length_nil, sizeLine_eq, Nat.reduceLeDiff, List.length_cons, Nat.reduceAdd, true_and, Bool.false_eq_true, if_false]); (skip)
    refine len_tup (eq_ii ?_)
    rw [decide_eq_true (by rfl)]
    (try dsimp only); (try simp only [if_true]); (skip)
    refine ixt_0 (d := .str "crowd") rfl (eq_ss (asc_of _) (asc_of _) ?_)
    rw [decide_eq_true rfl]
    (try dsimp only); (try simp only [if_true]); (skip)
    refine ixt_0 (d := .int m) rfl (ixg_0 ?_)
    unfold clm at hc
    split at hc
    · rename_i c
      cases hc
      refine ⟨m, n, rfl, ?_⟩
      rw [decide_eq_true c.1]
      (try dsimp only [truD_bl]); (try simp only [if_true]); (skip)
      refine ixt_0 (d := .int m) rfl ?_
      refine load_on_ok (by omega) hi ?_
      (try dsimp only [cInt1]); (skip); (skip)
      rw [decide_eq_false (by omega)]
      (skip); (try simp only [Bool.false_eq_true, if_false]); (skip)
      exact ix_at rfl (fin_id kq)
    · cases hc
  | sp i a b =>
    unfold clm at hc
    split at hc
    · rename_i cf
      obtain ⟨f1, f2, f3⟩ := free_mem.mp cf
      split at hc
      · rename_i s1 e1
        split at hc
        · rename_i s2 e2
          cases hc
          have dA : a.dep + 1 ≤ (Tr.sp i a b).dep := by simp only [Tr.dep]; omega
          have dB : b.dep + 1 ≤ (Tr.sp i a b).dep := by simp only [Tr.dep]; omega
          have zA : a.size + b.size + 1 = (Tr.sp i a b).size := rfl
          have a1 := a.dep1
          obtain ⟨k', rfl⟩ : ∃ k', k = k' + 1 := ⟨k - 1, by omega⟩
          have l1 := clm_len a e1
          have l2 := clm_len b e2
          (try dsimp only [Tr.d, sIf, eAnd, eT, eOp, eCB, eCons, eVar, List.getElem?_cons_succ, List.getElem?_cons_zero, sRet, eCall, eNil, eC, sNext]); (try simp only [Bool.false_eq_true, if_false]); (skip)
          refine len_tup (eq_ii ?_)
          rw [decide_eq_false (by simp)]
          (try dsimp only); (try simp only [Bool.false_eq_true, if_false]); (skip)
          refine hW3 _ _ ?_
          refine seq_gen fun W4 hW4 => ?_
          (try dsimp only [oLe, sIf, eAnd, eT, eOp, eCB, eCons, eVar, List.getElem?_cons_succ, List.getElem?_cons_zero, sRet, eLst, eNil, eCall, oI0, eC, sNext, eTru]); (try simp only [List.length_nil, sizeLine_eq, Nat.reduceLeDiff, List.length_cons, Nat.reduceAdd, true_and, Bool.false_eq_true, if_false]); (skip)
          refine len_tup (eq_ii ?_)
          rw [decide_eq_false (by simp)]
          (try dsimp only); (try simp only [Bool.false_eq_true, if_false]); (skip)
          refine hW4 _ _ ?_
          refine seq_gen fun W5 hW5 => ?_
          (try dsimp only [sIf, eOr, eT, eOp, eCB, eCons, eVar, List.getElem?_cons_succ, List.getElem?_cons_zero, sRet, eC, sNext, eNot, eTru, eCall, eNil]); (try simp only [if_true]); (skip)
          refine len_tup (ne_ii ?_)
          rw [decide_eq_true (by rfl)]
          (try dsimp only); (try simp only [Bool.not_true, Bool.false_eq_true, if_false]); (skip)
          refine ixt_0 (d := .str "split") rfl (ne_ss (asc_of _) (asc_of _) ?_)
          rw [decide_eq_true rfl]
          (try dsimp only); (try simp only [Bool.not_true, Bool.false_eq_true, if_false]); (skip)
          refine ixt_0 (d := .int (i : Int)) rfl (ixg_1 (len_lst ?_))
          rw [List.length_map]
          refine ⟨(i : Int), _, rfl, ?_⟩
          rw [decide_eq_true (by omega)]
          (try dsimp only [truD_bl]); (try simp only [Bool.not_true, Bool.false_eq_true, if_false]); (skip)
          refine hW5 _ _ ?_
          refine seq_gen fun W6 hW6 => ?_
          (try dsimp only [sIf, eOr, eT, eOp, eVar, List.getElem?_cons_succ, List.getElem?_cons_zero, sRet, eC, sNext, eNot, eTru, eCB, eCons, eNil]); (try simp only [if_true]); (skip)
          refine ixt_0 (d := .int (i : Int)) rfl (app_d (by omega) (in_natsL ?_))
          rw [decide_eq_false (fun m => (List.mem_append.mp m).elim f2 f3)]
          (try dsimp only); (try simp only [Bool.false_eq_true, if_false]); (skip)
          refine ixt_0 (d := .lst [a.d, b.d]) rfl ?_
          (try dsimp only [cIsi, tyD, truD_bl, Option.bind_some]); (try simp only [kl, Bool.not_true, Bool.false_eq_true, if_false]); (skip)
          refine ixt_0 (d := .lst [a.d, b.d]) rfl (len_lst (ne_ii ?_))
          rw [decide_eq_true (by rfl)]
          (try dsimp only); (try simp only [Bool.not_true, Bool.false_eq_true, if_false]); (skip)
          refine hW6 _ _ ?_
          refine seq_gen fun W7 hW7 => ?_
          (try dsimp only [oSub, sAsg, eCall, eCons, eVar, List.getElem?_cons_zero, asg, List.set_cons_succ, List.set_cons_zero, List.getElem?_cons_succ, eOp, eTup, eNil, oI0, eC, eLst]); (try simp only [List.length_cons, List.length_nil, Nat.reduceAdd, sizeLine_eq, Nat.reduceLeDiff, true_and]); (skip)
          refine ixt_0 (d := .lst [a.d, b.d]) rfl (ix_at (d := a.d) rfl ?_)
          refine ixt_0 (d := .int (i : Int)) rfl ?_
          have eI : ∀ L : List Nat, nD L ++ [D.int (i : Int)] = nD (L ++ [i]) := fun L => by simp [nD]
          refine add_ok (by simp [nD]; omega) ?_
          rw [eI]
          (skip); (skip); (skip)
          refine ⟨n, rs, nb, a, ins ++ [i], outs, deep - 1, s1, rfl, hr, pap.1, by omega, by omega, fun j hj => ?_, by rw [List.length_append]; simp; omega, by omega, by omega, e1, hW7 _ _ ?_⟩
          · rcases List.mem_append.mp hj with q | q
            · exact hi j q
            · rw [List.mem_singleton.mp q]; exact f1
          refine seq_gen fun W8 hW8 => ?_
          (try dsimp only [oSub, sAsg, eCall, eCons, eVar, List.getElem?_cons_zero, asg, List.set_cons_succ, List.set_cons_zero, List.getElem?_cons_succ, eOp, eTup, eNil, oI0, eC, eLst]); (try simp only [List.length_cons, List.length_nil, Nat.reduceAdd, sizeLine_eq, Nat.reduceLeDiff, true_and]); (skip)
          refine ixt_0 (d := .lst [a.d, b.d]) rfl (ix_at (d := b.d) rfl ?_)
          refine ixt_0 (d := .int (i : Int)) rfl ?_
          refine add_ok (by simp [nD]; omega) ?_
          rw [eI]
          (skip); (skip); (skip)
          refine ⟨n, rs, nb, b, ins, outs ++ [i], deep - 1, s2, rfl, hr, pap.2, by omega, by omega, hi, by omega, by rw [List.length_append]; simp; omega, by omega, e2, hW8 _ _ ?_⟩
          refine seq_gen fun W9 hW9 => ?_
          (try dsimp only [sIf, eOr, eT, eOp, eVar, List.getElem?_cons_succ, List.getElem?_cons_zero, sRet, eC, sNext, oIsN]); (try simp only [Bool.false_eq_true, if_true, if_false]); (skip)
          refine hW9 _ _ ?_
          (try dsimp only [sRet, eOp, eVar, List.getElem?_cons_succ, List.getElem?_cons_zero]); (skip); (skip)
          exact app_i (by omega) (fin_id kq)
        · cases hc
      · cases hc
    · cases hc
theorem ne_nil_of2 {d : D} {us : List PyData} {n : Nat} {G : Gp} {Q : DK} (e : toPy G d = some (.list us)) (s : Shp n (.list us)) (q : Q (.bl (!us.isEmpty)) G) (hn : n ≤ 64 := by decide) : oNe d (.lst []) G Q := by
  have s2 : Shp 1 (.list []) := shp_list fun x hx => by cases hx
  have e2 : toPy G (.lst []) = some (.list []) := by simp
  simp only [oNe, e, e2, s.shaped hn, s2.shaped (by decide), true_and]
  cases us with
  | nil => rw [eqv_self s]; exact q
  | cons a l => simpa [PyData.eqv, PyData.eqvAll] using q
theorem Tr.toPy0 : ∀ t : Tr, DL.toPy0 t.d = some t.py
  | .pr pp => by
    have e : ∀ pp : Paper, toPys0 (pp.map qD) = some (pp.map fun x => PyData.tuple [.int x.1, .int x.2]) := fun pp => by
      induction pp with
      | nil => simp
      | cons x r ih => simp [qD, ih]
    simp [Tr.d, Tr.py, e]
  | .cr m => by simp [Tr.d, Tr.py]
  | .sp i a b => by simp [Tr.d, Tr.py, Tr.toPy0 a, Tr.toPy0 b]
theorem toPys0_tr : ∀ row : List Tr, toPys0 (row.map Tr.d) = some (row.map Tr.py)
  | [] => by simp
  | t :: r => by simp [Tr.toPy0 t, toPys0_tr r]
theorem ne_nilT {q : Addr} {row : List Tr} {G : Gp} {Q : DK} (h : G q = some (.lst (row.map Tr.d))) (hd : ∀ t ∈ row, t.dep ≤ 20) (k : Q (.bl (!row.isEmpty)) G) : oNe (.ref q) (.lst []) G Q := by
  have e1 : toPy G (.ref q) = some (.list (row.map Tr.py)) := by
    simp [h, toPys0_tr]
  refine ne_nil_of2 (n := 42) e1 (shp_list fun y hy => ?_) ?_
  · obtain ⟨t, ht, rfl⟩ := List.mem_map.mp hy
    exact t.shp.mono (by have := hd t ht; omega)
  · cases row <;> exact k
theorem while_ind {c : ET} {tb : ES} {N : En} {I : Nat → Sd → Gp → Prop} (h : ∀ m s G (W : Sd → Gp → Prop), I m s G → (∀ m' s' G', m' < m → I m' s' G' → W s' G') → c s G fun b G1 => if b = true then tb { N with nx := W, ct := W, bk := N.nx } s G1 else N.nx s G1) : ∀ k m s G, m ≤ k → I m s G → whW c tb N (k + 1) s G
  | 0, m, s, G, hm, hI => h m s G (whW c tb N 0) hI fun m' _ _ h' _ => by omega
  | k + 1, m, s, G, hm, hI => h m s G (whW c tb N (k + 1)) hI fun m' s' G' h' hI' => while_ind h k m' s' G' (by omega) hI'
def sizes (row : List Tr) : Nat := (row.map Tr.size).sum
theorem sizes_app {a b : List Tr} : sizes (a ++ b) = sizes a + sizes b := by simp [sizes]
theorem sizes_len : ∀ row : List Tr, row.length ≤ sizes row
  | [] => Nat.le_refl _
  | t :: r => by
    have := t.size1
    have := sizes_len r
    simp only [sizes, List.map_cons, List.sum_cons, List.length_cons] at *
    omega
theorem d__law_many (ds : List D) (G : Gp) (Q : DK) (h : F__law_many ds G Q) : r__law_many (fin G Q) (startD 4 ds) G := by
  obtain ⟨t, rfl, sz, dp, k⟩ := h
  refine seq_gen fun W hW => ?_
  (try dsimp only [startD, sAsg, eLstO, eCons, eVar, asg, eNil]); (try simp only [List.map_cons, List.map_nil, List.length_cons, List.length_nil, Nat.reduceAdd, List.replicate, List.cons_append, List.nil_append, sizeLine_eq, Nat.reduceLeDiff, true_and]); (try dsimp only [List.getElem?_cons_zero, List.set_cons_succ, List.set_cons_zero])
  intro p hp
  refine hW _ _ ?_
  refine seq_gen fun W2 hW2 => ?_
  (try dsimp only [sAsg, eC, asg, List.set_cons_succ, List.set_cons_zero]); (skip); (skip)
  refine hW2 _ _ ?_
  refine seq_gen fun W3 hW3 => ?_
  unfold sWhile
  refine ⟨t.size + 1, ?_⟩
  refine while_ind (I := fun m s G' => ∃ (row : List Tr) (p : Addr) (cnt : Nat) (o3 : Option D), s = [some t.d, some (.ref p), some (.int (cnt : Int)), o3] ∧ G' p = some (.lst (row.map Tr.d)) ∧ G p = none ∧ cnt + sizes row = t.size ∧ m = sizes row ∧ (∀ u ∈ row, u.dep ≤ 20) ∧ ∀ a o, G a = some o → G' a = some o) ?_ _ t.size _ _ (Nat.le_refl _) ⟨[t], p, 0, _, rfl, gput_same, hp, by simp [sizes], by simp [sizes], fun u hu => by rw [List.mem_singleton.mp hu]; exact dp, fun a o e => by rw [gput_ne (fun z => by rw [z, hp] at e; cases e)]; exact e⟩
  rintro m s G' W ⟨row, p, cnt, o3, rfl, hr, hp, hc, rfl, hd, up⟩ hW'
  (try dsimp only [oLt, eAnd, eT, eOp, eVar, List.getElem?_cons_succ, List.getElem?_cons_zero, oI0, eC, eLst, eNil]); (try simp only [List.length_nil, sizeLine_eq, Nat.reduceLeDiff, Bool.false_eq_true, if_false, true_and]); (skip)
  refine ne_nilT hr hd ?_
  rcases List.eq_nil_or_concat row with e | ⟨r, u, e⟩
  · subst e
    (try dsimp only [List.isEmpty_nil]); (try simp only [Bool.not_true, Bool.false_eq_true, if_false]); (skip)
    refine hW3 _ _ ?_
    (try dsimp only [sRet, eVar, List.getElem?_cons_succ, List.getElem?_cons_zero]); (skip); (skip)
    have : (cnt : Int) = (t.size : Int) := by simp [sizes] at hc; omega
    rw [this]
    exact fin_back up (by simp only [RefIn]) k
  · rw [List.concat_eq_append] at e
    subst e
    have ne : (r ++ [u]).isEmpty = false := by cases r <;> rfl
    have zu : sizes (r ++ [u]) = sizes r + u.size := by rw [sizes_app]; simp [sizes]
    have u1 := u.size1
    rw [ne]
    (try dsimp only); (try simp only [Bool.not_false, if_true]); (skip)
    rw [decide_eq_true (by omega)]
    (skip); (try simp only [if_true]); (skip)
    unfold r__law_many_L1
    refine seq_gen fun W4 hW4 => ?_
    (try dsimp only [sAsg, eBm, eVar, List.getElem?_cons_succ, List.getElem?_cons_zero, asg, List.set_cons_succ, List.set_cons_zero, mPop, eNil]); (skip); (skip)
    have hl : ((r ++ [u]).map Tr.d)[((r ++ [u]).map Tr.d).length - 1]? = some u.d := by simp
    simp only [isLst, hr]
    rw [hl]
    refine ⟨⟨_, rfl⟩, hW4 _ _ ?_⟩
    have edl : ((r ++ [u]).map Tr.d).dropLast = r.map Tr.d := by simp
    rw [edl]
    have up2 : ∀ a o, G a = some o → gput G' p (.lst (r.map Tr.d)) a = some o := fun a o e => by rw [gput_ne (fun z => by rw [z, hp] at e; cases e)]; exact up a o e
    refine seq_gen fun W5 hW5 => ?_
    (try dsimp only [sAsg, eOp, eVar, List.getElem?_cons_succ, List.getElem?_cons_zero, asg, List.set_cons_succ, List.set_cons_zero, eC]); (skip); (skip)
    refine add_ii (hW5 _ _ ?_)
    have ec : (cnt : Int) + 1 = ((cnt + 1 : Nat) : Int) := by omega
    rw [ec]
    (try dsimp only [sIf, eT, eOp, eVar, List.getElem?_cons_succ, List.getElem?_cons_zero, sAsg, asg, List.set_cons_succ, List.set_cons_zero, eC, sNext]); (skip); (skip)
    have hdr : ∀ v ∈ r, v.dep ≤ 20 := fun v hv => hd v (List.mem_append_left _ hv)
    have du := hd u (by simp)
    cases u with
    | pr pp =>
      refine Tr.ix0 (eq_ss (asc_of _) (asc_of _) ?_)
      rw [decide_eq_false (show ¬ ((Tr.pr pp).tag = Str.ofString "split") from (by decide +kernel : ¬ (Str.ofString "prices" = Str.ofString "split")))]
      (try dsimp only); (try simp only [Bool.false_eq_true, if_false]); (skip)
      exact hW' _ _ _ (by omega) ⟨r, p, cnt + 1, _, rfl, gput_same, hp, by simp only [Tr.size] at zu; omega, rfl, hdr, up2⟩
    | cr mm =>
      refine Tr.ix0 (eq_ss (asc_of _) (asc_of _) ?_)
      rw [decide_eq_false (show ¬ ((Tr.cr mm).tag = Str.ofString "split") from (by decide +kernel : ¬ (Str.ofString "crowd" = Str.ofString "split")))]
      (try dsimp only); (try simp only [Bool.false_eq_true, if_false]); (skip)
      exact hW' _ _ _ (by omega) ⟨r, p, cnt + 1, _, rfl, gput_same, hp, by simp only [Tr.size] at zu; omega, rfl, hdr, up2⟩
    | sp i a b =>
      refine Tr.ix0 (eq_ss (asc_of _) (asc_of _) ?_)
      rw [decide_eq_true (show (Tr.sp i a b).tag = Str.ofString "split" from rfl)]
      have zab : (Tr.sp i a b).size = a.size + b.size + 1 := rfl
      have rlen := sizes_len r
      (try dsimp only [Tr.d]); (try simp only [if_true]); (skip)
      refine ixt_0 (d := .lst [a.d, b.d]) rfl ?_
      simp only [oAddO, lkL, gput_same]
      refine ⟨(fun ns e => nomatch e), (fun ns e => nomatch e), by simp; omega, fun q hq => ?_⟩
      have qp : q ≠ p := fun z => by rw [z, gput_same] at hq; cases hq
      have hqG : G q = none := by
        cases e : G q with
        | none => rfl
        | some o => rw [up2 q o e] at hq; cases hq
      refine hW' (sizes (r ++ [a, b])) _ _ ?_ ⟨r ++ [a, b], q, cnt + 1, _, rfl, by rw [gput_same]; simp, hqG, ?_, rfl, fun v hv => ?_, fun c o e => by rw [gput_ne (fun z => by rw [z, hqG] at e; cases e)]; exact up2 c o e⟩
      · rw [sizes_app, zu]; simp [sizes]; omega
      · rw [sizes_app]; simp [sizes] at hc zu ⊢; omega
      · rcases List.mem_append.mp hv with q | q
        · exact hdr v q
        · have : (Tr.sp i a b).dep = max a.dep b.dep + 1 := rfl
          simp only [List.mem_cons, List.not_mem_nil, or_false] at q
          rcases q with rfl | rfl <;> omega
theorem sort_same {l : List Nat} {ms : List Int} (up : l.Pairwise (· < ·)) (pm : ms.Perm (l.map fun i : Nat => (i : Int))) (um : ms.Pairwise (· ≤ ·)) : ms = l.map fun i : Nat => (i : Int) := by
  obtain ⟨l2, rfl, pl, ul⟩ := nats_of_perm pm um
  have a := srtN_eq pl ul
  have b := srtN_eq (List.Perm.refl l) (up.imp fun h => Nat.le_of_lt h)
  rw [a, ← b]
theorem filter_mem_len {N : Nat} {l : List Nat} (h : Some N l) : ((List.range N).filter fun i => decide (i ∈ l)).length = l.length := by
  have p : ((List.range N).filter fun i => decide (i ∈ l)).Perm l := by
    refine (List.perm_ext_iff_of_nodup (List.nodup_range.sublist List.filter_sublist) (h.up.imp fun h e => by omega)).mpr fun a => ?_
    rw [List.mem_filter, List.mem_range, decide_eq_true_iff]
    exact ⟨fun q => q.2, fun q => ⟨h.lt a q, q⟩⟩
  exact p.length_eq
theorem d__law_right (ds : List D) (G : Gp) (Q : DK) (h : F__law_right ds G Q) : r__law_right (fin G Q) (startD 7 ds) G := by
  obtain ⟨n, rs, nb, w, l, rfl, hr, n0, ho, M, k⟩ := h
  have rl := hr.len
  have n1 := hr.n1
  have kt : kitB "tuple" "tuple" = some true := by decide +kernel
  have kl : kitB "list" "list" = some true := by decide +kernel
  have mo := seam_ok (rs := rs) hr.n1
  have T := trF_ok (nb := nb) (be := none) (tr_start hr mo.m0 mo.m1)
  have tsz : (moT n rs nb).size + 1 ≤ 2 ^ 7 := Nat.le_trans T.size (Nat.pow_le_pow_right (by decide) (by omega))
  have tdp : (moT n rs nb).dep ≤ 7 := Nat.le_trans T.dep (by omega)
  have tpp : (moT n rs nb).pap n := T.pap
  obtain ⟨s, cs, ws, ms⟩ := M.cl
  generalize moT n rs nb = t at tsz tdp tpp cs ⊢
  refine seq_gen fun W hW => ?_
  (try dsimp only [startD, sIf, eOr, eNot, eTru, eCB, eCons, eVar, sRet, eC, sNext, eT, eOp, eNil]); (try simp only [List.map_cons, List.map_nil, List.length_cons, List.length_nil, Nat.reduceAdd, List.replicate, List.cons_append, List.nil_append, if_true]); (try dsimp only [List.getElem?_cons_succ, List.getElem?_cons_zero])
  (try dsimp only [cIsi, tyD, Option.bind_some, truD_bl]); (try simp only [kt, Bool.not_true, Bool.false_eq_true, if_false]); (skip)
  refine len_tup (ne_ii ?_)
  rw [decide_eq_true (by rfl)]
  (try dsimp only); (try simp only [Bool.not_true, Bool.false_eq_true, if_false]); (skip)
  refine hW _ _ ?_
  refine seq_gen fun W2 hW2 => ?_
  (try dsimp only [sIf, eOr, eNot, eTru, eCall, eCons, eOp, eVar, List.getElem?_cons_succ, List.getElem?_cons_zero, sRet, eC, sNext, eCB, eNil]); (try simp only [if_true]); (skip)
  refine ixt_0 (d := .int w) rfl (whole_any rfl ?_)
  (try dsimp only [whB, truD_bl]); (try simp only [Bool.not_true, Bool.false_eq_true, if_false]); (skip)
  refine ixt_0 (d := .lst (nD l)) rfl ?_
  (try dsimp only [cIsi, tyD, truD_bl, Option.bind_some]); (try simp only [kl, Bool.not_true, Bool.false_eq_true, if_false]); (skip)
  refine hW2 _ _ ?_
  refine seq_gen fun W3 hW3 => ?_
  (try dsimp only [sAsg, eOp, eVar, List.getElem?_cons_succ, List.getElem?_cons_zero, asg, List.set_cons_succ, List.set_cons_zero, eC]); (skip); (skip)
  refine ixt_0 (d := .lst (nD l)) rfl (hW3 _ _ ?_)
  refine seq_gen fun W4 hW4 => ?_
  (try dsimp only [sIf, eOr, eT, eOp, eLc, iL, eVar, List.getElem?_cons_succ, List.getElem?_cons_zero, wipeD, List.set_cons_succ, List.set_cons_zero, sRet, eC, sNext, eCB, eCons, eNil, eLst, stays, lkL_lst]); (try simp only [List.length_nil, sizeLine_eq, Nat.reduceLeDiff, if_true, true_and]); (skip)
  refine compW_map (g := fun i : Nat => D.int (i : Int)) (p := fun _ => false) (f := fun i : Nat => D.int (i : Int)) trivial l [] (fun i hi => ⟨_, rfl, fun R r => ?_, fun h => nomatch h⟩) ?_
  · (try dsimp only [List.set_cons_succ, List.set_cons_zero, eNot, eTru, eCall, eCons, eVar, List.getElem?_cons_succ, List.getElem?_cons_zero, eCB, eOp, eNil, eC]); (skip); (skip)
    refine ixg_1 (len_lst ?_)
    rw [List.length_map]
    refine ⟨(i : Int), _, rfl, ?_⟩
    rw [decide_eq_true (by have := M.some.lt i hi; omega)]
    (try dsimp only [truD_bl]); (try simp only [Bool.not_true]); (skip)
    exact r
  have ef : l.filter (fun _ => false) = [] := by simp
  rw [ef]
  (skip); (try simp only [List.map_nil, List.append_nil]); (skip)
  refine ne_nilI (l := []) ?_
  rw [decide_eq_true rfl]
  (try dsimp only); (try simp only [Bool.not_true, Bool.false_eq_true, if_false]); (skip)
  have e2 : nD l = (l.map fun i : Nat => (i : Int)).map D.int := by unfold nD; rw [List.map_map]; rfl
  (try dsimp only [cSortedI, lkL_lst, Option.bind_some]); (skip); (skip)
  have ei : intsD (nD l) = some (l.map fun i : Nat => (i : Int)) := by rw [e2, intsD_map]
  simp only [ei]
  intro ms2 pm um
  rw [sort_same M.some.up pm um, ← e2]
  refine ne_lists (b := l) ?_
  rw [decide_eq_true rfl]
  (try dsimp only); (try simp only [Bool.not_true, Bool.false_eq_true, if_false]); (skip)
  refine hW4 _ _ ?_
  refine seq_gen fun W5 hW5 => ?_
  (try dsimp only [sIf, eT, eOp, eCB, eCons, eLc, iR1, eVar, List.getElem?_cons_zero, sRet, eC, sNext, List.getElem?_cons_succ, eNil]); (skip); (skip)
  refine ixg_1 (len_lst ?_)
  rw [List.length_map]
  (try dsimp only); (skip); (skip)
  refine ⟨by omega, by omega, ?_⟩
  rw [Int.toNat_natCast, rng_nat0]
  refine compW_map (p := fun i => decide (i ∈ l)) (f := fun i : Nat => D.int (i : Int)) trivial (List.range rs.length) [] (fun i hi => ⟨_, rfl, fun R r => ?_, fun _ R r => ?_⟩) ?_
  · (try dsimp only [wipeD, List.set_cons_succ, List.set_cons_zero, eT, eOp, eVar, List.getElem?_cons_succ, List.getElem?_cons_zero]); (skip); (skip)
    exact in_natsL r
  · (try dsimp only [wipeD, List.set_cons_succ, List.set_cons_zero, eVar, List.getElem?_cons_succ, List.getElem?_cons_zero]); (skip); (skip)
    exact r
  rw [List.nil_append]
  refine len_lst ?_
  refine len_lst (ne_ii ?_)
  have el : ((((List.range rs.length).filter fun i => decide (i ∈ l)).map fun i : Nat => D.int (i : Int)).length : Int) = ((nD l).length : Int) := by
    rw [List.length_map, filter_mem_len M.some]
    simp [nD]
  rw [decide_eq_true el]
  (try dsimp only); (try simp only [Bool.not_true, Bool.false_eq_true, if_false]); (skip)
  refine hW5 _ _ ?_
  refine seq_gen fun W6 hW6 => ?_
  (try dsimp only [sIf, eNot, eTru, eCall, eCons, eVar, List.getElem?_cons_zero, sRet, eC, sNext, List.getElem?_cons_succ, eNil]); (skip); (skip)
  refine lightL_ok hr (fun i hi => M.some.lt i hi) fun c hc => ?_
  rw [hc.mpr M.load]
  (try dsimp only [truD_bl]); (try simp only [Bool.not_true, Bool.false_eq_true, if_false]); (skip)
  refine hW6 _ _ ?_
  refine seq_gen fun W7 hW7 => ?_
  (try dsimp only [sAsg, eCall, eCons, eVar, List.getElem?_cons_zero, asg, List.set_cons_succ, List.set_cons_zero, List.getElem?_cons_succ, eOp, eTup, eLst, eNil, eC]); (try simp only [List.length_nil, sizeLine_eq, Nat.reduceLeDiff, List.length_cons, Nat.reduceAdd, true_and]); (skip)
  refine ixt_0 (d := t.d) rfl ?_
  refine ⟨n, rs, nb, t, [], [], 30, s, rfl, hr, tpp, (show t.dep ≤ 30 by omega), by omega, (fun i hi => nomatch hi), by simp; omega, by simp; omega, by omega, cs, hW7 _ _ ?_⟩
  refine seq_gen fun W8 hW8 => ?_
  (try dsimp only [oGt, sIf, eOr, eT, eOp, eVar, List.getElem?_cons_succ, List.getElem?_cons_zero, sRet, eC, sNext, eCall, eCons, eCB, eNil, oI0, oIsN]); (try simp only [Bool.false_eq_true, if_true, if_false]); (skip)
  refine ixt_0 (d := t.d) rfl ?_
  refine ⟨t, rfl, by omega, by omega, ?_⟩
  (try dsimp only); (skip); (skip)
  rw [decide_eq_false (by omega)]
  (try dsimp only [iD, cMax, lkL_lst, Option.bind_some]); (try simp only [Bool.false_eq_true, intsD_map, if_false]); (skip)
  refine ⟨List.length_pos_iff.mpr (fun e => by rw [e] at ws; cases ws), fun v hv hm => ne_ii ?_⟩
  have ev : v = w := by
    have a := ms v hv
    have b := hm w ws
    omega
  rw [decide_eq_true ev]
  (try dsimp only); (try simp only [Bool.not_true, Bool.false_eq_true, if_false]); (skip)
  refine hW8 _ _ ?_
  (try dsimp only [sRet, eAndT, eOp, eVar, List.getElem?_cons_succ, List.getElem?_cons_zero, eCB, eCons, eNil, eC]); (skip); (skip)
  refine ixt_0 (d := .int w) rfl (eq_ii ?_)
  rw [decide_eq_true rfl]
  (try dsimp only [truD_bl, eLc, iL, eVar, List.getElem?_cons_succ, List.getElem?_cons_zero, wipeD, List.set_cons_succ, List.set_cons_zero, stays, lkL_lst]); (try simp only [if_true]); (skip)
  refine compW_all (g := fun k : Nat => D.int (k : Int)) (f := fun k : Nat => D.int (st rs k).w) trivial l [] (fun j hj => ⟨_, rfl, fun R r => ?_⟩) ?_
  · (try dsimp only [List.set_cons_succ, List.set_cons_zero, eOp, eVar, List.getElem?_cons_zero, eC, List.getElem?_cons_succ]); (skip); (skip)
    exact ixg_1 (ix_at (bk_at (M.some.lt j hj)) (ixt_0 (d := .int (st rs j).w) rfl r))
  have e4 : l.map (fun k : Nat => D.int (st rs k).w) = (l.map fun k => (st rs k).w).map D.int := by rw [List.map_map]; rfl
  rw [List.nil_append, e4]
  (try dsimp only [cSum, lkL_lst, Option.bind_some]); (try simp only [intsD_map]); (skip)
  have e5 : (l.map fun k => (st rs k).w).sum = w := M.wo.symm
  rw [e5]
  refine eq_ii ?_
  rw [decide_eq_true rfl]
  exact fin_id k
theorem ix_txt {z : Str} {j c : Nat} {G : Gp} {Q : DK} (h : z.cps.toList[j]? = some c) (hl : z.length ≤ 16777216) (q : Q (.str ⟨#[c]⟩) G) : oIx (.str z) (.int (j : Int)) G Q := by
  have e := atI_nat (xs := z.cps.toList) h
  simp only [oIx]
  simp only [lkQ, lkL, e]
  exact ⟨hl, q⟩
theorem cat_tx {a b : Str} {G : Gp} {Q : DK} (h : a.length + b.length ≤ 1000) (q : Q (.str (a ++ b)) G) : oAdd (.str a) (.str b) G Q := by
  simp only [oAdd]
  exact ⟨by rw [sizeLine_eq]; omega, q⟩
def zN (j : Nat) : Str := Str.ofString "zzz" ++ (⟨#[116 + j]⟩ : Str)
def yN (j : Nat) : Str := Str.ofString "y" ++ (⟨#[97 + j]⟩ : Str)
theorem tu_at : ∀ j : Nat, j < 7 → (Str.ofString "tuvwxyz").cps.toList[j]? = some (116 + j) := by decide +kernel
theorem ab_at : ∀ j : Nat, j < 2 → (Str.ofString "ab").cps.toList[j]? = some (97 + j) := by decide +kernel
theorem zN_ok (j : Nat) (h : j < 7) : NameOk (zN j) := by
  have l : (zN j).length = 4 := by unfold zN; rw [str_app_len]; rfl
  refine ⟨by omega, by omega, fun c hc => ?_⟩
  unfold zN at hc
  rw [str_app_cps] at hc
  rcases List.mem_append.mp hc with q | q
  · have : ∀ c ∈ (Str.ofString "zzz").cps.toList, 97 ≤ c ∧ c ≤ 122 := by decide +kernel
    exact this c q
  · simp at q; omega
theorem yN_ok (j : Nat) (h : j < 2) : NameOk (yN j) := by
  have l : (yN j).length = 2 := by unfold yN; rw [str_app_len]; rfl
  refine ⟨by omega, by omega, fun c hc => ?_⟩
  unfold yN at hc
  rw [str_app_cps] at hc
  rcases List.mem_append.mp hc with q | q
  · have : ∀ c ∈ (Str.ofString "y").cps.toList, 97 ≤ c ∧ c ≤ 122 := by decide +kernel
    exact this c q
  · simp at q; omega
theorem zyN_nd : ((List.range 7).map zN ++ (List.range 2).map yN).Nodup := by decide +kernel
theorem range_sub {a b : Nat} (h : a ≤ b) : (List.range a).Sublist (List.range b) := by
  obtain ⟨c, rfl⟩ : ∃ c, b = a + c := ⟨b - a, by omega⟩
  rw [List.range_add]
  exact List.sublist_append_left _ _
theorem round_nd {a b : Nat} (h : a ≤ 7) (k : b ≤ 2) : ((List.range a).map zN ++ (List.range b).map yN).Nodup :=
  zyN_nd.sublist (((range_sub h).map _).append ((range_sub k).map _))
theorem d__law_round (ds : List D) (G : Gp) (Q : DK) (h : F__law_round ds G Q) : r__law_round (fin G Q) (startD 6 ds) G := by
  obtain ⟨a, many, x, y, z, rfl, hG, ok, h0, h7, k⟩ := h
  refine seq_gen fun W hW => ?_
  (try dsimp only [startD, sAsg, eOp, eC, eCall, eCons, eVar, asg, eNil]); (try simp only [List.map_cons, List.map_nil, List.length_cons, List.length_nil, Nat.reduceAdd, List.replicate, List.cons_append, List.nil_append]); (try dsimp only [List.getElem?_cons_zero, List.set_cons_succ, List.set_cons_zero])
  refine take_ok hG ok (wd_of (by decide) (by decide)) fun n0 x y z ok n00 n01 => add_ii (hW _ _ ?_)
  obtain ⟨n, hn⟩ : ∃ n, n = 1 + n0 := ⟨_, rfl⟩
  rw [← hn]
  refine seq_gen fun W2 hW2 => ?_
  (try dsimp only [sAsg, eLstO, eNil, asg, List.set_cons_succ, List.set_cons_zero]); (try simp only [List.length_nil, sizeLine_eq, Nat.reduceLeDiff, true_and]); (skip)
  intro q hq
  have hqa : q ≠ a := fun e => by rw [e, gput_same] at hq; cases hq
  have hqG : G q = none := by rw [gput_ne hqa] at hq; exact hq
  have swp : ∀ (x y z x' y' z' : Int) (o : GO), gput (gput (gput G a (stO x y z)) q o) a (stO x' y' z') = gput (gput G a (stO x' y' z')) q o := fun x y z x' y' z' o => gput_swap hqa
  have hat : ∀ (x y z : Int) (o : GO), gput (gput G a (stO x y z)) q o a = some (stO x y z) := fun x y z o => by rw [gput_ne hqa.symm, gput_same]
  refine hW2 _ _ ?_
  refine seq_gen fun W3 hW3 => ?_
  (try dsimp only [sFor, iR1, eCons, eVar, List.getElem?_cons_succ, List.getElem?_cons_zero, eNil]); (skip); (skip)
  refine ⟨by omega, by omega, ?_⟩
  refine forW_rng (n := many.toNat) (fun j s G' => ∃ (rs : List Stretch) (x y z : Int) (o4 : Option D), Ok3 x y z ∧ (∀ s ∈ rs, RSOk n s) ∧ rs.map Stretch.name = (List.range j).map zN ∧ s = [some (.ref a), some (.int many), some (.int n), some (.ref q), o4, none] ∧ G' = gput (gput G a (stO x y z)) q (.lst (rs.map Stretch.d))) ?_ ?_ ⟨[], x, y, z, none, ok, by simp, rfl, rfl, rfl⟩
  · rintro j s G' W hj ⟨rs, x, y, z, o4, ok, hrs, hnm, rfl, rfl⟩ hW
    have hl : rs.length = j := by have := congrArg List.length hnm; simpa using this
    (try dsimp only [asg, List.set_cons_succ, List.set_cons_zero]); (skip); (skip)
    unfold r__law_round_L1
    (try dsimp only [oMod, sDrop, eBm, eVar, List.getElem?_cons_succ, List.getElem?_cons_zero, eCons, eTup, eOp, eC, eNil, eCall, oI]); (try simp only [List.length_cons, List.length_nil, Nat.reduceAdd, sizeLine_eq, Nat.reduceLeDiff, true_and]); (skip)
    refine ⟨⟨_, gput_same⟩, ?_⟩
    refine ix_txt (tu_at j (by omega)) (by decide +kernel) ?_
    refine cat_tx (by rw [str_one_len]; decide +kernel) ?_
    refine ⟨by omega, ?_⟩
    refine take_ok (hat _ _ _ _) ok (wd_of (by decide) (by decide)) fun w x y z ok w0 w1 => ?_
    rw [swp]
    refine app_ref gput_same (by simp; omega) ?_
    rw [gput_gput]
    have m0 := Int.emod_nonneg (j : Int) (show n ≠ 0 by omega)
    have m1 := Int.emod_lt_of_pos (j : Int) (show 0 < n by omega)
    refine hW _ _ ⟨rs ++ [⟨zN j, (j : Int) % n, n, w⟩], x, y, z, _, ok, fun s hs => ?_, ?_, rfl, by rw [List.map_append]; rfl⟩
    · rcases List.mem_append.mp hs with t | t
      · exact hrs s t
      · rw [List.mem_singleton.mp t]
        exact ⟨zN_ok j (by omega), m0, m1, by simp only; omega, by simp only; omega, by simp only; omega, by simp only; omega⟩
    · rw [List.map_append, hnm, List.range_succ, List.map_append]; rfl
  · rintro s G' ⟨rs, x, y, z, o4, ok, hrs, hnm, rfl, rfl⟩
    have hl : rs.length = many.toNat := by have := congrArg List.length hnm; simpa using this
    refine hW3 _ _ ?_
    refine seq_gen fun W4 hW4 => ?_
    (try dsimp only [sFor, iR1, eCons, eCall, eVar, List.getElem?_cons_zero, eNil, eC]); (skip); (skip)
    refine take_ok (hat _ _ _ _) ok (wd_of (by decide) (by decide)) fun c x y z ok c0 c1 => ?_
    rw [swp]
    refine ⟨by omega, by omega, ?_⟩
    refine forW_rng (n := c.toNat) (fun j s G' => ∃ (rs : List Stretch) (x y z : Int) (o4 o5 : Option D), Ok3 x y z ∧ (∀ s ∈ rs, RSOk n s) ∧ rs.map Stretch.name = (List.range many.toNat).map zN ++ (List.range j).map yN ∧ s = [some (.ref a), some (.int many), some (.int n), some (.ref q), o4, o5] ∧ G' = gput (gput G a (stO x y z)) q (.lst (rs.map Stretch.d))) ?_ ?_ ⟨rs, x, y, z, _, none, ok, hrs, by simpa using hnm, rfl, rfl⟩
    · rintro j s G' W hj ⟨rs, x, y, z, o4, o5, ok, hrs, hnm, rfl, rfl⟩ hW
      have hl : rs.length = many.toNat + j := by have := congrArg List.length hnm; simpa using this
      (try dsimp only [asg, List.set_cons_succ, List.set_cons_zero]); (skip); (skip)
      unfold r__law_round_L2
      refine seq_gen fun W5 hW5 => ?_
      (try dsimp only [sAsg, eCall, eCons, eVar, List.getElem?_cons_zero, asg, List.set_cons_succ, List.set_cons_zero, List.getElem?_cons_succ, eNil]); (skip); (skip)
      refine take_ok (hat _ _ _ _) ok (wd_of (by omega) (by omega)) fun b x y z ok b0 b1 => hW5 _ _ ?_
      rw [swp]
      (try dsimp only [sDrop, eBm, eVar, List.getElem?_cons_succ, List.getElem?_cons_zero, eCons, eTup, eOp, eC, eNil, eCall]); (try simp only [List.length_cons, List.length_nil, Nat.reduceAdd, sizeLine_eq, Nat.reduceLeDiff, true_and]); (skip)
      refine ⟨⟨_, gput_same⟩, ?_⟩
      refine ix_txt (ab_at j (by omega)) (by decide +kernel) ?_
      refine cat_tx (by rw [str_one_len]; decide +kernel) ?_
      refine take_ok (hat _ _ _ _) ok (wd_of (by omega) (by omega)) fun e x y z ok e0 e1 => ?_
      rw [swp]
      refine add_ii ?_
      refine take_ok (hat _ _ _ _) ok (wd_of (by decide) (by decide)) fun w x y z ok w0 w1 => ?_
      rw [swp]
      refine app_ref gput_same (by simp; omega) ?_
      rw [gput_gput]
      refine hW _ _ ⟨rs ++ [⟨yN j, b, 1 + e, w⟩], x, y, z, _, _, ok, fun s hs => ?_, ?_, rfl, by rw [List.map_append]; rfl⟩
      · rcases List.mem_append.mp hs with t | t
        · exact hrs s t
        · rw [List.mem_singleton.mp t]
          exact ⟨yN_ok j (by omega), b0, b1, by simp only; omega, by simp only; omega, by simp only; omega, by simp only; omega⟩
      · rw [List.map_append, hnm, List.range_succ, List.map_append, List.append_assoc]; rfl
    · rintro s G' ⟨rs, x, y, z, o4, o5, ok, hrs, hnm, rfl, rfl⟩
      have hl : rs.length = many.toNat + c.toNat := by have := congrArg List.length hnm; simpa using this
      refine hW4 _ _ ?_
      (try dsimp only [sRet, eTup, eCons, eVar, List.getElem?_cons_succ, List.getElem?_cons_zero, eNil]); (try simp only [List.length_cons, List.length_nil, Nat.reduceAdd, sizeLine_eq, Nat.reduceLeDiff, true_and]); (skip)
      have ef : frz q (rs.map Stretch.d) (.tup [.int n, .ref q]) = ringD n rs := by simp [frz, frzs, ringD]
      refine fin_frz (G2 := gput G a (stO x y z)) (p := q) (ds := rs.map Stretch.d) ?_ ?_ ?_ gput_same (by rw [gput_ne hqa]; exact hqG) (refIns_plain (plain_book rs)) ?_ ?_
      · intro b u e
        by_cases hbq : b = q
        · subst hbq; rw [gput_ne hqa, hqG] at e; cases e
        · rw [gput_ne hbq]; exact e
      · intro b u e
        by_cases hba : b = a
        · subst hba; exact ⟨_, gput_same⟩
        · exact ⟨u, by rw [gput_ne hba]; exact e⟩
      · intro b u e
        by_cases hba : b = a
        · subst hba; rw [gput_same] at e; cases e; exact .inl (by simp [RefO, stO, RefIns, RefIn])
        · rw [gput_ne hba] at e; exact .inr e
      · rw [ef]; exact refIn_plain (by simp [ringD, plainD, plainDs]; exact plain_book rs)
      · rw [ef]
        exact k n rs x y z ok ⟨by omega, by omega, by omega, hrs, by rw [hnm]; exact round_nd (by omega) (by omega)⟩ (by omega)
theorem isE_ok6 {a dd : Addr} {x : Xd} {i : Nat} {b : Bool} {s : Sd} {G : Gp} {Q : DK} (h : s[i]? = some (some (excD a dd x))) (q : Q (.bl b) G) : eIsE a dd x i b s G Q := by
  obtain ⟨c, f⟩ := x
  cases f with
  | none =>
    have h2 : s[i]? = some (some (.cl a)) := h
    simp only [eIsE, h2]
    exact ⟨trivial, rfl, q⟩
  | some f =>
    obtain ⟨f, e⟩ := f
    have h2 : s[i]? = some (some (.exc a dd f e)) := h
    simp only [eIsE, h2]
    exact ⟨trivial, rfl, q⟩
theorem d__law_refused (ds : List D) (G : Gp) (Q : DK) (h : F__law_refused ds G Q) : r__law_refused (fin G Q) (startD 3 ds) G := by
  obtain ⟨n, rs, nb, rfl, hr, n0, ho, k⟩ := h
  refine seq_gen fun W hW => ?_
  (try dsimp only [startD, sTryAs, sDropX, eCallX, eXa, eCons, eVar, eNil]); (try simp only [List.map_cons, List.map_nil, List.length_cons, List.length_nil, Nat.reduceAdd, List.replicate, List.cons_append, List.nil_append]); (try dsimp only [List.getElem?_cons_zero, List.getElem?_cons_succ, List.set_cons_succ, List.set_cons_zero])
  refine ⟨n, rs, nb, rfl, hr, n0, fun h => by omega, fun _ => ⟨List.mem_singleton.mpr rfl, ?_⟩⟩
  rw [if_pos (show isSub "TooMany" "BenchError" = true by decide +kernel)]
  intro a dd
  have i0 : isSub (Str.ofString "TooMany") (Str.ofString "TooMany") = true := by decide +kernel
  have i1 : ((["Crowded", "NoBenches", "NoBook", "NoRing", "NoRow", "NoStretch"] : List Str).any fun c => isSub (Str.ofString "TooMany") c) = false := by decide +kernel
  have i2 : ((["NoText", "NoTree", "NoTurn", "NoUndo", "Unknown"] : List Str).any fun c => isSub (Str.ofString "TooMany") c) = false := by decide +kernel
  refine seq_gen fun W2 hW2 => ?_
  (try dsimp only [sIf, eOr, eNot, eTru, sRet, eC, sNext]); (try simp only [if_true]); (skip)
  refine isE_ok6 (by rfl) ?_
  (try dsimp only)
  rw [i0]
  (try dsimp only [truD_bl]); (try simp only [Bool.not_true, Bool.false_eq_true, if_false]); (skip)
  refine isE_ok6 (by rfl) ?_
  (try dsimp only [truD_bl]); (try simp only [Bool.not_true, Bool.false_eq_true, if_false]); (skip)
  refine hW2 _ _ ?_
  refine seq_gen fun W3 hW3 => ?_
  (try dsimp only [sIf, eTru, sRet, eC, sNext]); (skip); (skip)
  refine isE_ok6 (by rfl) ?_
  (try dsimp only)
  rw [i1]
  (try dsimp only [truD_bl]); (try simp only [Bool.false_eq_true, if_false]); (skip)
  refine hW3 _ _ ?_
  (try dsimp only [sRet, eNotT]); (skip); (skip)
  refine isE_ok6 (by rfl) ?_
  (try dsimp only)
  rw [i2]
  (try dsimp only [truD_bl]); (try simp only [Bool.not_false]); (skip)
  exact fin_id k
mutual
inductive LsR (G : Gp) : Nat → D → List Addr → Prop
  | int {k : Nat} {i : Int} : LsR G k (.int i) []
  | str {k : Nat} {x : Str} : LsR G k (.str x) []
  | tup {k : Nat} {ds : List D} {A : List Addr} : LsRs G k ds A → LsR G (k + 1) (.tup ds) A
  | ref {k : Nat} {p : Addr} {ds : List D} {A : List Addr} : G p = some (.lst ds) → LsRs G k ds A → LsR G (k + 1) (.ref p) (p :: A)
inductive LsRs (G : Gp) : Nat → List D → List Addr → Prop
  | nil {k : Nat} : LsRs G k [] []
  | cons {k : Nat} {d : D} {ds : List D} {A B : List Addr} : LsR G k d A → LsRs G k ds B → LsRs G k (d :: ds) (A ++ B)
end
mutual
theorem LsR.mono {G G' : Gp} (e : ∀ a o, G a = some o → G' a = some o) : ∀ {k : Nat} {d : D} {A : List Addr}, LsR G k d A → LsR G' k d A
  | _, _, _, .int => .int
  | _, _, _, .str => .str
  | _, _, _, .tup h => .tup (LsRs.mono e h)
  | _, _, _, .ref h t => .ref (e _ _ h) (LsRs.mono e t)
theorem LsRs.mono {G G' : Gp} (e : ∀ a o, G a = some o → G' a = some o) : ∀ {k : Nat} {ds : List D} {A : List Addr}, LsRs G k ds A → LsRs G' k ds A
  | _, _, _, .nil => .nil
  | _, _, _, .cons h t => .cons (LsR.mono e h) (LsRs.mono e t)
end
mutual
theorem LsR.up {G : Gp} : ∀ {k m : Nat} {d : D} {A : List Addr}, LsR G k d A → k ≤ m → LsR G m d A
  | _, _, _, _, .int, _ => .int
  | _, _, _, _, .str, _ => .str
  | _, 0, _, _, .tup _, h => absurd h (by omega)
  | _, m + 1, _, _, .tup t, h => .tup (LsRs.up t (by omega))
  | _, 0, _, _, .ref _ _, h => absurd h (by omega)
  | _, m + 1, _, _, .ref e t, h => .ref e (LsRs.up t (by omega))
theorem LsRs.up {G : Gp} : ∀ {k m : Nat} {ds : List D} {A : List Addr}, LsRs G k ds A → k ≤ m → LsRs G m ds A
  | _, _, _, _, .nil, _ => .nil
  | _, _, _, _, .cons a t, h => .cons (LsR.up a h) (LsRs.up t h)
end
mutual
theorem LsR.lst {G : Gp} : ∀ {k : Nat} {d : D} {A : List Addr}, LsR G k d A → ∀ a ∈ A, ∃ ds, G a = some (.lst ds)
  | _, _, _, .int, a, h => nomatch h
  | _, _, _, .str, a, h => nomatch h
  | _, _, _, .tup t, a, h => LsRs.lst t a h
  | _, _, _, .ref e t, a, h => by
    rcases List.mem_cons.mp h with rfl | q
    · exact ⟨_, e⟩
    · exact LsRs.lst t a q
theorem LsRs.lst {G : Gp} : ∀ {k : Nat} {ds : List D} {A : List Addr}, LsRs G k ds A → ∀ a ∈ A, ∃ ds, G a = some (.lst ds)
  | _, _, _, .nil, a, h => nomatch h
  | _, _, _, .cons x t, a, h => by
    rcases List.mem_append.mp h with q | q
    · exact LsR.lst x a q
    · exact LsRs.lst t a q
end
theorem LsRs.nats {G : Gp} {k : Nat} : ∀ l : List Nat, LsRs G k (nD l) []
  | [] => .nil
  | i :: l => .cons (A := []) .int (LsRs.nats l)
theorem LsRs.pap {G : Gp} {k : Nat} : ∀ pp : Paper, LsRs G (k + 1) (pp.map qD) []
  | [] => .nil
  | x :: pp => .cons (A := []) (.tup (.cons (A := []) .int (.cons (A := []) .int .nil))) (LsRs.pap pp)
theorem RTr.ls {G : Gp} : ∀ {t : Tr} {d : D} {A : List Addr}, RTr G t d A → LsR G (2 * t.dep + 1) d A
  | _, _, _, .pr (pp := pp) (p := p) h => by
    have a : LsR G 2 (.ref p) (p :: []) := .ref h (LsRs.pap pp)
    have b := LsRs.cons (A := []) (LsR.str (G := G) (k := 2) (x := Str.ofString "prices")) (.cons a .nil)
    exact .tup b
  | _, _, _, .cr => .tup (.cons (A := []) .str (.cons (A := []) .int .nil))
  | _, _, _, .sp (i := i) (a := a) (b := b) (A := A) (B := B) (p := p) h x y => by
    have k1 := x.ls.up (m := 2 * max a.dep b.dep + 1) (by omega)
    have k2 := y.ls.up (m := 2 * max a.dep b.dep + 1) (by omega)
    have c : LsR G (2 * max a.dep b.dep + 2) (.ref p) (p :: (A ++ (B ++ []))) := .ref h (.cons k1 (.cons k2 .nil))
    have b2 := LsRs.cons (A := []) (LsR.str (G := G) (k := 2 * max a.dep b.dep + 2) (x := Str.ofString "split")) (.cons (A := []) (LsR.int (i := (i : Int))) (.cons c .nil))
    have b3 := LsR.tup b2
    simp only [List.append_nil, List.nil_append] at b3
    have e : 2 * (Tr.sp i a b).dep + 1 = 2 * max a.dep b.dep + 2 + 1 := by simp only [Tr.dep]; omega
    rw [e]
    exact b3
theorem found_ls {G : Gp} {t : Tr} {d : D} {A : List Addr} {w : Int} {l : List Nat} {c : Addr} (hc : G c = some (.lst (nD l))) (h : RTr G t d A) (hd : t.dep ≤ 10) : LsR G 25 (.tup [.int w, .ref c, d]) (c :: A) := by
  have a : LsR G 24 (.ref c) (c :: []) := .ref hc (LsRs.nats l)
  have b := LsRs.cons (A := []) (LsR.int (G := G) (k := 24) (i := w)) (.cons a (.cons (h.ls.up (m := 24) (by omega)) .nil))
  have e := LsR.tup b
  simpa using e
def F__law_listsD : Nat → Sf
  | 0 => fun _ _ _ => False
  | n + 1 => fun ds G Q => ∃ d A, ds = [d] ∧ LsR G n d A ∧ A.length ≤ 1000 ∧ Q (.lst (A.map D.ref)) G
def F__law_apart : Sf := fun ds G Q => ∃ d A, ds = [d] ∧ LsR G 25 d A ∧ A.Nodup ∧ A.length ≤ 1000 ∧ (∀ a ∈ A, ∀ ds, G a = some (.lst ds) → ds.length ≤ 1000) ∧ ∀ G', (∀ a, a ∉ A → G' a = G a) → Q (.bl true) G'
def F__law_greater : Sf := fun ds G Q => ∃ a x y z, ds = [.ref a] ∧ G a = some (stO x y z) ∧ Ok3 x y z ∧ ∀ G', Q (.bl true) G'
def r__law_listsD_L1 (n : Nat) : ES :=
  (sAsg (eOp oAdd (eVar 1) (eCall (F__law_listsD n) (eCons (eVar 2) eNil))) (.nm 1))
def r__law_listsD (n : Nat) : ES :=
  (sSeq (sAsg (eLstO eNil) (.nm 1))
  (sSeq (sIf (eTru (eCB cIsi (eCons (eVar 0) (eCons (eC (.ty "list")) eNil)))) (sDrop (eBm mApp (eVar 1) (eCons (eVar 0) eNil))) sNext)
  (sSeq (sIf (eTru (eCB cIsiT (eCons (eVar 0) (eCons (eTup (eCons (eC (.ty "list")) (eCons (eC (.ty "tuple")) eNil))) eNil)))) (sFor (iA (eVar 0)) (.nm 2) (r__law_listsD_L1 n)) sNext)
  (sRet (eVar 1)))))
def r__law_apart_L1 : ES :=
  (sDrop (eBm mApp (eVar 3) (eCons (eC .non) eNil)))
def r__law_apart : ES :=
  (sSeq (sAsg (eCall (F__law_listsD 26) (eCons (eVar 0) eNil)) (.nm 1))
  (sSeq (sAsg (eLc (iL (eVar 1)) (.nm 3) eYes (eCB cLen (eCons (eVar 3) eNil)) [3]) (.nm 2))
  (sSeq (sFor (iL (eVar 1)) (.nm 3) r__law_apart_L1)
  (sRet (eOp oEq (eLc (iL (eVar 1)) (.nm 3) eYes (eCB cLen (eCons (eVar 3) eNil)) [3]) (eLc (iL (eVar 2)) (.nm 4) eYes (eOp oAdd (eVar 4) (eC (.int 1))) [4]))))))
def r__law_greater : ES :=
  (sSeq (sAsg (eCall F__law_ring (eCons (eVar 0) (eCons (eOp oIx (eLst (eCons (eC (.int 3)) (eCons (eC (.int 3)) (eCons (eC (.int 3)) (eCons (eC (.int 14)) eNil))))) (eCall F__law_take (eCons (eVar 0) (eCons (eC (.int 4)) eNil)))) eNil))) (.nm 1))
  (sSeq (sAsg (eCall F__law_take (eCons (eVar 0) (eCons (eC (.int 4)) eNil))) (.nm 2))
  (sSeq (sAsg (eListRange (eCons (eCB cLen (eCons (eOp oIx (eVar 1) (eC (.int 1))) eNil)) eNil)) (.nm 3))
  (sSeq (sIf (eT (eOp oGt (eCB cMin (eCons (eLc (iR1 (eCons (eOp oIx (eVar 1) (eC (.int 0))) eNil)) (.nm 5) eYes (eCall F__law_load_in (eCons (eVar 1) (eCons (eVar 3) (eCons (eVar 5) eNil)))) [5]) eNil)) (eC (.int 6)))) (sRet (eCall F__law_refused (eCons (eVar 1) (eCons (eVar 2) eNil)))) sNext)
  (sSeq (sAsg (eCall (nev F_ring_mostO) (eCons (eTup (eCons (eOp oIx (eVar 1) (eC (.int 0))) (eCons (eCB cList (eCons (eOp oIx (eVar 1) (eC (.int 1))) eNil)) eNil))) (eCons (eVar 2) eNil))) (.nm 4))
  (sRet (eAndT (eCallF F__law_right (eCons (eVar 1) (eCons (eVar 2) (eCons (eVar 4) (eCons (eOp oIx (eVar 4) (eC (.int 0))) eNil))))) (eCall F__law_apart (eCons (eVar 4) eNil)))))))))
def r_law_L1 : ES :=
  (sSeq (sAsg (eCall F__law_begun (eCons (eVar 0) (eCons (eVar 1) eNil))) (.nm 2))
  (sSeq (sAsg (eCall F__law_take (eCons (eVar 2) (eCons (eC (.int 4)) eNil))) (.nm 3))
  (sSeq (sAsg (eCall F__law_round (eCons (eVar 2) (eCons (eOp oIx (eLst (eCons (eC (.int 1)) (eCons (eC (.int 1)) (eCons (eC (.int 6)) (eCons (eC (.int 7)) eNil))))) (eVar 3)) eNil))) (.nm 4))
  (sSeq (sIf (eT (eOp oLt (eVar 3) (eC (.int 2)))) (sAsg (eCall F__law_ring (eCons (eVar 2) (eCons (eC (.int 7)) eNil))) (.nm 4)) sNext)
  (sSeq (sAsg (eCall F__law_take (eCons (eVar 2) (eCons (eOp oIx (eLst (eCons (eC (.int 4)) (eCons (eC (.int 25)) eNil))) (eOp oDivW (eCall F__law_take (eCons (eVar 2) (eCons (eC (.int 4)) eNil))) (eC (.int 3)))) eNil))) (.nm 5))
  (sSeq (sAsg (eListRange (eCons (eCB cLen (eCons (eOp oIx (eVar 4) (eC (.int 1))) eNil)) eNil)) (.nm 6))
  (sSeq (sAsg (eTup (eCons (eOp oIx (eVar 4) (eC (.int 0))) (eCons (eCB cList (eCons (eOp oIx (eVar 4) (eC (.int 1))) eNil)) eNil))) (.nm 7))
  (sIf (eT (eOp oGt (eCB cMin (eCons (eLc (iR1 (eCons (eOp oIx (eVar 4) (eC (.int 0))) eNil)) (.nm 12) eYes (eCall F__law_load_in (eCons (eVar 4) (eCons (eVar 6) (eCons (eVar 12) eNil)))) [12]) eNil)) (eC (.int 6)))) (sIf (eNot (eTru (eCall F__law_refused (eCons (eVar 7) (eCons (eVar 5) eNil))))) (sRet (eC (.bl false))) sNext) (sSeq (sAsg (eCall F__law_ring_choices (eCons (eVar 4) (eCons (eVar 5) eNil))) (.nm 8))
  (sSeq (sAsg (eCB cMax (eCons (eLc (iL (eVar 8)) (.nm 13) eYes (eCB cSum (eCons (eLc (iL (eVar 13)) (.nm 14) eYes (eOp oIx (eOp oIx (eOp oIx (eVar 4) (eC (.int 1))) (eVar 14)) (eC (.int 3))) [14]) eNil)) [13]) eNil)) (.nm 9))
  (sSeq (sAsg (eCall (nev F_ring_mostO) (eCons (eVar 7) (eCons (eVar 5) eNil))) (.nm 10))
  (sSeq (sIf (eOr (eNot (eTru (eCallF F__law_right (eCons (eVar 4) (eCons (eVar 5) (eCons (eVar 10) (eCons (eVar 9) eNil))))))) (eT (eOp oNe (eVar 7) (eVar 4)))) (sRet (eC (.bl false))) sNext)
  (sSeq (sAsg (eCB (cFr cStrX) (eCons (eVar 10) eNil)) (.nm 11))
  (sIf (eOr (eNot (eTru (eCall F__law_apart (eCons (eVar 10) eNil)))) (eT (eOp oNe (eCB (cFr cStrX) (eCons (eCall (nev F_ring_mostO) (eCons (eVar 7) (eCons (eVar 5) eNil))) eNil)) (eVar 11)))) (sRet (eC (.bl false))) sNext))))))))))))))
def r_law : ES :=
  (sSeq (sFor (iR1 (eCons (eCB cMax2 (eCons (eC (.int 1)) (eCons (eCB cMin2 (eCons (eCB cLen (eCons (eVar 0) eNil)) (eCons (eC (.int 2)) eNil))) eNil))) eNil)) (.nm 1) r_law_L1)
  (sRet (eCall F__law_greater (eCons (eCall F__law_begun (eCons (eVar 0) (eCons (eC (.int 3)) eNil))) eNil))))
theorem refIns_refs {G : Gp} : ∀ {A : List Addr}, (∀ a ∈ A, ∃ ds, G a = some (.lst ds)) → RefIns G (A.map D.ref)
  | [], _ => by simp [RefIns]
  | a :: A, h => by
    obtain ⟨ds, e⟩ := h a List.mem_cons_self
    simp only [List.map_cons, RefIns, RefIn]
    exact ⟨⟨_, e⟩, refIns_refs fun b hb => h b (List.mem_cons_of_mem _ hb)⟩
theorem d__law_listsD (n : Nat) (ds : List D) (G : Gp) (Q : DK) (h : F__law_listsD (n + 1) ds G Q) : r__law_listsD n (fin G Q) (startD 3 ds) G := by
  obtain ⟨d, A, rfl, hd, hA, k⟩ := h
  have k1 : kitB "int" "list" = some false := by decide +kernel
  have k2 : kitB "int" "tuple" = some false := by decide +kernel
  have k3 : kitB "str" "list" = some false := by decide +kernel
  have k4 : kitB "str" "tuple" = some false := by decide +kernel
  have k5 : kitB "tuple" "list" = some false := by decide +kernel
  have k6 : kitB "tuple" "tuple" = some true := by decide +kernel
  have k7 : kitB "list" "list" = some true := by decide +kernel
  have k8 : kitB "list" "tuple" = some false := by decide +kernel
  have lst := hd.lst
  refine seq_gen fun W hW => ?_
  (try dsimp only [startD, sAsg, eLstO, eNil, asg]); (try simp only [List.length_nil, sizeLine_eq, Nat.reduceLeDiff, List.map_cons, List.map_nil, List.length_cons, Nat.reduceAdd, List.replicate, List.cons_append, List.nil_append, true_and]); (try dsimp only [List.set_cons_succ, List.set_cons_zero])
  intro q hq
  have up : ∀ ds a o, G a = some o → gput G q (.lst ds) a = some o := fun ds a o e => by rw [gput_ne (fun z => by rw [z, hq] at e; cases e)]; exact e
  refine hW _ _ ?_
  -- the walk over the parts
  have walk : ∀ (n' : Nat) (es : List D) (L0 B : List Addr) (W3 : Sd → Gp → Prop) (Kp : Gp → Prop), n = n' + 1 → LsRs G n' es B → L0 ++ B = A → (∀ ds, Kp (gput G q (.lst ds))) → (∀ o1 o2, (o1 = .ref q ∧ L0 = A ∨ o1 = .lst (A.map D.ref)) → W3 [some d, some o1, o2] (gput G q (.lst (L0.map D.ref)))) →
      forW (.nm 2) (r__law_listsD_L1 n) Kp { fin G Q with nx := W3 } es [some d, some (.ref q), none] (gput G q (.lst (L0.map D.ref))) := by
    intro n' es L0 B W3 Kp hn hes hB hK hW3
    subst hn
    refine forW_self (fun r s G' => ∃ (L B : List Addr) (o1 : D) (o2 : Option D), s = [some d, some o1, o2] ∧ G' = gput G q (.lst (L0.map D.ref)) ∧ (o1 = .ref q ∧ L = L0 ∨ o1 = .lst (L.map D.ref)) ∧ LsRs G n' r B ∧ L ++ B = A) (fun _ _ _ ⟨L, B, o1, o2, e1, e2, _⟩ => by rw [e2]; exact hK _) ?_ ?_ es _ _ ⟨L0, B, _, _, rfl, rfl, .inl ⟨rfl, rfl⟩, hes, hB⟩
    · rintro x r s G' W ⟨L, B, o1, o2, rfl, rfl, ho, hr, hB⟩ hW
      cases hr with
      | @cons _ _ _ A1 B1 h1 h2 =>
        have hlen : L.length + (A1.length + B1.length) ≤ 1000 := by
          have := congrArg List.length hB
          simp at this
          omega
        unfold r__law_listsD_L1
        (try dsimp only [asg, List.set_cons_succ, List.set_cons_zero, sAsg, eOp, eVar, eCall, eCons, eNil, List.getElem?_cons_succ, List.getElem?_cons_zero]); (skip); (skip)
        refine ⟨x, A1, rfl, h1.mono (up _), by omega, ?_⟩
        have el : lkL (gput G q (.lst (L0.map D.ref))) o1 = some (L.map D.ref) := by
          rcases ho with ⟨rfl, rfl⟩ | rfl
          · simp only [lkL, gput_same]
          · rfl
        have ne : ∀ ns, o1 ≠ .scr ns := by
          rcases ho with ⟨rfl, _⟩ | rfl <;> intro ns e <;> cases e
        simp only [oAdd, el, lkL_lst]
        have fin : W [some d, some (.lst (L.map D.ref ++ A1.map D.ref)), some x] (gput G q (.lst (L0.map D.ref))) :=
          hW _ _ ⟨L ++ A1, B1, _, _, rfl, rfl, .inr (by rw [List.map_append]), h2, by rw [List.append_assoc]; exact hB⟩
        rcases ho with ⟨rfl, rfl⟩ | rfl <;> (simp only [List.length_map, sizeLine_eq]; first | exact ⟨by omega, fin⟩ | exact fin)
    · rintro s G' ⟨L, B, o1, o2, rfl, rfl, ho, hr, hB⟩
      cases hr
      rw [List.append_nil] at hB
      subst hB
      exact hW3 _ _ (ho.imp (fun h => ⟨h.1, h.2.symm⟩) id)
  have ret : ∀ (o1 : D) (o2 : Option D) (L : List Addr), (o1 = .ref q ∧ L = A ∨ o1 = .lst (A.map D.ref)) → r__law_listsD n (fin G Q) [some d] G → True := fun _ _ _ _ _ => trivial
  have out : ∀ (o1 : D) (L : List Addr), (o1 = .ref q ∧ L = A ∨ o1 = .lst (A.map D.ref)) → (fin G Q).rt o1 (gput G q (.lst (L.map D.ref))) := by
    rintro o1 L (⟨rfl, rfl⟩ | rfl)
    · exact fin_lst (up _) gput_same hq (refIns_refs lst) k
    · exact fin_back (up _) (by simp only [RefIn]; exact refIns_refs lst) k
  refine seq_gen fun W2 hW2 => ?_
  cases hd with
  | int =>
    (try dsimp only [sIf, eTru, eCB, eCons, eVar, List.getElem?_cons_zero, sDrop, sNext, cIsi, tyD, truD_bl, eC, eNil, Option.bind_some]); (try simp only [k1, Bool.false_eq_true, if_false]); (skip)
    refine hW2 _ _ ?_
    refine seq_gen fun W3 hW3 => ?_
    (try dsimp only [sIf, eTru, eCB, eCons, eVar, List.getElem?_cons_zero, sNext, cIsiT, tyD, truD_bl, eTup, eC, eNil]); (try simp only [List.length_cons, List.length_nil, Nat.reduceAdd, sizeLine_eq, Nat.reduceLeDiff, k1, k2, Bool.or_false, Bool.false_eq_true, if_false, true_and]); (skip)
    refine hW3 _ _ ?_
    (try dsimp only [sRet, eVar, List.getElem?_cons_succ, List.getElem?_cons_zero]); (skip); (skip)
    exact out _ [] (.inl ⟨rfl, rfl⟩)
  | str =>
    (try dsimp only [sIf, eTru, eCB, eCons, eVar, List.getElem?_cons_zero, sDrop, sNext, cIsi, tyD, truD_bl, eC, eNil, Option.bind_some]); (try simp only [k3, Bool.false_eq_true, if_false]); (skip)
    refine hW2 _ _ ?_
    refine seq_gen fun W3 hW3 => ?_
    (try dsimp only [sIf, eTru, eCB, eCons, eVar, List.getElem?_cons_zero, sNext, cIsiT, tyD, truD_bl, eTup, eC, eNil]); (try simp only [List.length_cons, List.length_nil, Nat.reduceAdd, sizeLine_eq, Nat.reduceLeDiff, k3, k4, Bool.or_false, Bool.false_eq_true, if_false, true_and]); (skip)
    refine hW3 _ _ ?_
    (try dsimp only [sRet, eVar, List.getElem?_cons_succ, List.getElem?_cons_zero]); (skip); (skip)
    exact out _ [] (.inl ⟨rfl, rfl⟩)
  | @tup n' es A t =>
    (try dsimp only [sIf, eTru, eCB, eCons, eVar, List.getElem?_cons_zero, sDrop, sNext, cIsi, tyD, truD_bl, eC, eNil, Option.bind_some]); (try simp only [k5, Bool.false_eq_true, if_false]); (skip)
    refine hW2 _ _ ?_
    refine seq_gen fun W3 hW3 => ?_
    (try dsimp only [sIf, eTru, eCB, eCons, eVar, List.getElem?_cons_zero, sNext, cIsiT, tyD, truD_bl, eTup, eC, eNil]); (try simp only [List.length_cons, List.length_nil, Nat.reduceAdd, sizeLine_eq, Nat.reduceLeDiff, k5, k6, Bool.or_true, if_true, true_and]); (skip)
    (try dsimp only [sFor, iA, eVar, List.getElem?_cons_zero]); (skip); (skip)
    refine walk n' es [] A W3 _ rfl t rfl (fun _ => trivial) fun o1 o2 ho => hW3 _ _ ?_
    (try dsimp only [sRet, eVar, List.getElem?_cons_succ, List.getElem?_cons_zero]); (skip); (skip)
    exact out _ [] (by
      rcases ho with ⟨a, b⟩ | a
      · exact .inl ⟨a, b⟩
      · exact .inr a)
  | @ref n' p es A e t =>
    have pq : p ≠ q := fun z => by rw [z, hq] at e; cases e
    have ep : ∀ ds, gput G q (.lst ds) p = some (.lst es) := fun ds => by rw [gput_ne pq]; exact e
    (try dsimp only [sIf, eTru, eCB, eCons, eVar, List.getElem?_cons_zero, sDrop, eBm, List.getElem?_cons_succ, eNil, sNext, cIsi, tyD, truD_bl, eC]); (try simp only [ep, Option.bind_some, k7, if_true]); (skip)
    refine ⟨⟨_, gput_same⟩, ?_⟩
    refine app_ref gput_same (by simp) ?_
    rw [gput_gput]
    refine hW2 _ _ ?_
    refine seq_gen fun W3 hW3 => ?_
    (try dsimp only [sIf, eTru, eCB, eCons, eVar, List.getElem?_cons_zero, sNext, cIsiT, tyD, truD_bl, eTup, eC, eNil]); (try simp only [List.length_cons, List.length_nil, Nat.reduceAdd, sizeLine_eq, Nat.reduceLeDiff, ep, k7, k8, Bool.or_false, if_true, true_and]); (skip)
    (try dsimp only [sFor, iA, eVar, List.getElem?_cons_zero, lkL]); (try simp only [ep]); (skip)
    refine walk n' es [p] A W3 _ rfl t rfl (fun ds => by simp only [stays, ep]) fun o1 o2 ho => hW3 _ _ ?_
    (try dsimp only [sRet, eVar, List.getElem?_cons_succ, List.getElem?_cons_zero]); (skip); (skip)
    exact out _ [p] ho
def lenG (G : Gp) (a : Addr) : Nat := match G a with
  | some (.lst ds) => ds.length
  | _ => 0
def apG (G : Gp) (S : List Addr) : Gp := fun a => if a ∈ S then (match G a with
  | some (.lst ds) => some (.lst (ds ++ [.non]))
  | o => o) else G a
theorem len_at {G : Gp} {a : Addr} {ds : List D} (h : G a = some (.lst ds)) : lenG G a = ds.length := by unfold lenG; rw [h]
theorem apG_in {G : Gp} {S : List Addr} {a : Addr} {ds : List D} (h : G a = some (.lst ds)) (m : a ∈ S) : apG G S a = some (.lst (ds ++ [.non])) := by unfold apG; rw [if_pos m, h]
theorem apG_out {G : Gp} {S : List Addr} {a : Addr} (m : a ∉ S) : apG G S a = G a := by unfold apG; rw [if_neg m]
theorem apG_snoc {G : Gp} {S : List Addr} {a : Addr} {ds : List D} (h : G a = some (.lst ds)) (m : a ∉ S) : gput (apG G S) a (.lst (ds ++ [.non])) = apG G (S ++ [a]) := by
  funext b
  by_cases e : b = a
  · subst e
    rw [gput_same, apG_in h (by simp)]
  · rw [gput_ne e]
    unfold apG
    by_cases c : b ∈ S
    · rw [if_pos c, if_pos (List.mem_append_left _ c)]
    · rw [if_neg c, if_neg (fun z => (List.mem_append.mp z).elim c fun z => e (List.mem_singleton.mp z))]
theorem lens_comp {G : Gp} {A : List Addr} {s0 : Sd} {i : Nat} {Q : List D → Gp → Prop} {Kp : Gp → Prop} (hi : i < s0.length) (hK : Kp G) (h : ∀ a ∈ A, ∃ ds, G a = some (.lst ds)) (q : Q (nD (A.map (lenG G))) G) : compW s0 (.nm i) eYes (eCB cLen (eCons (eVar i) eNil)) Kp (A.map D.ref) [] G Q := by
  refine compW_all (f := fun a => D.int ((lenG G a : Nat) : Int)) hK A [] (fun a ha => ⟨_, rfl, fun R r => ?_⟩) ?_
  · obtain ⟨ds, e⟩ := h a ha
    have e0 : (s0.set i (some (D.ref a)))[i]? = some (some (.ref a)) := List.getElem?_set_self hi
    simp only [eCB, eCons, eNil, eVar, e0]
    refine len_of (ds := ds) (by simp only [lkL, e]) ?_
    rw [len_at e] at r
    exact r
  · rw [List.nil_append]
    have : A.map (fun a => D.int ((lenG G a : Nat) : Int)) = nD (A.map (lenG G)) := by unfold nD; rw [List.map_map]; rfl
    rw [this]
    exact q
theorem d__law_apart (ds : List D) (G : Gp) (Q : DK) (h : F__law_apart ds G Q) : r__law_apart (fin G Q) (startD 5 ds) G := by
  obtain ⟨d, A, rfl, hd, nd, hA, hz, k⟩ := h
  have lst := hd.lst
  refine seq_gen fun W hW => ?_
  (try dsimp only [startD, sAsg, eCall, eCons, eVar, asg, eNil]); (try simp only [List.map_cons, List.map_nil, List.length_cons, List.length_nil, Nat.reduceAdd, List.replicate, List.cons_append, List.nil_append]); (try dsimp only [List.getElem?_cons_zero, List.set_cons_succ, List.set_cons_zero])
  refine ⟨d, A, rfl, hd, hA, hW _ _ ?_⟩
  refine seq_gen fun W2 hW2 => ?_
  simp only [sAsg, eLc, iL, eVar, List.getElem?_cons_succ, List.getElem?_cons_zero, lkL_lst]
  refine lens_comp (by simp [wipeD]) trivial lst ?_
  (try dsimp only [asg, List.set_cons_succ, List.set_cons_zero]); (skip); (skip)
  refine hW2 _ _ ?_
  refine seq_gen fun W3 hW3 => ?_
  (try dsimp only [sFor, iL, eVar, List.getElem?_cons_succ, List.getElem?_cons_zero, lkL_lst]); (skip); (skip)
  refine forW_ind (g := D.ref) (fun r s G' => ∃ (done : List Addr) (o3 : Option D), s = [some d, some (.lst (A.map D.ref)), some (.lst (nD (A.map (lenG G)))), o3, none] ∧ done ++ r = A ∧ G' = apG G done) (fun _ _ _ _ => stays_of lkL_lst) ?_ ?_ A _ _ ⟨[], _, rfl, rfl, ?_⟩
  · rintro a r s G' W ⟨done, o3, rfl, hd, rfl⟩ hW
    have nd2 : (done ++ a :: r).Nodup := by rw [hd]; exact nd
    have an : a ∉ done := fun m => (List.nodup_append.mp nd2).2.2 a m a List.mem_cons_self rfl
    obtain ⟨ds, e⟩ := lst a (by rw [← hd]; simp)
    have e2 : apG G done a = some (.lst ds) := by rw [apG_out an]; exact e
    have := hz a (by rw [← hd]; simp) ds e
    unfold r__law_apart_L1
    (try dsimp only [asg, List.set_cons_succ, List.set_cons_zero, sDrop, eBm, eVar, eCons, eC, eNil, List.getElem?_cons_succ, List.getElem?_cons_zero]); (skip); (skip)
    refine ⟨⟨_, e2⟩, app_ref e2 (by omega) ?_⟩
    rw [apG_snoc e an]
    exact hW _ _ ⟨done ++ [a], _, rfl, by simpa using hd, rfl⟩
  · rintro s G' ⟨done, o3, rfl, hd, rfl⟩
    rw [List.append_nil] at hd
    subst hd
    refine hW3 _ _ ?_
    have lst2 : ∀ a ∈ done, ∃ ds, apG G done a = some (.lst ds) := fun a ha => by
      obtain ⟨ds, e⟩ := lst a ha
      exact ⟨_, apG_in e ha⟩
    have el : done.map (lenG (apG G done)) = (done.map (lenG G)).map (· + 1) := by
      rw [List.map_map]
      refine List.map_congr_left fun a ha => ?_
      obtain ⟨ds, e⟩ := lst a ha
      rw [len_at (apG_in e ha)]
      show _ = lenG G a + 1
      rw [len_at e]
      simp
    simp only [sRet, eOp, eLc, iL, eVar, List.getElem?_cons_succ, List.getElem?_cons_zero, lkL_lst]
    refine lens_comp (by simp [wipeD]) trivial lst2 ?_
    refine compW_all (g := fun i : Nat => D.int (i : Int)) (f := fun i : Nat => D.int (((i + 1 : Nat) : Nat) : Int)) trivial (done.map (lenG G)) [] (fun i hi => ⟨_, rfl, fun R r => ?_⟩) ?_
    · (try dsimp only [wipeD, List.set_cons_succ, List.set_cons_zero, eOp, eVar, List.getElem?_cons_succ, List.getElem?_cons_zero, eC]); (skip); (skip)
      refine add_ii ?_
      rw [show (i : Int) + 1 = ((i + 1 : Nat) : Int) by omega]
      exact r
    · rw [List.nil_append]
      have e3 : (done.map (lenG G)).map (fun i : Nat => D.int (((i + 1 : Nat) : Nat) : Int)) = nD ((done.map (lenG G)).map (· + 1)) := by simp only [nD, List.map_map]; rfl
      rw [e3, el]
      refine eq_lists ?_
      rw [decide_eq_true rfl]
      exact fin_id (k _ fun a ha => apG_out ha)
  · funext b
    unfold apG
    simp
theorem min_ov {n : Int} {rs : List Stretch} (n1 : 1 ≤ n) {v : Int} (hv : v ∈ loadsL n rs) (hm : ∀ y ∈ loadsL n rs, v ≤ y) : v = ((ovZ n rs (seamF n rs)).length : Int) := by
  have mo := seam_ok (rs := rs) n1
  have e : ((ovZ n rs (seamF n rs)).length : Int) = ((loadOn n rs (List.range rs.length) (seamF n rs) : Nat) : Int) := rfl
  rw [e]
  have a := hm ((loadOn n rs (List.range rs.length) (seamF n rs) : Nat) : Int) (List.mem_map.mpr ⟨(seamF n rs).toNat, by have := mo.m0; have := mo.m1; simp; omega, by rw [Int.toNat_of_nonneg mo.m0]⟩)
  unfold loadsL at hv
  obtain ⟨m, hm2, rfl⟩ := List.mem_map.mp hv
  have b := mo.mn (m : Int) (by omega) (by have := List.mem_range.mp hm2; omega)
  omega
/-- the least load, as the law asks for it -/
theorem min_ok {n : Int} {rs : List Stretch} {s : Sd} {i j v : Nat} {G : Gp} {Q : DK} (hr : RgOk n rs) (hi : s[i]? = some (some (ringD n rs))) (hj : s[j]? = some (some (.lst (nD (List.range rs.length))))) (hv : v < s.length) (vi : i ≠ v) (vj : j ≠ v) (q : Q (.int ((ovZ n rs (seamF n rs)).length : Int)) G) :
    eCB cMin (eCons (eLc (iR1 (eCons (eOp oIx (eVar i) (eC (.int 0))) eNil)) (.nm v) eYes (eCall F__law_load_in (eCons (eVar i) (eCons (eVar j) (eCons (eVar v) eNil)))) [v]) eNil) s G Q := by
  have n1 := hr.n1
  have n2 := hr.n2
  simp only [eCB, eCons, eNil, eLc, iR1, eOp, eC, eVar, hi]
  refine ixg_0 ?_
  dsimp only
  refine ⟨by omega, by omega, ?_⟩
  rw [rng_nat0]
  refine compW_all (f := fun m : Nat => D.int ((loadOn n rs (List.range rs.length) (m : Int) : Nat) : Int)) trivial (List.range n.toNat) [] (fun m hm => ⟨_, rfl, fun R r => ?_⟩) ?_
  · have w0 : (wipeD s [v])[i]? = some (some (ringD n rs)) := by simp only [wipeD, List.foldl_cons, List.foldl_nil]; rw [List.getElem?_set_ne (Ne.symm vi)]; exact hi
    have w1 : (wipeD s [v])[j]? = some (some (.lst (nD (List.range rs.length)))) := by simp only [wipeD, List.foldl_cons, List.foldl_nil]; rw [List.getElem?_set_ne (Ne.symm vj)]; exact hj
    have wl : v < (wipeD s [v]).length := by simp only [wipeD, List.foldl_cons, List.foldl_nil, List.length_set]; exact hv
    have a0 : ((wipeD s [v]).set v (some (D.int (m : Int))))[i]? = some (some (ringD n rs)) := by rw [List.getElem?_set_ne (Ne.symm vi)]; exact w0
    have a1 : ((wipeD s [v]).set v (some (D.int (m : Int))))[j]? = some (some (.lst (nD (List.range rs.length)))) := by rw [List.getElem?_set_ne (Ne.symm vj)]; exact w1
    have a2 : ((wipeD s [v]).set v (some (D.int (m : Int))))[v]? = some (some (.int (m : Int))) := List.getElem?_set_self wl
    simp only [eCall, eCons, eNil, eVar, a0, a1, a2]
    exact load_on_ok (by omega) (fun i hi => List.mem_range.mp hi) r
  rw [List.nil_append]
  have e : ((List.range n.toNat).map fun m : Nat => D.int ((loadOn n rs (List.range rs.length) (m : Int) : Nat) : Int)) = (loadsL n rs).map D.int := by unfold loadsL; rw [List.map_map]; rfl
  rw [e]
  simp only [cMin, lkL_lst, Option.bind_some, intsD_map]
  refine ⟨by unfold loadsL; simp; omega, fun v hv hm => ?_⟩
  rw [min_ov n1 hv hm]
  exact q
theorem ne_ring {n : Int} {rs : List Stretch} {G : Gp} {Q : DK} (hr : RgOk n rs) (q : Q (.bl false) G) : oNe (ringD n rs) (ringD n rs) G Q := by
  have s1 : Shp 2 (.list (rs.map Stretch.py)) := shp_list fun x hx => by
    obtain ⟨s, hs, rfl⟩ := List.mem_map.mp hx
    have nm := (hr.all s hs).nm
    exact shp_tuple fun y hy => by
      simp only [List.mem_cons, List.not_mem_nil, or_false] at hy
      rcases hy with rfl | rfl | rfl | rfl
      · exact shp_name nm
      all_goals exact shp_int _
  exact ne_self (u := .tuple [.int n, .list (rs.map Stretch.py)]) (n := 3) (shp_tuple fun x hx => by
    simp only [List.mem_cons, List.not_mem_nil, or_false] at hx
    rcases hx with rfl | rfl
    · exact shp_int _
    · exact s1) (by simp [ringD, toPys_book]) (by simp [ringD, toPys_book]) q
/-- what is found, as the law has it -/
structure Found (G : Gp) (n : Int) (rs : List Stretch) (nb w : Int) (l : List Nat) (c : Addr) (d : D) (A : List Addr) : Prop where
  most : MostR n rs nb w l
  at_ : G c = some (.lst (nD l))
  tr : RTr G (moT n rs nb) d A
  nd : A.Nodup
  cA : c ∉ A
theorem moT_ok {n : Int} {rs : List Stretch} {nb : Int} (hr : RgOk n rs) (ho : (ovZ n rs (seamF n rs)).length ≤ 6) : (moT n rs nb).size + 1 ≤ 128 ∧ (moT n rs nb).dep ≤ 7 ∧ (moT n rs nb).pap n ∧ (moT n rs nb).small := by
  have mo := seam_ok (rs := rs) hr.n1
  have T := trF_ok (nb := nb) (be := none) (tr_start hr mo.m0 mo.m1)
  exact ⟨Nat.le_trans T.size (Nat.pow_le_pow_right (by decide) (show (ovZ n rs (seamF n rs)).length + 1 ≤ 7 by omega)), Nat.le_trans T.dep (by omega), T.pap, T.small⟩
theorem rtr_len {G : Gp} : ∀ {t : Tr} {d : D} {A : List Addr}, RTr G t d A → A.length ≤ t.size
  | _, _, _, .pr _ => Nat.le_refl _
  | _, _, _, .cr => Nat.zero_le _
  | _, _, _, .sp _ x y => by
    have a := rtr_len x
    have b := rtr_len y
    simp only [List.length_cons, List.length_append, Tr.size]
    omega
theorem rtr_lens {G : Gp} {n : Int} : ∀ {t : Tr} {d : D} {A : List Addr}, RTr G t d A → t.pap n → ∀ a ∈ A, ∀ ds, G a = some (.lst ds) → ds.length ≤ 48
  | _, _, _, .pr h, pp, a, ha, ds, e => by
    rw [List.mem_singleton.mp ha, h] at e
    cases e
    rw [List.length_map]
    exact pp.1.len
  | _, _, _, .cr, _, a, ha, _, _ => nomatch ha
  | _, _, _, .sp h x y, pp, a, ha, ds, e => by
    rcases List.mem_cons.mp ha with rfl | q
    · rw [h] at e; cases e; simp
    · rcases List.mem_append.mp q with q | q
      · exact rtr_lens x pp.1 a q ds e
      · exact rtr_lens y pp.2 a q ds e
theorem Found.fr {G : Gp} {n : Int} {rs : List Stretch} {nb w : Int} {l : List Nat} {c : Addr} {d : D} {A : List Addr} (F : Found G n rs nb w l c d A) : FrD G (.tup [.int w, .ref c, d]) (.tup [.int w, .lst (nD l), (moT n rs nb).d]) :=
  .tup (.cons (.pl rfl) (.cons (.ref F.at_ (frds_pl (by unfold nD; exact plainDs_map (fun _ => rfl) _))) (.cons F.tr.fr .nil)))
theorem Found.right {G : Gp} {n : Int} {rs : List Stretch} {nb w : Int} {l : List Nat} {c : Addr} {d : D} {A : List Addr} {Q : DK} (F : Found G n rs nb w l c d A) (hr : RgOk n rs) (n0 : 0 ≤ nb) (ho : (ovZ n rs (seamF n rs)).length ≤ 6) (q : Q (.bl true) G) :
    ∃ ds', FrDs G [ringD n rs, .int nb, .tup [.int w, .ref c, d], .int w] ds' ∧ F__law_right ds' (fun _ => none) (lentQ G Q) :=
  ⟨[ringD n rs, .int nb, .tup [.int w, .lst (nD l), (moT n rs nb).d], .int w], .cons (.pl (by simp only [ringD, plainD, plainDs, Bool.true_and, Bool.and_true]; exact plain_book rs)) (.cons (.pl rfl) (.cons F.fr (.cons (.pl rfl) .nil))), n, rs, nb, w, l, rfl, hr, n0, ho, F.most, lentQ_flat rfl q⟩
theorem Found.apart {G : Gp} {n : Int} {rs : List Stretch} {nb w : Int} {l : List Nat} {c : Addr} {d : D} {A : List Addr} {Q : DK} (F : Found G n rs nb w l c d A) (hr : RgOk n rs) (ho : (ovZ n rs (seamF n rs)).length ≤ 6) (q : ∀ G', (∀ a, a ∉ c :: A → G' a = G a) → Q (.bl true) G') : F__law_apart [.tup [.int w, .ref c, d]] G Q := by
  obtain ⟨h1, h2, h3, _⟩ := moT_ok (nb := nb) hr ho
  have rl := hr.len
  have ll := some_len F.most.some
  refine ⟨_, c :: A, rfl, found_ls F.at_ F.tr (by omega), List.nodup_cons.mpr ⟨F.cA, F.nd⟩, by have := rtr_len F.tr; simp only [List.length_cons]; omega, fun a ha ds e => ?_, q⟩
  rcases List.mem_cons.mp ha with rfl | m
  · rw [F.at_] at e
    cases e
    simp only [nD, List.length_map]
    omega
  · have := rtr_lens F.tr h3 a m ds e
    omega
theorem most_call {n : Int} {rs : List Stretch} {nb : Int} {G : Gp} {Q : DK} {U : Ux} (hr : RgOk n rs) (n0 : 0 ≤ nb) (ho : (ovZ n rs (seamF n rs)).length ≤ 6) (q : ∀ (G' : Gp) (w : Int) (l : List Nat) (c : Addr) (d : D) (A : List Addr), (∀ a o, G a = some o → G' a = some o) → Found G' n rs nb w l c d A → G c = none → (∀ a ∈ A, G a = none) → Q (.tup [.int w, .ref c, d]) G') : F_ring_mostO [ringD n rs, .int nb] G Q U :=
  ⟨n, rs, nb, rfl, hr, n0, fun _ G' w l c d A M up hc ht hn hcA h1 h2 => q G' w l c d A up ⟨M, hc, ht, hn, hcA⟩ h1 h2, fun h => by omega⟩
theorem d__law_greater (ds : List D) (G : Gp) (Q : DK) (h : F__law_greater ds G Q) : r__law_greater (fin G Q) (startD 6 ds) G := by
  obtain ⟨a, x, y, z, rfl, hG, ok, k⟩ := h
  refine seq_gen fun W hW => ?_
  (try dsimp only [startD, sAsg, eCall, eCons, eVar, asg, eOp, eLst, eC, eNil]); (try simp only [List.map_cons, List.map_nil, List.length_cons, List.length_nil, Nat.reduceAdd, List.replicate, List.cons_append, List.nil_append, sizeLine_eq, Nat.reduceLeDiff, true_and]); (try dsimp only [List.getElem?_cons_zero, List.set_cons_succ, List.set_cons_zero])
  refine take_ok hG ok (wd_of (by decide) (by decide)) fun i x y z ok i0 i1 => ?_
  obtain ⟨m, em, m0, m1⟩ : ∃ m : Int, atI [D.int 3, D.int 3, D.int 3, D.int 14] i = some (.int m) ∧ 0 ≤ m ∧ m ≤ 24 := by
    obtain ⟨d, e, m⟩ := at_mem (ds := [D.int 3, D.int 3, D.int 3, D.int 14]) i0 (by simpa using i1)
    simp only [List.mem_cons, List.not_mem_nil, or_false] at m
    rcases m with rfl | rfl | rfl | rfl <;> exact ⟨_, e, by omega, by omega⟩
  refine ix_at em ?_
  refine ⟨a, m, x, y, z, rfl, gput_same, ok, m0, m1, fun n rs x y z ok hr hl => hW _ _ ?_⟩
  rw [gput_gput]
  have rl := hr.len
  refine seq_gen fun W2 hW2 => ?_
  (try dsimp only [sAsg, eCall, eCons, eVar, List.getElem?_cons_zero, asg, List.set_cons_succ, List.set_cons_zero, eC, eNil]); (skip); (skip)
  refine take_ok gput_same ok (wd_of (by decide) (by decide)) fun nb x y z ok nb0 nb1 => ?_
  rw [gput_gput]
  refine hW2 _ _ ?_
  refine seq_gen fun W3 hW3 => ?_
  (try dsimp only [sAsg, eListRange, eCons, eCB, eOp, eVar, List.getElem?_cons_succ, List.getElem?_cons_zero, asg, List.set_cons_succ, List.set_cons_zero, eNil, eC]); (skip); (skip)
  refine ixg_1 (len_lst ?_)
  rw [List.length_map]
  (try dsimp only); (skip); (skip)
  refine ⟨by omega, by omega, ?_⟩
  rw [Int.toNat_natCast, rng_nD]
  refine hW3 _ _ ?_
  refine seq_gen fun W4 hW4 => ?_
  simp only [sIf, eT, eOp]
  refine min_ok (i := 1) (j := 3) (v := 5) hr rfl rfl (by simp) (by decide) (by decide) ?_
  (try dsimp only [oGt, sRet, eCall, eCons, eVar, List.getElem?_cons_succ, List.getElem?_cons_zero, eNil, sNext, oI0, eC]); (skip); (skip)
  by_cases c : 6 < (ovZ n rs (seamF n rs)).length
  · rw [decide_eq_true (by omega)]
    (skip); (try simp only [if_true]); (skip)
    exact ⟨n, rs, nb, rfl, hr, by omega, c, fin_id (k _)⟩
  · rw [decide_eq_false (by omega)]
    (skip); (try simp only [Bool.false_eq_true, if_false]); (skip)
    refine hW4 _ _ ?_
    refine seq_gen fun W5 hW5 => ?_
    (try dsimp only [sAsg, eCall, eCons, eTup, eOp, eVar, List.getElem?_cons_succ, List.getElem?_cons_zero, asg, List.set_cons_succ, List.set_cons_zero, nev, eNil, eCB, eC]); (try simp only [List.length_cons, List.length_nil, Nat.reduceAdd, sizeLine_eq, Nat.reduceLeDiff, true_and]); (skip)
    refine ixg_0 (ixg_1 ?_)
    (try dsimp only [cList, lkQ, lkL_lst]); (skip); (skip)
    have er : D.tup [.int n, .lst (rs.map Stretch.d)] = ringD n rs := rfl
    rw [er]
    refine most_call hr (by omega) (by omega) fun G1 w l cc d A up F hc hA => hW5 _ _ ?_
    (try dsimp only [sRet, eAndT, eCallF, eCons, eVar, List.getElem?_cons_succ, List.getElem?_cons_zero, eCall, eNil, eOp, eC]); (skip); (skip)
    refine ixt_0 (d := .int w) rfl ?_
    refine F.right hr (by omega) (by omega) ?_
    (try dsimp only [truD_bl]); (try simp only [if_true]); (skip)
    refine F.apart hr (by omega) fun G2 h2 => ?_
    exact fin_id (k _)
/-- the text of what is found -/
theorem found_show {n : Int} {rs : List Stretch} {nb w : Int} {l : List Nat} (hr : RgOk n rs) (ho : (ovZ n rs (seamF n rs)).length ≤ 6) (M : MostR n rs nb w l) : ∃ z : Str, Asc z ∧ ∀ (G : Gp) (Q : DK) (c : Addr) (d : D) (A : List Addr), Found G n rs nb w l c d A → Q (.str z) G → (cFr cStrX) [.tup [.int w, .ref c, d]] G Q := by
  obtain ⟨h1, h2, h3, h4⟩ := moT_ok (nb := nb) hr ho
  have rl := hr.len
  have ll := some_len M.some
  have tt := Tr.tx (moT n rs nb) h3 h4
  have wb : ∀ l : List Nat, (∀ i ∈ l, i < rs.length) → 0 ≤ worthOf rs l ∧ worthOf rs l ≤ 1000000000000 * (l.length : Int) := by
    intro l
    induction l with
    | nil => intro _; exact ⟨Int.le_refl _, Int.le_refl _⟩
    | cons a l ih =>
      intro h
      have hw := hr.all _ (st_mem (h a List.mem_cons_self))
      have b := ih fun i hi => h i (List.mem_cons_of_mem _ hi)
      have := hw.w0
      have := hw.w1
      have e : worthOf rs (a :: l) = (st rs a).w + worthOf rs l := by simp [worthOf]
      rw [e, List.length_cons]
      omega
  have wl := wb l M.some.lt
  have ew := M.wo
  have tl : Tx (24 * 63 + 2) (.list (l.map fun i : Nat => PyData.int (i : Int))) := tx_nats (fun i hi => by have := M.some.lt i hi; omega) (by omega)
  have tw : Tx 61 (.int w) := tx_i (by omega) (by omega)
  have ep : ∀ G, toPx G (.tup [.int w, .lst (nD l), (moT n rs nb).d]) = some (.tuple [.int w, .list (l.map fun i : Nat => PyData.int (i : Int)), (moT n rs nb).py]) := fun G => by
    have e2 : toPxs G (nD l) = some (l.map fun i : Nat => PyData.int (i : Int)) := by
      have : ∀ l : List Nat, toPxs G (nD l) = some (l.map fun i : Nat => PyData.int (i : Int)) := fun l => by
        induction l with
        | nil => simp [nD]
        | cons x r ih => simp only [nD, List.map_cons] at ih ⊢; simp [ih]
      exact this l
    simp [Tr.toPx, e2]
  obtain ⟨z, az, hz⟩ := show_gen (d := .tup [.int w, .lst (nD l), (moT n rs nb).d]) ep rfl (tx_tup3 tw tl tt) (by
    have hp := (moT n rs nb).shp
    have hs : Shp 20 (.tuple [.int w, .list (l.map fun i : Nat => PyData.int (i : Int)), (moT n rs nb).py]) := shp_tuple (n := 19) fun x hx => by
      simp only [List.mem_cons, List.not_mem_nil, or_false] at hx
      rcases hx with rfl | rfl | rfl
      · exact shp_int _
      · exact shp_list (n := 18) fun y hy => by obtain ⟨i, _, rfl⟩ := List.mem_map.mp hy; exact shp_int _
      · exact hp.mono (by omega)
    exact Nat.le_trans hs.d (by decide)) (by omega)
  exact ⟨z, az, fun G Q c d A F q => ⟨_, .cons F.fr .nil, hz _ _ (lentQ_flat rfl q)⟩⟩
theorem best_max {n : Int} {rs : List Stretch} {nb w : Int} {l0 : List Nat} {ls : List (List Nat)} {s : Sd} {G : Gp} {Q : DK} (hr : RgOk n rs) (M : MostR n rs nb w l0) (hl : ∀ l, l ∈ ls ↔ LtOk n rs nb rs.length l) (e4 : s[4]? = some (some (ringD n rs))) (e8 : s[8]? = some (some (.lst (ls.map fun l => .lst (nD l))))) (hs : s.length = 15)
    (q : Q (.int w) G) :
    eCB cMax (eCons (eLc (iL (eVar 8)) (.nm 13) eYes (eCB cSum (eCons (eLc (iL (eVar 13)) (.nm 14) eYes (eOp oIx (eOp oIx (eOp oIx (eVar 4) (eC (.int 1))) (eVar 14)) (eC (.int 3))) [14]) eNil)) [13]) eNil) s G Q := by
  match s, hs with
  | [s0, s1, s2, s3, s4, s5, s6, s7, s8, s9, s10, s11, s12, s13, s14], _ =>
    simp at e4 e8
    subst e4 e8
    (try dsimp only [eCB, eCons, eLc, iL, eVar, List.getElem?_cons_succ, List.getElem?_cons_zero, wipeD, List.set_cons_succ, List.set_cons_zero, eNil, stays, lkL_lst]); (skip); (skip)
    refine compW_all (g := fun l => D.lst (nD l)) (f := fun l => D.int (worthOf rs l)) trivial ls [] (fun l hl2 => ⟨_, rfl, fun R r => ?_⟩) ?_
    · (try dsimp only [List.set_cons_succ, List.set_cons_zero, eCB, eCons, eNil]); (skip); (skip)
      refine compW_all (g := fun k : Nat => D.int (k : Int)) (f := fun k : Nat => D.int (st rs k).w) trivial l [] (fun j hj => ⟨_, rfl, fun R r => ?_⟩) ?_
      · (try dsimp only [eOp, eVar, eC]); (skip); (skip)
        exact ixg_1 (ix_at (bk_at (((hl l).mp hl2).1.lt j hj)) (ixt_0 (d := .int (st rs j).w) rfl r))
      have e4 : l.map (fun k : Nat => D.int (st rs k).w) = (l.map fun k => (st rs k).w).map D.int := by rw [List.map_map]; rfl
      rw [List.nil_append, e4]
      (try dsimp only [cSum, lkL_lst, Option.bind_some]); (try simp only [intsD_map]); (skip)
      exact r
    have e5 : ls.map (fun l => D.int (worthOf rs l)) = (ls.map (worthOf rs)).map D.int := by rw [List.map_map]; rfl
    rw [List.nil_append, e5]
    (try dsimp only [cMax, lkL_lst, Option.bind_some]); (try simp only [intsD_map]); (skip)
    have m0 : l0 ∈ ls := (hl l0).mpr ⟨M.some, M.load⟩
    refine ⟨by rw [List.length_map]; exact List.length_pos_iff.mpr (fun e => by rw [e] at m0; cases m0), fun v hv hm => ?_⟩
    obtain ⟨l, hl2, rfl⟩ := List.mem_map.mp hv
    have a := hm (worthOf rs l0) (List.mem_map.mpr ⟨l0, m0, rfl⟩)
    have b := M.max hr ((hl l).mp hl2).1 ((hl l).mp hl2).2
    have c := M.wo
    have : worthOf rs l = w := by omega
    rw [this]
    exact q
theorem d_law (ds : List D) (G : Gp) (Q : DK) (h : lawF 63 ds G Q) : r_law (fin G Q) (startD 15 ds) G := by
  obtain ⟨ns, rfl, hl, rfl, k⟩ := h
  refine seq_gen fun W hW => ?_
  (try dsimp only [startD, sFor, iR1, eCons, eCB, eC, eVar, eNil, cMax2, cMin2, cLen]); (try simp only [List.map_cons, List.map_nil, List.length_cons, List.length_nil, Nat.reduceAdd, List.replicate, List.cons_append, List.nil_append, sizeLine_eq]); (try dsimp only [List.getElem?_cons_zero])
  have el : lkQ (fun _ => none) (.scr ns) = some (ns.map D.int) := by simp
  simp only [el, List.length_map]
  refine ⟨by split <;> split <;> omega, by split <;> split <;> omega, ?_⟩
  refine law_loop (m := 0) (fun s G => ∃ o1 o2 o3 o4 o5 o6 o7 o8 o9 o10 o11, s = [some (.scr ns), o1, o2, o3, o4, o5, o6, o7, o8, o9, o10, o11, none, none, none]) ?_ (by split <;> split <;> omega) ⟨_, _, _, _, _, _, _, _, _, _, _, rfl⟩ ?_
  · intro i h0 h1 s G W2 hI hW2
    obtain ⟨o1, o2, o3, o4, o5, o6, o7, o8, o9, o10, o11, rfl⟩ := hI
    (try dsimp only [asg, List.set_cons_succ, List.set_cons_zero]); (skip); (skip)
    unfold r_law_L1
    refine seq_gen fun W3 hW3 => ?_
    (try dsimp only [sAsg, eCall, eCons, eVar, List.getElem?_cons_zero, asg, List.set_cons_succ, List.set_cons_zero, List.getElem?_cons_succ, eNil]); (skip); (skip)
    refine ⟨ns, i, rfl, h0, by omega, fun p x y z hp ok => hW3 _ _ ?_⟩
    refine seq_gen fun W4 hW4 => ?_
    (try dsimp only [sAsg, eCall, eCons, eVar, List.getElem?_cons_succ, List.getElem?_cons_zero, asg, List.set_cons_succ, List.set_cons_zero, eC, eNil]); (skip); (skip)
    refine take_ok gput_same ok (wd_of (by decide) (by decide)) fun wy x y z ok wy0 wy1 => ?_
    rw [gput_gput]
    refine hW4 _ _ ?_
    refine seq_gen fun W5 hW5 => ?_
    (try dsimp only [sAsg, eCall, eCons, eVar, List.getElem?_cons_succ, List.getElem?_cons_zero, asg, List.set_cons_succ, List.set_cons_zero, eOp, eLst, eC, eNil]); (try simp only [List.length_cons, List.length_nil, Nat.reduceAdd, sizeLine_eq, Nat.reduceLeDiff, true_and]); (skip)
    obtain ⟨m, em, m0, m7⟩ : ∃ m : Int, atI [D.int 1, D.int 1, D.int 6, D.int 7] wy = some (.int m) ∧ 0 ≤ m ∧ m ≤ 7 := by
      obtain ⟨d, e, m⟩ := at_mem (ds := [D.int 1, D.int 1, D.int 6, D.int 7]) wy0 (by simpa using wy1)
      simp only [List.mem_cons, List.not_mem_nil, or_false] at m
      rcases m with rfl | rfl | rfl | rfl <;> exact ⟨_, e, by omega, by omega⟩
    refine ix_at em ?_
    refine ⟨p, m, x, y, z, rfl, gput_same, ok, m0, m7, fun n rs x y z ok hr hl9 => hW5 _ _ ?_⟩
    rw [gput_gput]
    refine seq_gen fun W6 hW6 => ?_
    -- the ring, whichever it is
    have ring : ∀ (n : Int) (rs : List Stretch) (x y z : Int), Ok3 x y z → RgOk n rs → rs.length ≤ 9 → W6 [some (.scr ns), some (.int i), some (.ref p), some (.int wy), some (ringD n rs), o5, o6, o7, o8, o9, o10, o11, none, none, none] (gput G p (stO x y z)) := by
      intro n rs x y z ok hr hl9
      refine hW6 _ _ ?_
      have rl := hr.len
      refine seq_gen fun W7 hW7 => ?_
      (try dsimp only [oDivW, sAsg, eCall, eCons, eVar, List.getElem?_cons_succ, List.getElem?_cons_zero, asg, List.set_cons_succ, List.set_cons_zero, eOp, eLst, eC, eNil, oI]); (try simp only [List.length_cons, List.length_nil, Nat.reduceAdd, sizeLine_eq, Nat.reduceLeDiff, true_and]); (skip)
      refine take_ok gput_same ok (wd_of (by decide) (by decide)) fun r x y z ok r0 r1 => ?_
      rw [gput_gput]
      (try dsimp only); (skip); (skip)
      have hr3 : r / 3 = 0 ∨ r / 3 = 1 := by omega
      refine ⟨⟨by decide, by decide⟩, ?_⟩
      obtain ⟨mb, eb, b1, b2⟩ : ∃ m : Int, atI [D.int 4, D.int 25] (r / 3) = some (.int m) ∧ 1 ≤ m ∧ m ≤ 25 := by
        rcases hr3 with e | e <;> rw [e]
        · exact ⟨4, rfl, by decide, by decide⟩
        · exact ⟨25, rfl, by decide, by decide⟩
      refine ix_at eb ?_
      refine take_ok gput_same ok (wd_of (by omega) (by omega)) fun nb x y z ok b0 b1 => hW7 _ _ ?_
      rw [gput_gput]
      refine seq_gen fun W8 hW8 => ?_
      (try dsimp only [sAsg, eListRange, eCons, eCB, eOp, eVar, List.getElem?_cons_succ, List.getElem?_cons_zero, asg, List.set_cons_succ, List.set_cons_zero, eNil, eC]); (skip); (skip)
      refine ixg_1 (len_lst ?_)
      rw [List.length_map]
      (try dsimp only); (skip); (skip)
      refine ⟨by omega, by omega, ?_⟩
      rw [Int.toNat_natCast, rng_nD]
      refine hW8 _ _ ?_
      refine seq_gen fun W9 hW9 => ?_
      (try dsimp only [sAsg, eTup, eCons, eOp, eVar, List.getElem?_cons_succ, List.getElem?_cons_zero, asg, List.set_cons_succ, List.set_cons_zero, eCB, eNil, eC]); (try simp only [List.length_cons, List.length_nil, Nat.reduceAdd, sizeLine_eq, Nat.reduceLeDiff, true_and]); (skip)
      refine ixg_0 (ixg_1 ?_)
      (try dsimp only [cList, lkQ, lkL_lst]); (skip); (skip)
      have er : D.tup [.int n, .lst (rs.map Stretch.d)] = ringD n rs := rfl
      rw [er]
      refine hW9 _ _ ?_
      simp only [sIf, eT, eOp]
      refine min_ok (i := 4) (j := 6) (v := 12) hr rfl rfl (by simp) (by decide) (by decide) ?_
      (try dsimp only [oGt, sRet, eC, sNext, eNot, eTru, eCall, eCons, eVar, List.getElem?_cons_succ, List.getElem?_cons_zero, eNil, oI0]); (skip); (skip)
      by_cases c : 6 < (ovZ n rs (seamF n rs)).length
      · rw [decide_eq_true (by omega)]
        (skip); (try simp only [if_true]); (skip)
        refine ⟨n, rs, nb, rfl, hr, by omega, c, ?_⟩
        (try dsimp only [truD_bl]); (try simp only [Bool.not_true, Bool.false_eq_true, if_false]); (skip)
        exact hW2 _ _ ⟨_, _, _, _, _, _, _, _, _, _, _, rfl⟩
      · rw [decide_eq_false (by omega)]
        (skip); (try simp only [Bool.false_eq_true, if_false]); (skip)
        have n0 : 0 ≤ nb := by omega
        have o6 : (ovZ n rs (seamF n rs)).length ≤ 6 := by omega
        refine seq_gen fun WA hWA => ?_
        (try dsimp only [sAsg, eCall, eCons, eVar, List.getElem?_cons_succ, List.getElem?_cons_zero, asg, List.set_cons_succ, List.set_cons_zero, eNil]); (skip); (skip)
        refine ⟨n, rs, nb, rfl, hr, hl9, n0, fun ls hls => hWA _ _ ?_⟩
        refine seq_gen fun WB hWB => ?_
        simp only [sAsg]
        obtain ⟨w0, l0, M⟩ := most_ringF (nb := nb) hr n0
        refine best_max hr M hls rfl rfl rfl ?_
        (try dsimp only [asg, List.set_cons_succ, List.set_cons_zero]); (skip); (skip)
        refine hWB _ _ ?_
        refine seq_gen fun WC hWC => ?_
        (try dsimp only [sAsg, eCall, eCons, eVar, List.getElem?_cons_succ, List.getElem?_cons_zero, asg, List.set_cons_succ, List.set_cons_zero, nev, eNil]); (skip); (skip)
        refine most_call hr n0 o6 fun G1 w l cc d A up F hc hA => hWC _ _ ?_
        have ew : w0 = w ∧ l0 = l := by
          have := M.be.symm.trans F.most.be
          cases this
          exact ⟨rfl, rfl⟩
        obtain ⟨rfl, rfl⟩ := ew
        refine seq_gen fun WD hWD => ?_
        (try dsimp only [sIf, eOr, eNot, eTru, eCallF, eCons, eVar, List.getElem?_cons_succ, List.getElem?_cons_zero, sRet, eC, sNext, eT, eOp, eNil]); (try simp only [if_true]); (skip)
        refine F.right hr n0 o6 ?_
        (try dsimp only [truD_bl]); (try simp only [Bool.not_true, Bool.false_eq_true, if_false]); (skip)
        refine ne_ring hr ?_
        (try dsimp only); (try simp only [Bool.false_eq_true, if_false]); (skip)
        refine hWD _ _ ?_
        obtain ⟨tz, az, hz⟩ := found_show hr o6 M
        refine seq_gen fun WE hWE => ?_
        (try dsimp only [sAsg, eCB, eCons, eVar, List.getElem?_cons_succ, List.getElem?_cons_zero, asg, List.set_cons_succ, List.set_cons_zero, eNil]); (skip); (skip)
        refine hz _ _ cc d A F (hWE _ _ ?_)
        (try dsimp only [sIf, eOr, eNot, eTru, eCall, eCons, eVar, List.getElem?_cons_succ, List.getElem?_cons_zero, sRet, eC, sNext, eT, eOp, eCB, eNil]); (try simp only [if_true]); (skip)
        refine F.apart hr o6 fun G2 h2 => ?_
        (try dsimp only [nev, truD_bl]); (try simp only [Bool.not_true, Bool.false_eq_true, if_false]); (skip)
        refine most_call hr n0 o6 fun G3 w2 l2 cc2 d2 A2 up2 F2 _ _ => ?_
        have ew2 : w0 = w2 ∧ l0 = l2 := by
          have := M.be.symm.trans F2.most.be
          cases this
          exact ⟨rfl, rfl⟩
        obtain ⟨rfl, rfl⟩ := ew2
        refine hz _ _ cc2 d2 A2 F2 (ne_ss az az ?_)
        rw [decide_eq_true rfl]
        (try dsimp only); (try simp only [Bool.not_true, Bool.false_eq_true, if_false]); (skip)
        exact hW2 _ _ ⟨_, _, _, _, _, _, _, _, _, _, _, rfl⟩
    (try dsimp only [oLt, sIf, eT, eOp, eVar, List.getElem?_cons_succ, List.getElem?_cons_zero, sAsg, eCall, eCons, asg, List.set_cons_succ, List.set_cons_zero, eC, eNil, sNext, oI0]); (skip); (skip)
    by_cases c2 : wy < 2
    · rw [decide_eq_true c2]
      (skip); (try simp only [if_true]); (skip)
      refine ⟨p, 7, x, y, z, rfl, gput_same, ok, by decide, by decide, fun n rs x y z ok hr l7 => ?_⟩
      rw [gput_gput]
      exact ring n rs x y z ok hr (by omega)
    · rw [decide_eq_false c2]
      (skip); (try simp only [Bool.false_eq_true, if_false]); (skip)
      exact ring n rs x y z ok hr hl9
  · rintro s G ⟨o1, o2, o3, o4, o5, o6, o7, o8, o9, o10, o11, rfl⟩
    refine hW _ _ ?_
    (try dsimp only [sRet, eCall, eCons, eVar, List.getElem?_cons_zero, eNil, eC]); (skip); (skip)
    refine ⟨ns, 3, rfl, by decide, by decide, fun p x y z hp ok => ?_⟩
    exact ⟨p, x, y, z, rfl, gput_same, ok, fun G' => fin_id (k G')⟩
end DL
set_option Elab.async false
set_option linter.all false
set_option maxRecDepth 100000
set_option maxHeartbeats 0
namespace Row
open PySem PySem.Spec PyProof.Rows L2 DL
def top (i : Nat) : Stmt := PySem.Challenge.pw_benchworth_k60_the_most_of_a_ring.main.body.getD i (.Pass ⟨0, 0, 0, 0⟩)
def inC (st : Stmt) (j : Nat) : Stmt := match st with
  | .ClassDef _ _ _ body _ _ _ _ _ _ _ => body.getD j (.Pass ⟨0, 0, 0, 0⟩)
  | _ => .Pass ⟨0, 0, 0, 0⟩
abbrev s__law_begun : Stmt := top 27
theorem sc__law_begun : FnScope ["_law_script", "_law_k", "_law_cell", "_law_number_here", "_law_seed"] ["_law_script", "_law_k"] (defScope s__law_begun) := ⟨rfl, rfl, rfl, by decide +kernel, rfl, by decide +kernel, by decide +kernel⟩
abbrev s__law_take : Stmt := top 28
theorem sc__law_take : FnScope ["_law_state", "_law_many_here", "_law_found", "_law_made", "_law_turn"] ["_law_state", "_law_many_here"] (defScope s__law_take) := ⟨rfl, rfl, rfl, by decide +kernel, rfl, by decide +kernel, by decide +kernel⟩
abbrev s__law_round : Stmt := top 44
theorem sc__law_round : FnScope ["_law_state", "_law_many_here", "_law_size", "_law_stretches", "_law_j", "_law_begin"] ["_law_state", "_law_many_here"] (defScope s__law_round) := ⟨rfl, rfl, rfl, by decide +kernel, rfl, by decide +kernel, by decide +kernel⟩
abbrev s__law_name : Stmt := top 29
theorem sc__law_name : FnScope ["_law_state", "_law_k", "_law_letters", "_law_spelt", "_law_j"] ["_law_state", "_law_k"] (defScope s__law_name) := ⟨rfl, rfl, rfl, by decide +kernel, rfl, by decide +kernel, by decide +kernel⟩
abbrev s__law_ring : Stmt := top 31
theorem sc__law_ring : FnScope ["_law_state", "_law_most", "_law_size", "_law_stretches", "_law_k", "_law_begin", "_law_span", "_law_worth"] ["_law_state", "_law_most"] (defScope s__law_ring) := ⟨rfl, rfl, rfl, by decide +kernel, rfl, by decide +kernel, by decide +kernel⟩
abbrev s__law_load_in : Stmt := top 36
theorem sc__law_load_in : FnScope ["_law_ring_here", "_law_inside", "_law_moment", "_law_size", "_law_stretches", "_law_i"] ["_law_ring_here", "_law_inside", "_law_moment"] (defScope s__law_load_in) := ⟨rfl, rfl, rfl, by decide +kernel, rfl, by decide +kernel, by decide +kernel⟩
abbrev s_is_over_ring : Stmt := top 15
theorem sc_is_over_ring : FnScope ["ring", "i", "moment", "name", "begin", "span", "worth"] ["ring", "i", "moment"] (defScope s_is_over_ring) := ⟨rfl, rfl, rfl, by decide +kernel, rfl, by decide +kernel, by decide +kernel⟩
abbrev s_load_on : Stmt := top 16
theorem sc_load_on : FnScope ["ring", "some", "moment", "i"] ["ring", "some", "moment"] (defScope s_load_on) := ⟨rfl, rfl, rfl, by decide +kernel, rfl, by decide +kernel, by decide +kernel⟩
abbrev s_ring_loads : Stmt := top 17
theorem sc_ring_loads : FnScope ["ring", "some", "moment"] ["ring", "some"] (defScope s_ring_loads) := ⟨rfl, rfl, rfl, by decide +kernel, rfl, by decide +kernel, by decide +kernel⟩
abbrev s_seam_of : Stmt := top 23
theorem sc_seam_of : FnScope ["ring", "loads"] ["ring"] (defScope s_seam_of) := ⟨rfl, rfl, rfl, by decide +kernel, rfl, by decide +kernel, by decide +kernel⟩
abbrev s_Seam___init__ : Stmt := inC (top 24) 0
theorem sc_Seam___init__ : FnScope ["self", "ring", "benches", "numbers", "i"] ["self", "ring", "benches"] (defScope s_Seam___init__) := ⟨rfl, rfl, rfl, by decide +kernel, rfl, by decide +kernel, by decide +kernel⟩
abbrev s_Seam_crowded : Stmt := inC (top 24) 3
theorem sc_Seam_crowded : FnScope ["self", "inside", "moment"] ["self", "inside"] (defScope s_Seam_crowded) := ⟨rfl, rfl, rfl, by decide +kernel, rfl, by decide +kernel, by decide +kernel⟩
abbrev s_Seam_line_moments : Stmt := inC (top 24) 1
theorem sc_Seam_line_moments : FnScope ["self", "k"] ["self"] (defScope s_Seam_line_moments) := ⟨rfl, rfl, rfl, by decide +kernel, rfl, by decide +kernel, by decide +kernel⟩
abbrev s_Seam_line_spans : Stmt := inC (top 24) 2
theorem sc_Seam_line_spans : FnScope ["self", "found", "i", "name", "begin", "span", "worth", "first"] ["self"] (defScope s_Seam_line_spans) := ⟨rfl, rfl, rfl, by decide +kernel, rfl, by decide +kernel, by decide +kernel⟩
abbrev s_Line___init__ : Stmt := inC (top 19) 0
theorem sc_Line___init__ : FnScope ["self", "spans", "must", "piece", "span", "begin", "end", "worth"] ["self", "spans", "must"] (defScope s_Line___init__) := ⟨rfl, rfl, rfl, by decide +kernel, rfl, by decide +kernel, by decide +kernel⟩
abbrev s_Line_piece_arcs : Stmt := inC (top 19) 1
theorem sc_Line_piece_arcs : FnScope ["self", "k", "found"] ["self", "k"] (defScope s_Line_piece_arcs) := ⟨rfl, rfl, rfl, by decide +kernel, rfl, by decide +kernel, by decide +kernel⟩
abbrev s_Line_span_arc : Stmt := inC (top 19) 2
theorem sc_Line_span_arc : FnScope ["self", "i", "begin", "end", "worth"] ["self", "i"] (defScope s_Line_span_arc) := ⟨rfl, rfl, rfl, by decide +kernel, rfl, by decide +kernel, by decide +kernel⟩
abbrev s_Line_arcs_left : Stmt := inC (top 19) 3
theorem sc_Line_arcs_left : FnScope ["self", "found", "k", "i"] ["self"] (defScope s_Line_arcs_left) := ⟨rfl, rfl, rfl, by decide +kernel, rfl, by decide +kernel, by decide +kernel⟩
abbrev s_Line_roads_told : Stmt := inC (top 19) 4
theorem sc_Line_roads_told : FnScope ["self", "many", "gains", "last_arcs", "arcs", "changed", "arc", "gain", "node"] ["self"] (defScope s_Line_roads_told) := ⟨rfl, rfl, rfl, by decide +kernel, rfl, by decide +kernel, by decide +kernel⟩
abbrev s_Line_go_along : Stmt := inC (top 19) 5
theorem sc_Line_go_along : FnScope ["self", "arc", "kind", "number"] ["self", "arc"] (defScope s_Line_go_along) := ⟨rfl, rfl, rfl, by decide +kernel, rfl, by decide +kernel, by decide +kernel⟩
abbrev s_Line_send_unit : Stmt := inC (top 19) 6
theorem sc_Line_send_unit : FnScope ["self", "gains", "last_arcs", "node", "arc"] ["self"] (defScope s_Line_send_unit) := ⟨rfl, rfl, rfl, by decide +kernel, rfl, by decide +kernel, by decide +kernel⟩
abbrev s_Line_greatest_over : Stmt := inC (top 19) 7
theorem sc_Line_greatest_over : FnScope ["self", "k", "begin", "end", "worth"] ["self", "k"] (defScope s_Line_greatest_over) := ⟨rfl, rfl, rfl, by decide +kernel, rfl, by decide +kernel, by decide +kernel⟩
abbrev s_Line_prices_now : Stmt := inC (top 19) 8
theorem sc_Line_prices_now : FnScope ["self", "gains", "last_arcs", "found", "k"] ["self"] (defScope s_Line_prices_now) := ⟨rfl, rfl, rfl, by decide +kernel, rfl, by decide +kernel, by decide +kernel⟩
abbrev s_Line_taken_now : Stmt := inC (top 19) 9
theorem sc_Line_taken_now : FnScope ["self", "i"] ["self"] (defScope s_Line_taken_now) := ⟨rfl, rfl, rfl, by decide +kernel, rfl, by decide +kernel, by decide +kernel⟩
abbrev s_chosen_within : Stmt := top 20
theorem sc_chosen_within : FnScope ["spans", "limits", "own_limits", "most", "line", "unit", "limit"] ["spans", "limits"] (defScope s_chosen_within) := ⟨rfl, rfl, rfl, by decide +kernel, rfl, by decide +kernel, by decide +kernel⟩
abbrev s_Seam_leaf : Stmt := inC (top 24) 4
theorem sc_Seam_leaf : FnScope ["self", "inside", "moments", "limits", "chosen", "prices", "choice", "worth", "moment", "i", "one", "k"] ["self", "inside"] (defScope s_Seam_leaf) := ⟨rfl, rfl, rfl, by decide +kernel, rfl, by decide +kernel, by decide +kernel⟩
abbrev s_Seam_tree : Stmt := inC (top 24) 5
theorem sc_Seam_tree : FnScope ["self", "at", "inside", "moment", "i"] ["self", "at", "inside"] (defScope s_Seam_tree) := ⟨rfl, rfl, rfl, by decide +kernel, rfl, by decide +kernel, by decide +kernel⟩
abbrev s_ring_most : Stmt := top 25
theorem sc_ring_most : FnScope ["ring", "benches", "seam", "tree"] ["ring", "benches"] (defScope s_ring_most) := ⟨rfl, rfl, rfl, by decide +kernel, rfl, by decide +kernel, by decide +kernel⟩
abbrev s__law_refused : Stmt := top 43
theorem sc__law_refused : FnScope ["_law_ring_here", "_law_benches", "e"] ["_law_ring_here", "_law_benches"] (defScope s__law_refused) := ⟨rfl, rfl, rfl, by decide +kernel, rfl, by decide +kernel, by decide +kernel⟩
abbrev s__law_moments : Stmt := top 32
theorem sc__law_moments : FnScope ["_law_ring_here", "_law_i", "_law_name_here", "_law_begin", "_law_span", "_law_worth", "_law_k"] ["_law_ring_here", "_law_i"] (defScope s__law_moments) := ⟨rfl, rfl, rfl, by decide +kernel, rfl, by decide +kernel, by decide +kernel⟩
abbrev s__law_is_light : Stmt := top 33
theorem sc__law_is_light : FnScope ["_law_ring_here", "_law_some", "_law_benches", "_law_loads", "_law_i", "_law_moment"] ["_law_ring_here", "_law_some", "_law_benches"] (defScope s__law_is_light) := ⟨rfl, rfl, rfl, by decide +kernel, rfl, by decide +kernel, by decide +kernel⟩
abbrev s__law_ring_choices : Stmt := top 34
theorem sc__law_ring_choices : FnScope ["_law_ring_here", "_law_benches", "_law_found", "_law_i", "_law_more", "_law_some"] ["_law_ring_here", "_law_benches"] (defScope s__law_ring_choices) := ⟨rfl, rfl, rfl, by decide +kernel, rfl, by decide +kernel, by decide +kernel⟩
abbrev s__law_whole : Stmt := top 37
theorem sc__law_whole : FnScope ["_law_found"] ["_law_found"] (defScope s__law_whole) := ⟨rfl, rfl, rfl, by decide +kernel, rfl, by decide +kernel, by decide +kernel⟩
abbrev s__law_number : Stmt := top 38
theorem sc__law_number : FnScope ["_law_thing", "_law_many_here"] ["_law_thing", "_law_many_here"] (defScope s__law_number) := ⟨rfl, rfl, rfl, by decide +kernel, rfl, by decide +kernel, by decide +kernel⟩
abbrev s__law_is_paper : Stmt := top 30
theorem sc__law_is_paper : FnScope ["_law_thing", "_law_last", "_law_one", "_law_number_here"] ["_law_thing"] (defScope s__law_is_paper) := ⟨rfl, rfl, rfl, by decide +kernel, rfl, by decide +kernel, by decide +kernel⟩
abbrev s__law_ring_rest : Stmt := top 35
theorem sc__law_ring_rest : FnScope ["_law_ring_here", "_law_i", "_law_paper", "_law_name_here", "_law_begin", "_law_span", "_law_worth", "_law_toll", "_law_moment", "_law_price"] ["_law_ring_here", "_law_i", "_law_paper"] (defScope s__law_ring_rest) := ⟨rfl, rfl, rfl, by decide +kernel, rfl, by decide +kernel, by decide +kernel⟩
abbrev s__law_priced : Stmt := top 39
theorem sc__law_priced : FnScope ["_law_ring_here", "_law_benches", "_law_paper", "_law_put", "_law_inside", "_law_outside", "_law_found", "_law_moment", "_law_price", "_law_free", "_law_i"] ["_law_ring_here", "_law_benches", "_law_paper", "_law_put"] (defScope s__law_priced) := ⟨rfl, rfl, rfl, by decide +kernel, rfl, by decide +kernel, by decide +kernel⟩
abbrev s__law_walk : Stmt := top 40
theorem sc__law_walk : FnScope ["_law_ring_here", "_law_benches", "_law_tree", "_law_put", "_law_deep", "_law_inside", "_law_outside", "_law_one", "_law_other"] ["_law_ring_here", "_law_benches", "_law_tree", "_law_put", "_law_deep"] (defScope s__law_walk) := ⟨rfl, rfl, rfl, by decide +kernel, rfl, by decide +kernel, by decide +kernel⟩
abbrev s__law_many : Stmt := top 41
theorem sc__law_many : FnScope ["_law_tree", "_law_row", "_law_many_here", "_law_one"] ["_law_tree"] (defScope s__law_many) := ⟨rfl, rfl, rfl, by decide +kernel, rfl, by decide +kernel, by decide +kernel⟩
abbrev s__law_right : Stmt := top 42
theorem sc__law_right : FnScope ["_law_ring_here", "_law_benches", "_law_found", "_law_best", "_law_choice", "_law_claims", "_law_i"] ["_law_ring_here", "_law_benches", "_law_found", "_law_best"] (defScope s__law_right) := ⟨rfl, rfl, rfl, by decide +kernel, rfl, by decide +kernel, by decide +kernel⟩
abbrev s__law_lists : Stmt := top 45
theorem sc__law_lists : FnScope ["_law_thing", "_law_found", "_law_part"] ["_law_thing"] (defScope s__law_lists) := ⟨rfl, rfl, rfl, by decide +kernel, rfl, by decide +kernel, by decide +kernel⟩
abbrev s__law_apart : Stmt := top 46
theorem sc__law_apart : FnScope ["_law_found", "_law_lists_here", "_law_sizes", "_law_one", "_law_size"] ["_law_found"] (defScope s__law_apart) := ⟨rfl, rfl, rfl, by decide +kernel, rfl, by decide +kernel, by decide +kernel⟩
abbrev s__law_greater : Stmt := top 47
theorem sc__law_greater : FnScope ["_law_state", "_law_ring_here", "_law_benches", "_law_numbers", "_law_found", "_law_moment"] ["_law_state"] (defScope s__law_greater) := ⟨rfl, rfl, rfl, by decide +kernel, rfl, by decide +kernel, by decide +kernel⟩
abbrev s_law : Stmt := top 48
theorem sc_law : FnScope ["_law_script", "_law_k", "_law_state", "_law_way", "_law_ring_here", "_law_benches", "_law_numbers", "_law_handed", "_law_choices", "_law_best", "_law_found", "_law_kept", "_law_moment", "_law_some", "_law_i"] ["_law_script"] (defScope s_law) := ⟨rfl, rfl, rfl, by decide +kernel, rfl, by decide +kernel, by decide +kernel⟩
section
variable {P : Program} {w : World} {K : PySem.W.Frag} {mg : Str → Option Value} {base : Heap}
theorem ok__law_begun (Df_ : Df K mg "_law_begun" s__law_begun) (b_len : mg "len" = none) (b_max : mg "max" = none) : Cal P w K mg base 1 "_law_begun" ["_law_script", "_law_k"] (F__law_begun) := by
  refine cal_ok (N := ["_law_script", "_law_k", "_law_cell", "_law_number_here", "_law_seed"]) (es := r__law_begun) Df_ sc__law_begun (fun _ _ _ _ _ _ us hl => match us, hl with | [_, _], _ => rfl) (fun f cdv A outer s H E hr => ?_) d__law_begun
  exact (jss_cons (js_set (i := 2) sc__law_begun.nd rfl (by first | exact Or.inl rfl | exact Or.inr rfl) j_int)
      (jss_cons (js_if (jt_cmp op_lt lo_lt (jv 1) (j_cb call_len lc_len rfl b_len PySem.boot_len (ja_cons (jv 0) ja_nil)) (nomark _)) (jss_one (js_set (i := 2) sc__law_begun.nd rfl (by first | exact Or.inl rfl | exact Or.inr rfl) (j_ix (jv 0) (jv 1)))) jss_nil)
      (jss_cons (js_set (i := 3) sc__law_begun.nd rfl (by first | exact Or.inl rfl | exact Or.inr rfl) (j_cb (call_max2 rfl) lc_max2 rfl b_max (by decide +kernel) (ja_cons (jv 2) (ja_cons (j_sub (j_neg j_int) (jv 2)) ja_nil))))
      (jss_cons (js_set (i := 4) sc__law_begun.nd rfl (by first | exact Or.inl rfl | exact Or.inr rfl) (j_mod (j_add (j_add (jv 3) (j_mul (j_mul j_int (jv 1)) (jv 1))) j_int) j_int))
      (jss_cons (js_if (jt_cmp op_lt lo_lt (jv 3) (j_pow j_int j_int) (nomark _)) (jss_one (js_set (i := 3) sc__law_begun.nd rfl (by first | exact Or.inl rfl | exact Or.inr rfl) j_int)) jss_nil)
      (jss_one (js_ret (j_lstO (ja_cons (jv 3) (ja_cons (jv 4) (ja_cons j_int ja_nil)))))))))))
theorem ok__law_take (Df_ : Df K mg "_law_take" s__law_take) (b_range : mg "range" = none) (b_int : mg "int" = none) : Cal P w K mg base 1 "_law_take" ["_law_state", "_law_many_here"] (F__law_take) := by
  refine cal_ok (N := ["_law_state", "_law_many_here", "_law_found", "_law_made", "_law_turn"]) (es := r__law_take) Df_ sc__law_take (fun _ _ _ _ _ _ us hl => match us, hl with | [_, _], _ => rfl) (fun f cdv A outer s H E hr => ?_) d__law_take
  exact (jss_cons (js_if (jt_cmp op_gt lo_gt (j_ix (jv 0) j_int) j_int (nomark _)) (jss_cons (js_set (i := 2) sc__law_take.nd rfl (by first | exact Or.inl rfl | exact Or.inr rfl) (j_mod (j_ix (jv 0) j_int) (jv 1)))
      (jss_cons (js_setI (j_div (j_ix (jv 0) j_int) (jv 1)) (jv 0) j_int)
      (jss_one (js_ret (jv 2))))) jss_nil)
      (jss_cons (js_set (i := 3) sc__law_take.nd rfl (by first | exact Or.inl rfl | exact Or.inr rfl) j_int)
      (jss_cons (js_for PassesOwn.never rfl (ji_range1 rfl b_range (ja_cons (j_add j_int (j_ct call_int1 lc_int1 rfl b_int (by decide +kernel) (ja_cons (j_cmp op_gt lo_gt (jv 1) (j_pow j_int j_int) (nomark _)) ja_nil))) ja_nil)) (jg_name (i := 4) sc__law_take.nd rfl (by first | exact Or.inl rfl | exact Or.inr rfl))
      (jss_cons (js_setI (j_add (j_ix (jv 0) j_int) j_int) (jv 0) j_int)
      (jss_cons (js_setI (j_mod (j_add (j_mul (j_ix (jv 0) j_int) j_int) (j_mul j_int (j_ix (jv 0) j_int))) j_int) (jv 0) j_int)
      (jss_one (js_set (i := 3) sc__law_take.nd rfl (by first | exact Or.inl rfl | exact Or.inr rfl) (j_add (j_mul (jv 3) j_int) (j_mod (j_mul (j_ix (jv 0) j_int) (j_ix (jv 0) j_int)) j_int)))))))
      (jss_one (js_ret (j_mod (j_div (jv 3) j_int) (jv 1)))))))
theorem ok__law_round (Df_ : Df K mg "_law_round" s__law_round) (b_range : mg "range" = none) (c__law_take : Cal P w K mg base 1 "_law_take" ["_law_state", "_law_many_here"] F__law_take) : Cal P w K mg base 2 "_law_round" ["_law_state", "_law_many_here"] (F__law_round) := by
  refine cal_ok (N := ["_law_state", "_law_many_here", "_law_size", "_law_stretches", "_law_j", "_law_begin"]) (es := r__law_round) Df_ sc__law_round (fun _ _ _ _ _ _ us hl => match us, hl with | [_, _], _ => rfl) (fun f cdv A outer s H E hr => ?_) d__law_round
  exact (jss_cons (js_set (i := 2) sc__law_round.nd rfl (by first | exact Or.inl rfl | exact Or.inr rfl) (j_add j_int (j_cal c__law_take (hr.mono (by decide)) rfl (ja_cons (jv 0) (ja_cons j_int ja_nil)))))
      (jss_cons (js_set (i := 3) sc__law_round.nd rfl (by first | exact Or.inl rfl | exact Or.inr rfl) (j_lstO ja_nil))
      (jss_cons (js_for PassesOwn.never rfl (ji_range1 rfl b_range (ja_cons (jv 1) ja_nil)) (jg_name (i := 4) sc__law_round.nd rfl (by first | exact Or.inl rfl | exact Or.inr rfl))
      (jss_one (js_expr (j_bm PySem.F.plainAttrs_list PySem.F.slot_list_append PySem.F.type_list_append mt_append lm_app (jv 3) (ja_cons (j_tup (ja_cons (j_add j_str (j_ix j_str (jv 4))) (ja_cons (j_mod (jv 4) (jv 2)) (ja_cons (jv 2) (ja_cons (j_cal c__law_take (hr.mono (by decide)) rfl (ja_cons (jv 0) (ja_cons j_int ja_nil))) ja_nil))))) ja_nil)))))
      (jss_cons (js_for PassesOwn.never rfl (ji_range1 rfl b_range (ja_cons (j_cal c__law_take (hr.mono (by decide)) rfl (ja_cons (jv 0) (ja_cons j_int ja_nil))) ja_nil)) (jg_name (i := 4) sc__law_round.nd rfl (by first | exact Or.inl rfl | exact Or.inr rfl))
      (jss_cons (js_set (i := 5) sc__law_round.nd rfl (by first | exact Or.inl rfl | exact Or.inr rfl) (j_cal c__law_take (hr.mono (by decide)) rfl (ja_cons (jv 0) (ja_cons (jv 2) ja_nil))))
      (jss_one (js_expr (j_bm PySem.F.plainAttrs_list PySem.F.slot_list_append PySem.F.type_list_append mt_append lm_app (jv 3) (ja_cons (j_tup (ja_cons (j_add j_str (j_ix j_str (jv 4))) (ja_cons (jv 5) (ja_cons (j_add j_int (j_cal c__law_take (hr.mono (by decide)) rfl (ja_cons (jv 0) (ja_cons (jv 2) ja_nil)))) (ja_cons (j_cal c__law_take (hr.mono (by decide)) rfl (ja_cons (jv 0) (ja_cons j_int ja_nil))) ja_nil))))) ja_nil))))))
      (jss_one (js_ret (j_tup (ja_cons (jv 2) (ja_cons (jv 3) ja_nil)))))))))
theorem ok__law_name (Df_ : Df K mg "_law_name" s__law_name) (b_range : mg "range" = none) (c__law_take : Cal P w K mg base 1 "_law_take" ["_law_state", "_law_many_here"] F__law_take) : Cal P w K mg base 2 "_law_name" ["_law_state", "_law_k"] (F__law_name) := by
  refine cal_ok (N := ["_law_state", "_law_k", "_law_letters", "_law_spelt", "_law_j"]) (es := r__law_name) Df_ sc__law_name (fun _ _ _ _ _ _ us hl => match us, hl with | [_, _], _ => rfl) (fun f cdv A outer s H E hr => ?_) d__law_name
  exact (jss_cons (js_set (i := 2) sc__law_name.nd rfl (by first | exact Or.inl rfl | exact Or.inr rfl) j_str)
      (jss_cons (js_set (i := 3) sc__law_name.nd rfl (by first | exact Or.inl rfl | exact Or.inr rfl) j_str)
      (jss_cons (js_for PassesOwn.never rfl (ji_range1 rfl b_range (ja_cons (j_cal c__law_take (hr.mono (by decide)) rfl (ja_cons (jv 0) (ja_cons j_int ja_nil))) ja_nil)) (jg_name (i := 4) sc__law_name.nd rfl (by first | exact Or.inl rfl | exact Or.inr rfl))
      (jss_one (js_set (i := 3) sc__law_name.nd rfl (by first | exact Or.inl rfl | exact Or.inr rfl) (j_add (jv 3) (j_ix (jv 2) (j_cal c__law_take (hr.mono (by decide)) rfl (ja_cons (jv 0) (ja_cons j_int ja_nil))))))))
      (jss_one (js_ret (j_add (jv 3) (j_ix (jv 2) (jv 1))))))))
theorem ok__law_ring (Df_ : Df K mg "_law_ring" s__law_ring) (b_range : mg "range" = none) (b_min : mg "min" = none) (c__law_take : Cal P w K mg base 1 "_law_take" ["_law_state", "_law_many_here"] F__law_take) (c__law_name : Cal P w K mg base 2 "_law_name" ["_law_state", "_law_k"] F__law_name) : Cal P w K mg base 3 "_law_ring" ["_law_state", "_law_most"] (F__law_ring) := by
  refine cal_ok (N := ["_law_state", "_law_most", "_law_size", "_law_stretches", "_law_k", "_law_begin", "_law_span", "_law_worth"]) (es := r__law_ring) Df_ sc__law_ring (fun _ _ _ _ _ _ us hl => match us, hl with | [_, _], _ => rfl) (fun f cdv A outer s H E hr => ?_) d__law_ring
  have hu := hr.units
  exact (jss_cons (js_set (i := 2) sc__law_ring.nd rfl (by first | exact Or.inl rfl | exact Or.inr rfl) (j_add j_int (j_cal c__law_take (hr.mono (by decide)) rfl (ja_cons (jv 0) (ja_cons (j_ix (j_lst (ja_cons j_int (ja_cons j_int (ja_cons j_int (ja_cons j_int ja_nil))))) (j_cal c__law_take (hr.mono (by decide)) rfl (ja_cons (jv 0) (ja_cons j_int ja_nil)))) ja_nil)))))
      (jss_cons (js_set (i := 3) sc__law_ring.nd rfl (by first | exact Or.inl rfl | exact Or.inr rfl) (j_lstO ja_nil))
      (jss_cons (js_for PassesOwn.never rfl (ji_range1 rfl b_range (ja_cons (j_cal c__law_take (hr.mono (by decide)) rfl (ja_cons (jv 0) (ja_cons (j_add (jv 1) j_int) ja_nil))) ja_nil)) (jg_name (i := 4) sc__law_ring.nd rfl (by first | exact Or.inl rfl | exact Or.inr rfl))
      (jss_cons (js_set (i := 5) sc__law_ring.nd rfl (by first | exact Or.inl rfl | exact Or.inr rfl) (j_cal c__law_take (hr.mono (by decide)) rfl (ja_cons (jv 0) (ja_cons (jv 2) ja_nil))))
      (jss_cons (js_set (i := 6) sc__law_ring.nd rfl (by first | exact Or.inl rfl | exact Or.inr rfl) (j_add j_int (j_cal c__law_take (hr.mono (by decide)) rfl (ja_cons (jv 0) (ja_cons (j_ix (j_lst (ja_cons (jv 2) (ja_cons (j_add j_int (j_div (jv 2) j_int)) ja_nil))) (j_cal c__law_take (hr.mono (by decide)) rfl (ja_cons (jv 0) (ja_cons j_int ja_nil)))) ja_nil)))))
      (jss_cons (js_if (JW.jt (jw_and (jt_cmp op_gt lo_gt (jv 4) j_int (nomark _)) (jw_and1 (jt_cmp (op_eqD hu) lo_eq (j_cal c__law_take (hr.mono (by decide)) rfl (ja_cons (jv 0) (ja_cons j_int ja_nil))) j_int (nomark _))))) (jss_one (js_asgTup (j_slT (j_ix (jv 3) (j_neg j_int)) (jo_some j_int) (jo_some j_int)) (jg_tup rfl (jgs_cons (jg_name (i := 5) sc__law_ring.nd rfl (by first | exact Or.inl rfl | exact Or.inr rfl)) (jgs_cons (jg_name (i := 6) sc__law_ring.nd rfl (by first | exact Or.inl rfl | exact Or.inr rfl)) jgs_nil))))) jss_nil)
      (jss_cons (js_set (i := 7) sc__law_ring.nd rfl (by first | exact Or.inl rfl | exact Or.inr rfl) (j_cal c__law_take (hr.mono (by decide)) rfl (ja_cons (jv 0) (ja_cons (j_ix (j_lst (ja_cons j_int (ja_cons j_int (ja_cons j_int (ja_cons (j_add (j_pow j_int j_int) j_int) ja_nil))))) (j_cal c__law_take (hr.mono (by decide)) rfl (ja_cons (jv 0) (ja_cons j_int ja_nil)))) ja_nil))))
      (jss_one (js_expr (j_bm PySem.F.plainAttrs_list PySem.F.slot_list_append PySem.F.type_list_append mt_append lm_app (jv 3) (ja_cons (j_tup (ja_cons (j_cal c__law_name (hr.mono (by decide)) rfl (ja_cons (jv 0) (ja_cons (jv 4) ja_nil))) (ja_cons (jv 5) (ja_cons (j_cb (call_min2 rfl) lc_min2 rfl b_min (by decide +kernel) (ja_cons (jv 2) (ja_cons (jv 6) ja_nil))) (ja_cons (jv 7) ja_nil))))) ja_nil)))))))))
      (jss_one (js_ret (j_tup (ja_cons (jv 2) (ja_cons (jv 3) ja_nil))))))))
theorem ok__law_load_in (Df_ : Df K mg "_law_load_in" s__law_load_in) (b_len : mg "len" = none) : Cal P w K mg base 1 "_law_load_in" ["_law_ring_here", "_law_inside", "_law_moment"] (F__law_load_in) := by
  refine cal_ok (N := ["_law_ring_here", "_law_inside", "_law_moment", "_law_size", "_law_stretches", "_law_i"]) (es := r__law_load_in) Df_ sc__law_load_in (fun _ _ _ _ _ _ us hl => match us, hl with | [_, _, _], _ => rfl) (fun f cdv A outer s H E hr => ?_) d__law_load_in
  exact (jss_cons (js_asgTup (jv 0) (jg_tup rfl (jgs_cons (jg_name (i := 3) sc__law_load_in.nd rfl (by first | exact Or.inl rfl | exact Or.inr rfl)) (jgs_cons (jg_name (i := 4) sc__law_load_in.nd rfl (by first | exact Or.inl rfl | exact Or.inr rfl)) jgs_nil))))
      (jss_one (js_ret (j_cb call_len lc_len rfl b_len PySem.boot_len (ja_cons (j_lc (own := [("_law_i", 5)]) rfl sc__law_load_in.nd (ji_list (jv 1)) (blkOk_by (own := [("_law_i", 5)]) (N := ["_law_ring_here", "_law_inside", "_law_moment", "_law_size", "_law_stretches", "_law_i"]) (sc := defScope s__law_load_in) (by decide +kernel)) (fun _ _ _ _ _ => (jg_name (i := 5) sc__law_load_in.nd rfl (by first | exact Or.inl rfl | exact Or.inr rfl))) (fun _ _ _ _ _ => (jts_one (jt_cmp op_lt lo_lt (j_mod (j_sub (jv 2) (j_ix (j_ix (jv 4) (jv 5)) j_int)) (jv 3)) (j_ix (j_ix (jv 4) (jv 5)) j_int) (nomark _)))) (fun _ _ _ _ _ => (jv 5))) ja_nil)))))
theorem ok_is_over_ring (Df_ : Df K mg "is_over_ring" s_is_over_ring) : Cal P w K mg base 1 "is_over_ring" ["ring", "i", "moment"] (F_is_over_ring) := by
  refine cal_ok (N := ["ring", "i", "moment", "name", "begin", "span", "worth"]) (es := r_is_over_ring) Df_ sc_is_over_ring (fun _ _ _ _ _ _ us hl => match us, hl with | [_, _, _], _ => rfl) (fun f cdv A outer s H E hr => ?_) d_is_over_ring
  exact (jss_cons (js_asgTup (j_ix (j_ix (jv 0) j_int) (jv 1)) (jg_tup rfl (jgs_cons (jg_name (i := 3) sc_is_over_ring.nd rfl (by first | exact Or.inl rfl | exact Or.inr rfl)) (jgs_cons (jg_name (i := 4) sc_is_over_ring.nd rfl (by first | exact Or.inl rfl | exact Or.inr rfl)) (jgs_cons (jg_name (i := 5) sc_is_over_ring.nd rfl (by first | exact Or.inl rfl | exact Or.inr rfl)) (jgs_cons (jg_name (i := 6) sc_is_over_ring.nd rfl (by first | exact Or.inl rfl | exact Or.inr rfl)) jgs_nil))))))
      (jss_one (js_ret (j_cmp op_lt lo_lt (j_mod (j_sub (jv 2) (jv 4)) (j_ix (jv 0) j_int)) (jv 5) (nomark _)))))
theorem ok_load_on (Df_ : Df K mg "load_on" s_load_on) (b_len : mg "len" = none) (c_is_over_ring : Cal P w K mg base 1 "is_over_ring" ["ring", "i", "moment"] F_is_over_ring) : Cal P w K mg base 2 "load_on" ["ring", "some", "moment"] (F_load_on) := by
  refine cal_ok (N := ["ring", "some", "moment", "i"]) (es := r_load_on) Df_ sc_load_on (fun _ _ _ _ _ _ us hl => match us, hl with | [_, _, _], _ => rfl) (fun f cdv A outer s H E hr => ?_) d_load_on
  exact (jss_one (js_ret (j_cb call_len lc_len rfl b_len PySem.boot_len (ja_cons (j_lc (own := [("i", 3)]) rfl sc_load_on.nd (ji_list (jv 1)) (blkOk_by (own := [("i", 3)]) (N := ["ring", "some", "moment", "i"]) (sc := defScope s_load_on) (by decide +kernel)) (fun _ _ _ _ _ => (jg_name (i := 3) sc_load_on.nd rfl (by first | exact Or.inl rfl | exact Or.inr rfl))) (fun _ _ _ _ _ => (jts_one (jt_tru (j_cal c_is_over_ring (hr.mono (by decide)) rfl (ja_cons (jv 0) (ja_cons (jv 3) (ja_cons (jv 2) ja_nil))))))) (fun _ _ _ _ _ => (jv 3))) ja_nil))))
theorem ok_ring_loads (Df_ : Df K mg "ring_loads" s_ring_loads) (b_range : mg "range" = none) (c_load_on : Cal P w K mg base 2 "load_on" ["ring", "some", "moment"] F_load_on) : Cal P w K mg base 3 "ring_loads" ["ring", "some"] (F_ring_loads) := by
  refine cal_ok (N := ["ring", "some", "moment"]) (es := r_ring_loads) Df_ sc_ring_loads (fun _ _ _ _ _ _ us hl => match us, hl with | [_, _], _ => rfl) (fun f cdv A outer s H E hr => ?_) d_ring_loads
  exact (jss_one (js_ret (j_lc (own := [("moment", 2)]) rfl sc_ring_loads.nd (ji_range1 rfl b_range (ja_cons (j_ix (jv 0) j_int) ja_nil)) (blkOk_by (own := [("moment", 2)]) (N := ["ring", "some", "moment"]) (sc := defScope s_ring_loads) (by decide +kernel)) (fun _ _ _ _ _ => (jg_name (i := 2) sc_ring_loads.nd rfl (by first | exact Or.inl rfl | exact Or.inr rfl))) (fun _ _ _ _ _ => jts_nil) (fun _ _ _ _ _ => (j_cal c_load_on (hr.mono (by decide)) rfl (ja_cons (jv 0) (ja_cons (jv 1) (ja_cons (jv 2) ja_nil))))))))
theorem ok_seam_of (Df_ : Df K mg "seam_of" s_seam_of) (b_list : mg "list" = none) (b_range : mg "range" = none) (b_len : mg "len" = none) (b_min : mg "min" = none) (c_ring_loads : Cal P w K mg base 3 "ring_loads" ["ring", "some"] F_ring_loads) : Cal P w K mg base 4 "seam_of" ["ring"] (F_seam_ofF) := by
  refine cal_ok (N := ["ring", "loads"]) (es := r_seam_ofF) Df_ sc_seam_of (fun _ _ _ _ _ _ us hl => match us, hl with | [_], _ => rfl) (fun f cdv A outer s H E hr => ?_) d_seam_ofF
  exact (jss_cons (js_set (i := 1) sc_seam_of.nd rfl (by first | exact Or.inl rfl | exact Or.inr rfl) (j_cal c_ring_loads (hr.mono (by decide)) rfl (ja_cons (jv 0) (ja_cons (j_listrange rfl b_list rfl b_range (j_cb call_len lc_len rfl b_len PySem.boot_len (ja_cons (j_ix (jv 0) j_int) ja_nil))) ja_nil))))
      (jss_one (js_ret (j_bm PySem.F.plainAttrs_list PySem.F.slot_list_index PySem.F.type_list_index mt_index lm_idxI (jv 1) (ja_cons (j_cb (cr_min rfl) lc_min rfl b_min (by decide +kernel) (ja_cons (jv 1) ja_nil)) ja_nil)))))
theorem ok_Seam___init__ (Df_ : DfM K "Seam" "__init__" "Seam.__init__" s_Seam___init__) (b_list : mg "list" = none) (b_range : mg "range" = none) (b_len : mg "len" = none) (kc_Seam : Cls K (He.ga K "Seam")) (kn_Seam_ring : NoAttr K (He.ga K "Seam") "ring") (kn_Seam_benches : NoAttr K (He.ga K "Seam") "benches") (kn_Seam_moment : NoAttr K (He.ga K "Seam") "moment") (kn_Seam_over_it : NoAttr K (He.ga K "Seam") "over_it") (kn_Seam_beside_it : NoAttr K (He.ga K "Seam") "beside_it") (kn_Seam_best : NoAttr K (He.ga K "Seam") "best") (c_seam_of : Cal P w K mg base 4 "seam_of" ["ring"] F_seam_ofF) (c_load_on : Cal P w K mg base 2 "load_on" ["ring", "some", "moment"] F_load_on) : ∃ fd, FK P w K mg base 5 (He.ma K (He.ga K "Seam") "__init__") fd ["self", "ring", "benches"] (F_Seam___init__F) ∧ Binds K fd ["self", "ring", "benches"] [] := by
  refine fk_meth (N := ["self", "ring", "benches", "numbers", "i"]) (es := r_Seam___init__F) Df_ sc_Seam___init__ (fun _ _ _ _ _ _ us hl => match us, hl with | [_, _, _], _ => rfl) (fun f cdv A outer s H E hr => ?_) d_Seam___init__F
  have hu := hr.units
  exact (jss_cons (js_fld kc_Seam kn_Seam_ring (jv 0) (jv 1))
      (jss_cons (js_fld kc_Seam kn_Seam_benches (jv 0) (jv 2))
      (jss_cons (js_fld kc_Seam kn_Seam_moment (jv 0) (j_cal c_seam_of (hr.mono (by decide)) rfl (ja_cons (jv 1) ja_nil)))
      (jss_cons (js_set (i := 3) sc_Seam___init__.nd rfl (by first | exact Or.inl rfl | exact Or.inr rfl) (j_listrange rfl b_list rfl b_range (j_cb call_len lc_len rfl b_len PySem.boot_len (ja_cons (j_ix (jv 1) j_int) ja_nil))))
      (jss_cons (js_fld kc_Seam kn_Seam_over_it (jv 0) (j_lc (own := [("i", 4)]) rfl sc_Seam___init__.nd (ji_list (jv 3)) (blkOk_by (own := [("i", 4)]) (N := ["self", "ring", "benches", "numbers", "i"]) (sc := defScope s_Seam___init__) (by decide +kernel)) (fun _ _ _ _ _ => (jg_name (i := 4) sc_Seam___init__.nd rfl (by first | exact Or.inl rfl | exact Or.inr rfl))) (fun _ _ _ _ _ => (jts_one (jt_cmp (op_eqD hu) lo_eq (j_cal c_load_on (hr.mono (by decide)) rfl (ja_cons (jv 1) (ja_cons (j_lst (ja_cons (jv 4) ja_nil)) (ja_cons (j_fld kc_Seam kn_Seam_moment (jv 0)) ja_nil)))) j_int (nomark _)))) (fun _ _ _ _ _ => (jv 4))))
      (jss_cons (js_fld kc_Seam kn_Seam_beside_it (jv 0) (j_lc (own := [("i", 4)]) rfl sc_Seam___init__.nd (ji_list (jv 3)) (blkOk_by (own := [("i", 4)]) (N := ["self", "ring", "benches", "numbers", "i"]) (sc := defScope s_Seam___init__) (by decide +kernel)) (fun _ _ _ _ _ => (jg_name (i := 4) sc_Seam___init__.nd rfl (by first | exact Or.inl rfl | exact Or.inr rfl))) (fun _ _ _ _ _ => (jts_one (jt_cmp op_notIn_seq lo_in (jv 4) (j_fld kc_Seam kn_Seam_over_it (jv 0)) rfl))) (fun _ _ _ _ _ => (jv 4))))
      (jss_one (js_fld kc_Seam kn_Seam_best (jv 0) j_non))))))))
theorem ok_Seam_crowded (Df_ : DfM K "Seam" "crowded" "Seam.crowded" s_Seam_crowded) (b_range : mg "range" = none) (kc_Seam : Cls K (He.ga K "Seam")) (kn_Seam_ring : NoAttr K (He.ga K "Seam") "ring") (kn_Seam_benches : NoAttr K (He.ga K "Seam") "benches") (c_load_on : Cal P w K mg base 2 "load_on" ["ring", "some", "moment"] F_load_on) : ∃ fd, FK P w K mg base 3 (He.ma K (He.ga K "Seam") "crowded") fd ["self", "inside"] (F_Seam_crowdedF) ∧ Binds K fd ["self", "inside"] [] := by
  refine fk_meth (N := ["self", "inside", "moment"]) (es := r_Seam_crowdedF) Df_ sc_Seam_crowded (fun _ _ _ _ _ _ us hl => match us, hl with | [_, _], _ => rfl) (fun f cdv A outer s H E hr => ?_) d_Seam_crowdedF
  exact (jss_cons (js_for PassesOwn.never rfl (ji_range1 rfl b_range (ja_cons (j_ix (j_fld kc_Seam kn_Seam_ring (jv 0)) j_int) ja_nil)) (jg_name (i := 2) sc_Seam_crowded.nd rfl (by first | exact Or.inl rfl | exact Or.inr rfl))
      (jss_one (js_if (jt_cmp op_gt lo_gt (j_cal c_load_on (hr.mono (by decide)) rfl (ja_cons (j_fld kc_Seam kn_Seam_ring (jv 0)) (ja_cons (jv 1) (ja_cons (jv 2) ja_nil)))) (j_fld kc_Seam kn_Seam_benches (jv 0)) (nomark _)) (jss_one (js_ret (jv 2))) jss_nil)))
      (jss_one (js_ret j_non)))
theorem ok_Seam_line_moments (Df_ : DfM K "Seam" "line_moments" "Seam.line_moments" s_Seam_line_moments) (b_range : mg "range" = none) (kc_Seam : Cls K (He.ga K "Seam")) (kn_Seam_ring : NoAttr K (He.ga K "Seam") "ring") (kn_Seam_moment : NoAttr K (He.ga K "Seam") "moment") : ∃ fd, FK P w K mg base 1 (He.ma K (He.ga K "Seam") "line_moments") fd ["self"] (F_Seam_line_moments) ∧ Binds K fd ["self"] [] := by
  refine fk_meth (N := ["self", "k"]) (es := r_Seam_line_moments) Df_ sc_Seam_line_moments (fun _ _ _ _ _ _ us hl => match us, hl with | [_], _ => rfl) (fun f cdv A outer s H E hr => ?_) d_Seam_line_moments
  exact (jss_one (js_ret (j_lc (own := [("k", 1)]) rfl sc_Seam_line_moments.nd (ji_range1 rfl b_range (ja_cons (j_sub (j_ix (j_fld kc_Seam kn_Seam_ring (jv 0)) j_int) j_int) ja_nil)) (blkOk_by (own := [("k", 1)]) (N := ["self", "k"]) (sc := defScope s_Seam_line_moments) (by decide +kernel)) (fun _ _ _ _ _ => (jg_name (i := 1) sc_Seam_line_moments.nd rfl (by first | exact Or.inl rfl | exact Or.inr rfl))) (fun _ _ _ _ _ => jts_nil) (fun _ _ _ _ _ => (j_mod (j_add (j_add (j_fld kc_Seam kn_Seam_moment (jv 0)) j_int) (jv 1)) (j_ix (j_fld kc_Seam kn_Seam_ring (jv 0)) j_int))))))
theorem ok_Seam_line_spans (Df_ : DfM K "Seam" "line_spans" "Seam.line_spans" s_Seam_line_spans) (kc_Seam : Cls K (He.ga K "Seam")) (kn_Seam_beside_it : NoAttr K (He.ga K "Seam") "beside_it") (kn_Seam_ring : NoAttr K (He.ga K "Seam") "ring") (kn_Seam_moment : NoAttr K (He.ga K "Seam") "moment") : ∃ fd, FK P w K mg base 1 (He.ma K (He.ga K "Seam") "line_spans") fd ["self"] (F_Seam_line_spans) ∧ Binds K fd ["self"] [] := by
  refine fk_meth (N := ["self", "found", "i", "name", "begin", "span", "worth", "first"]) (es := r_Seam_line_spans) Df_ sc_Seam_line_spans (fun _ _ _ _ _ _ us hl => match us, hl with | [_], _ => rfl) (fun f cdv A outer s H E hr => ?_) d_Seam_line_spans
  exact (jss_cons (js_set (i := 1) sc_Seam_line_spans.nd rfl (by first | exact Or.inl rfl | exact Or.inr rfl) (j_lstO ja_nil))
      (jss_cons (js_for PassesOwn.never rfl (ji_list (j_fld kc_Seam kn_Seam_beside_it (jv 0))) (jg_name (i := 2) sc_Seam_line_spans.nd rfl (by first | exact Or.inl rfl | exact Or.inr rfl))
      (jss_cons (js_asgTup (j_ix (j_ix (j_fld kc_Seam kn_Seam_ring (jv 0)) j_int) (jv 2)) (jg_tup rfl (jgs_cons (jg_name (i := 3) sc_Seam_line_spans.nd rfl (by first | exact Or.inl rfl | exact Or.inr rfl)) (jgs_cons (jg_name (i := 4) sc_Seam_line_spans.nd rfl (by first | exact Or.inl rfl | exact Or.inr rfl)) (jgs_cons (jg_name (i := 5) sc_Seam_line_spans.nd rfl (by first | exact Or.inl rfl | exact Or.inr rfl)) (jgs_cons (jg_name (i := 6) sc_Seam_line_spans.nd rfl (by first | exact Or.inl rfl | exact Or.inr rfl)) jgs_nil))))))
      (jss_cons (js_set (i := 7) sc_Seam_line_spans.nd rfl (by first | exact Or.inl rfl | exact Or.inr rfl) (j_mod (j_sub (j_sub (jv 4) (j_fld kc_Seam kn_Seam_moment (jv 0))) j_int) (j_ix (j_fld kc_Seam kn_Seam_ring (jv 0)) j_int)))
      (jss_one (js_expr (j_bm PySem.F.plainAttrs_list PySem.F.slot_list_append PySem.F.type_list_append mt_append lm_app (jv 1) (ja_cons (j_tup (ja_cons (jv 7) (ja_cons (j_add (jv 7) (jv 5)) (ja_cons (jv 6) ja_nil)))) ja_nil)))))))
      (jss_one (js_ret (jv 1)))))
theorem ok_Line___init__ (Df_ : DfM K "Line" "__init__" "Line.__init__" s_Line___init__) (b_list : mg "list" = none) (b_sum : mg "sum" = none) (kc_Line : Cls K (He.ga K "Line")) (kn_Line_own_spans : NoAttr K (He.ga K "Line") "own_spans") (kn_Line_own_must : NoAttr K (He.ga K "Line") "own_must") (kn_Line_filled : NoAttr K (He.ga K "Line") "filled") (kn_Line_idle : NoAttr K (He.ga K "Line") "idle") (kn_Line_taken : NoAttr K (He.ga K "Line") "taken") (kn_Line_great : NoAttr K (He.ga K "Line") "great") : ∃ fd, FK P w K mg base 1 (He.ma K (He.ga K "Line") "__init__") fd ["self", "spans", "must"] (F_Line___init__) ∧ Binds K fd ["self", "spans", "must"] [] := by
  refine fk_meth (N := ["self", "spans", "must", "piece", "span", "begin", "end", "worth"]) (es := r_Line___init__) Df_ sc_Line___init__ (fun _ _ _ _ _ _ us hl => match us, hl with | [_, _, _], _ => rfl) (fun f cdv A outer s H E hr => ?_) d_Line___init__
  exact (jss_cons (js_fld kc_Line kn_Line_own_spans (jv 0) (j_ct call_list_of lc_list rfl b_list (by decide +kernel) (ja_cons (jv 1) ja_nil)))
      (jss_cons (js_fld kc_Line kn_Line_own_must (jv 0) (j_ct call_list_of lc_list rfl b_list (by decide +kernel) (ja_cons (jv 2) ja_nil)))
      (jss_cons (js_fld kc_Line kn_Line_filled (jv 0) (j_lcO (own := [("piece", 3)]) rfl sc_Line___init__.nd (ji_list (jv 2)) (blkOk_by (own := [("piece", 3)]) (N := ["self", "spans", "must", "piece", "span", "begin", "end", "worth"]) (sc := defScope s_Line___init__) (by decide +kernel)) (fun _ _ _ _ _ => (jg_name (i := 3) sc_Line___init__.nd rfl (by first | exact Or.inl rfl | exact Or.inr rfl))) (fun _ _ _ _ _ => jts_nil) (fun _ _ _ _ _ => j_int)))
      (jss_cons (js_fld kc_Line kn_Line_idle (jv 0) (j_lcO (own := [("piece", 3)]) rfl sc_Line___init__.nd (ji_list (jv 2)) (blkOk_by (own := [("piece", 3)]) (N := ["self", "spans", "must", "piece", "span", "begin", "end", "worth"]) (sc := defScope s_Line___init__) (by decide +kernel)) (fun _ _ _ _ _ => (jg_name (i := 3) sc_Line___init__.nd rfl (by first | exact Or.inl rfl | exact Or.inr rfl))) (fun _ _ _ _ _ => jts_nil) (fun _ _ _ _ _ => j_int)))
      (jss_cons (js_fld kc_Line kn_Line_taken (jv 0) (j_lcO (own := [("span", 4)]) rfl sc_Line___init__.nd (ji_list (jv 1)) (blkOk_by (own := [("span", 4)]) (N := ["self", "spans", "must", "piece", "span", "begin", "end", "worth"]) (sc := defScope s_Line___init__) (by decide +kernel)) (fun _ _ _ _ _ => (jg_name (i := 4) sc_Line___init__.nd rfl (by first | exact Or.inl rfl | exact Or.inr rfl))) (fun _ _ _ _ _ => jts_nil) (fun _ _ _ _ _ => j_bl)))
      (jss_one (js_fld kc_Line kn_Line_great (jv 0) (j_add j_int (j_cb (cr_sum rfl) lc_sum rfl b_sum (by decide +kernel) (ja_cons (j_lc (own := [("begin", 5), ("end", 6), ("worth", 7)]) rfl sc_Line___init__.nd (ji_list (jv 1)) (blkOk_by (own := [("begin", 5), ("end", 6), ("worth", 7)]) (N := ["self", "spans", "must", "piece", "span", "begin", "end", "worth"]) (sc := defScope s_Line___init__) (by decide +kernel)) (fun _ _ _ _ _ => (jg_tup rfl (jgs_cons (jg_name (i := 5) sc_Line___init__.nd rfl (by first | exact Or.inl rfl | exact Or.inr rfl)) (jgs_cons (jg_name (i := 6) sc_Line___init__.nd rfl (by first | exact Or.inl rfl | exact Or.inr rfl)) (jgs_cons (jg_name (i := 7) sc_Line___init__.nd rfl (by first | exact Or.inl rfl | exact Or.inr rfl)) jgs_nil))))) (fun _ _ _ _ _ => jts_nil) (fun _ _ _ _ _ => (jv 7))) ja_nil))))))))))
theorem ok_Line_piece_arcs (Df_ : DfM K "Line" "piece_arcs" "Line.piece_arcs" s_Line_piece_arcs) (kc_Line : Cls K (He.ga K "Line")) (kn_Line_filled : NoAttr K (He.ga K "Line") "filled") (kn_Line_own_must : NoAttr K (He.ga K "Line") "own_must") (kn_Line_great : NoAttr K (He.ga K "Line") "great") (kn_Line_idle : NoAttr K (He.ga K "Line") "idle") : ∃ fd, FK P w K mg base 1 (He.ma K (He.ga K "Line") "piece_arcs") fd ["self", "k"] (F_Line_piece_arcs) ∧ Binds K fd ["self", "k"] [] := by
  refine fk_meth (N := ["self", "k", "found"]) (es := r_Line_piece_arcs) Df_ sc_Line_piece_arcs (fun _ _ _ _ _ _ us hl => match us, hl with | [_, _], _ => rfl) (fun f cdv A outer s H E hr => ?_) d_Line_piece_arcs
  exact (jss_cons (js_set (i := 2) sc_Line_piece_arcs.nd rfl (by first | exact Or.inl rfl | exact Or.inr rfl) (j_lstO (ja_cons (j_tup (ja_cons (jv 1) (ja_cons (j_add (jv 1) j_int) (ja_cons j_int (ja_cons j_str (ja_cons (jv 1) ja_nil)))))) ja_nil)))
      (jss_cons (js_if (jt_cmp op_lt lo_lt (j_ix (j_fld kc_Line kn_Line_filled (jv 0)) (jv 1)) (j_ix (j_fld kc_Line kn_Line_own_must (jv 0)) (jv 1)) (nomark _)) (jss_one (js_expr (j_bm PySem.F.plainAttrs_list PySem.F.slot_list_append PySem.F.type_list_append mt_append lm_app (jv 2) (ja_cons (j_tup (ja_cons (jv 1) (ja_cons (j_add (jv 1) j_int) (ja_cons (j_fld kc_Line kn_Line_great (jv 0)) (ja_cons j_str (ja_cons (jv 1) ja_nil)))))) ja_nil)))) jss_nil)
      (jss_cons (js_if (jt_cmp op_gt lo_gt (j_ix (j_fld kc_Line kn_Line_idle (jv 0)) (jv 1)) j_int (nomark _)) (jss_one (js_expr (j_bm PySem.F.plainAttrs_list PySem.F.slot_list_append PySem.F.type_list_append mt_append lm_app (jv 2) (ja_cons (j_tup (ja_cons (j_add (jv 1) j_int) (ja_cons (jv 1) (ja_cons j_int (ja_cons j_str (ja_cons (jv 1) ja_nil)))))) ja_nil)))) jss_nil)
      (jss_cons (js_if (jt_cmp op_gt lo_gt (j_ix (j_fld kc_Line kn_Line_filled (jv 0)) (jv 1)) j_int (nomark _)) (jss_one (js_expr (j_bm PySem.F.plainAttrs_list PySem.F.slot_list_append PySem.F.type_list_append mt_append lm_app (jv 2) (ja_cons (j_tup (ja_cons (j_add (jv 1) j_int) (ja_cons (jv 1) (ja_cons (j_sub j_int (j_fld kc_Line kn_Line_great (jv 0))) (ja_cons j_str (ja_cons (jv 1) ja_nil)))))) ja_nil)))) jss_nil)
      (jss_one (js_ret (jv 2)))))))
theorem ok_Line_span_arc (Df_ : DfM K "Line" "span_arc" "Line.span_arc" s_Line_span_arc) (kc_Line : Cls K (He.ga K "Line")) (kn_Line_own_spans : NoAttr K (He.ga K "Line") "own_spans") (kn_Line_taken : NoAttr K (He.ga K "Line") "taken") : ∃ fd, FK P w K mg base 1 (He.ma K (He.ga K "Line") "span_arc") fd ["self", "i"] (F_Line_span_arc) ∧ Binds K fd ["self", "i"] [] := by
  refine fk_meth (N := ["self", "i", "begin", "end", "worth"]) (es := r_Line_span_arc) Df_ sc_Line_span_arc (fun _ _ _ _ _ _ us hl => match us, hl with | [_, _], _ => rfl) (fun f cdv A outer s H E hr => ?_) d_Line_span_arc
  exact (jss_cons (js_asgTup (j_ix (j_fld kc_Line kn_Line_own_spans (jv 0)) (jv 1)) (jg_tup rfl (jgs_cons (jg_name (i := 2) sc_Line_span_arc.nd rfl (by first | exact Or.inl rfl | exact Or.inr rfl)) (jgs_cons (jg_name (i := 3) sc_Line_span_arc.nd rfl (by first | exact Or.inl rfl | exact Or.inr rfl)) (jgs_cons (jg_name (i := 4) sc_Line_span_arc.nd rfl (by first | exact Or.inl rfl | exact Or.inr rfl)) jgs_nil)))))
      (jss_cons (js_if (jt_tru (j_ix (j_fld kc_Line kn_Line_taken (jv 0)) (jv 1))) (jss_one (js_ret (j_tup (ja_cons (jv 3) (ja_cons (jv 2) (ja_cons (j_sub j_int (jv 4)) (ja_cons j_str (ja_cons (jv 1) ja_nil)))))))) jss_nil)
      (jss_one (js_ret (j_tup (ja_cons (jv 2) (ja_cons (jv 3) (ja_cons (jv 4) (ja_cons j_str (ja_cons (jv 1) ja_nil))))))))))
theorem ok_Line_arcs_left (Df_ : DfM K "Line" "arcs_left" "Line.arcs_left" s_Line_arcs_left) (b_range : mg "range" = none) (b_len : mg "len" = none) (kc_Line : Cls K (He.ga K "Line")) (kn_Line_own_must : NoAttr K (He.ga K "Line") "own_must") (kn_Line_own_spans : NoAttr K (He.ga K "Line") "own_spans") (c_Line_piece_arcs : CalM P w K mg base 1 "Line" "piece_arcs" ["self", "k"] F_Line_piece_arcs) (c_Line_span_arc : CalM P w K mg base 1 "Line" "span_arc" ["self", "i"] F_Line_span_arc) : ∃ fd, FK P w K mg base 2 (He.ma K (He.ga K "Line") "arcs_left") fd ["self"] (F_Line_arcs_left) ∧ Binds K fd ["self"] [] := by
  refine fk_meth (N := ["self", "found", "k", "i"]) (es := r_Line_arcs_left) Df_ sc_Line_arcs_left (fun _ _ _ _ _ _ us hl => match us, hl with | [_], _ => rfl) (fun f cdv A outer s H E hr => ?_) d_Line_arcs_left
  exact (jss_cons (js_set (i := 1) sc_Line_arcs_left.nd rfl (by first | exact Or.inl rfl | exact Or.inr rfl) (j_lstO ja_nil))
      (jss_cons (js_for PassesOwn.never rfl (ji_range1 rfl b_range (ja_cons (j_cb call_len lc_len rfl b_len PySem.boot_len (ja_cons (j_fld kc_Line kn_Line_own_must (jv 0)) ja_nil)) ja_nil)) (jg_name (i := 2) sc_Line_arcs_left.nd rfl (by first | exact Or.inl rfl | exact Or.inr rfl))
      (jss_one (js_expr (j_bm PySem.F.plainAttrs_list PySem.F.slot_list_extend PySem.F.type_list_extend mt_extend lm_ext (jv 1) (ja_cons (j_meth c_Line_piece_arcs (hr.mono (by decide)) (jv 0) (ja_cons (jv 2) ja_nil)) ja_nil)))))
      (jss_one (js_ret (j_add (jv 1) (j_lc (own := [("i", 3)]) rfl sc_Line_arcs_left.nd (ji_range1 rfl b_range (ja_cons (j_cb call_len lc_len rfl b_len PySem.boot_len (ja_cons (j_fld kc_Line kn_Line_own_spans (jv 0)) ja_nil)) ja_nil)) (blkOk_by (own := [("i", 3)]) (N := ["self", "found", "k", "i"]) (sc := defScope s_Line_arcs_left) (by decide +kernel)) (fun _ _ _ _ _ => (jg_name (i := 3) sc_Line_arcs_left.nd rfl (by first | exact Or.inl rfl | exact Or.inr rfl))) (fun _ _ _ _ _ => jts_nil) (fun _ _ _ _ _ => (j_meth c_Line_span_arc (hr.mono (by decide)) (jv 0) (ja_cons (jv 3) ja_nil)))))))))
theorem ok_Line_roads_told (Df_ : DfM K "Line" "roads_told" "Line.roads_told" s_Line_roads_told) (b_len : mg "len" = none) (b_range : mg "range" = none) (b_sorted : mg "sorted" = none) (kc_Line : Cls K (He.ga K "Line")) (kn_Line_own_must : NoAttr K (He.ga K "Line") "own_must") (c_Line_arcs_left : CalM P w K mg base 2 "Line" "arcs_left" ["self"] F_Line_arcs_left) : ∃ fd, FK P w K mg base 3 (He.ma K (He.ga K "Line") "roads_told") fd ["self"] (F_Line_roads_told) ∧ Binds K fd ["self"] [] := by
  refine fk_meth (N := ["self", "many", "gains", "last_arcs", "arcs", "changed", "arc", "gain", "node"]) (es := r_Line_roads_told) Df_ sc_Line_roads_told (fun _ _ _ _ _ _ us hl => match us, hl with | [_], _ => rfl) (fun f cdv A outer s H E hr => ?_) d_Line_roads_told
  have hu := hr.units
  exact (jss_cons (js_set (i := 1) sc_Line_roads_told.nd rfl (by first | exact Or.inl rfl | exact Or.inr rfl) (j_add (j_cb call_len lc_len rfl b_len PySem.boot_len (ja_cons (j_fld kc_Line kn_Line_own_must (jv 0)) ja_nil)) j_int))
      (jss_cons (js_setLcO (i := 2) (own := [("node", 8)]) rfl sc_Line_roads_told.nd rfl rfl (sw_true rfl rfl rfl (by decide +kernel)) (ji_range1 rfl b_range (ja_cons (jv 1) ja_nil)) (blkOk_by (own := [("node", 8)]) (N := ["self", "many", "gains", "last_arcs", "arcs", "changed", "arc", "gain", "node"]) (sc := defScope s_Line_roads_told) (by decide +kernel)) (fun _ _ _ _ _ => (jg_name (i := 8) sc_Line_roads_told.nd rfl (by first | exact Or.inl rfl | exact Or.inr rfl))) (fun _ _ _ _ _ => jts_nil) (fun _ _ _ _ _ => j_non))
      (jss_cons (js_setI j_int (jv 2) j_int)
      (jss_cons (js_setLcO (i := 3) (own := [("node", 8)]) rfl sc_Line_roads_told.nd rfl rfl (sw_true rfl rfl rfl (by decide +kernel)) (ji_range1 rfl b_range (ja_cons (jv 1) ja_nil)) (blkOk_by (own := [("node", 8)]) (N := ["self", "many", "gains", "last_arcs", "arcs", "changed", "arc", "gain", "node"]) (sc := defScope s_Line_roads_told) (by decide +kernel)) (fun _ _ _ _ _ => (jg_name (i := 8) sc_Line_roads_told.nd rfl (by first | exact Or.inl rfl | exact Or.inr rfl))) (fun _ _ _ _ _ => jts_nil) (fun _ _ _ _ _ => j_non))
      (jss_cons (js_set (i := 4) sc_Line_roads_told.nd rfl (by first | exact Or.inl rfl | exact Or.inr rfl) (j_cb (cr_srtD hu) lc_srtD rfl b_sorted (by decide +kernel) (ja_cons (j_meth0 c_Line_arcs_left (hr.mono (by decide)) (jv 0)) ja_nil)))
      (jss_cons (js_set (i := 5) sc_Line_roads_told.nd rfl (by first | exact Or.inl rfl | exact Or.inr rfl) j_bl)
      (jss_cons (js_while PassesOwn.never (jt_tru (jv 5)) (jss_cons (js_set (i := 5) sc_Line_roads_told.nd rfl (by first | exact Or.inl rfl | exact Or.inr rfl) j_bl)
      (jss_one (js_for PassesOwn.never rfl (ji_list (jv 4)) (jg_name (i := 6) sc_Line_roads_told.nd rfl (by first | exact Or.inl rfl | exact Or.inr rfl))
      (jss_one (js_if (jt_cmp op_notN lo_notN (j_ix (jv 2) (j_ix (jv 6) j_int)) j_non (nomark _)) (jss_cons (js_set (i := 7) sc_Line_roads_told.nd rfl (by first | exact Or.inl rfl | exact Or.inr rfl) (j_add (j_ix (jv 2) (j_ix (jv 6) j_int)) (j_ix (jv 6) j_int)))
      (jss_one (js_if (JW.jt (jw_or (jt_cmp op_isN lo_isN (j_ix (jv 2) (j_ix (jv 6) j_int)) j_non (nomark _)) (jw_or1 (jt_cmp op_gt lo_gt (jv 7) (j_ix (jv 2) (j_ix (jv 6) j_int)) (nomark _))))) (jss_cons (js_setI (jv 7) (jv 2) (j_ix (jv 6) j_int))
      (jss_cons (js_setI (jv 6) (jv 3) (j_ix (jv 6) j_int))
      (jss_one (js_set (i := 5) sc_Line_roads_told.nd rfl (by first | exact Or.inl rfl | exact Or.inr rfl) j_bl)))) jss_nil))) jss_nil))))))
      (jss_one (js_ret (j_tup (ja_cons (jv 2) (ja_cons (jv 3) ja_nil))))))))))))
theorem ok_Line_go_along (Df_ : DfM K "Line" "go_along" "Line.go_along" s_Line_go_along) (kc_Line : Cls K (He.ga K "Line")) (kn_Line_idle : NoAttr K (He.ga K "Line") "idle") (kn_Line_filled : NoAttr K (He.ga K "Line") "filled") (kn_Line_taken : NoAttr K (He.ga K "Line") "taken") : ∃ fd, FK P w K mg base 1 (He.ma K (He.ga K "Line") "go_along") fd ["self", "arc"] (F_Line_go_along) ∧ Binds K fd ["self", "arc"] [] := by
  refine fk_meth (N := ["self", "arc", "kind", "number"]) (es := r_Line_go_along) Df_ sc_Line_go_along (fun _ _ _ _ _ _ us hl => match us, hl with | [_, _], _ => rfl) (fun f cdv A outer s H E hr => ?_) d_Line_go_along
  have hu := hr.units
  exact (jss_cons (js_asgTup (j_slT (jv 1) (jo_some j_int) jo_none) (jg_tup rfl (jgs_cons (jg_name (i := 2) sc_Line_go_along.nd rfl (by first | exact Or.inl rfl | exact Or.inr rfl)) (jgs_cons (jg_name (i := 3) sc_Line_go_along.nd rfl (by first | exact Or.inl rfl | exact Or.inr rfl)) jgs_nil))))
      (jss_one (js_if (jt_cmp (op_eqD hu) lo_eq (jv 2) j_str (nomark _)) (jss_one (js_setI (j_add (j_ix (j_fld kc_Line kn_Line_idle (jv 0)) (jv 3)) j_int) (j_fld kc_Line kn_Line_idle (jv 0)) (jv 3))) (jss_one (js_if (jt_cmp (op_eqD hu) lo_eq (jv 2) j_str (nomark _)) (jss_one (js_setI (j_sub (j_ix (j_fld kc_Line kn_Line_idle (jv 0)) (jv 3)) j_int) (j_fld kc_Line kn_Line_idle (jv 0)) (jv 3))) (jss_one (js_if (jt_cmp (op_eqD hu) lo_eq (jv 2) j_str (nomark _)) (jss_one (js_setI (j_add (j_ix (j_fld kc_Line kn_Line_filled (jv 0)) (jv 3)) j_int) (j_fld kc_Line kn_Line_filled (jv 0)) (jv 3))) (jss_one (js_if (jt_cmp (op_eqD hu) lo_eq (jv 2) j_str (nomark _)) (jss_one (js_setI (j_sub (j_ix (j_fld kc_Line kn_Line_filled (jv 0)) (jv 3)) j_int) (j_fld kc_Line kn_Line_filled (jv 0)) (jv 3))) (jss_one (js_setI (j_cmp (op_eqD hu) lo_eq (jv 2) j_str (nomark _)) (j_fld kc_Line kn_Line_taken (jv 0)) (jv 3))))))))))))
theorem ok_Line_send_unit (Df_ : DfM K "Line" "send_unit" "Line.send_unit" s_Line_send_unit) (b_len : mg "len" = none) (kc_Line : Cls K (He.ga K "Line")) (kn_Line_own_must : NoAttr K (He.ga K "Line") "own_must") (c_Line_roads_told : CalM P w K mg base 3 "Line" "roads_told" ["self"] F_Line_roads_told) (c_Line_go_along : CalM P w K mg base 1 "Line" "go_along" ["self", "arc"] F_Line_go_along) : ∃ fd, FK P w K mg base 4 (He.ma K (He.ga K "Line") "send_unit") fd ["self"] (F_Line_send_unit) ∧ Binds K fd ["self"] [] := by
  refine fk_meth (N := ["self", "gains", "last_arcs", "node", "arc"]) (es := r_Line_send_unit) Df_ sc_Line_send_unit (fun _ _ _ _ _ _ us hl => match us, hl with | [_], _ => rfl) (fun f cdv A outer s H E hr => ?_) d_Line_send_unit
  have hu := hr.units
  exact (jss_cons (js_asgTup (j_meth0 c_Line_roads_told (hr.mono (by decide)) (jv 0)) (jg_tup rfl (jgs_cons (jg_name (i := 1) sc_Line_send_unit.nd rfl (by first | exact Or.inl rfl | exact Or.inr rfl)) (jgs_cons (jg_name (i := 2) sc_Line_send_unit.nd rfl (by first | exact Or.inl rfl | exact Or.inr rfl)) jgs_nil))))
      (jss_cons (js_set (i := 3) sc_Line_send_unit.nd rfl (by first | exact Or.inl rfl | exact Or.inr rfl) (j_cb call_len lc_len rfl b_len PySem.boot_len (ja_cons (j_fld kc_Line kn_Line_own_must (jv 0)) ja_nil)))
      (jss_one (js_while PassesOwn.never (jt_cmp (op_neD hu) lo_ne (jv 3) j_int (nomark _)) (jss_cons (js_set (i := 4) sc_Line_send_unit.nd rfl (by first | exact Or.inl rfl | exact Or.inr rfl) (j_ix (jv 2) (jv 3)))
      (jss_cons (js_expr (j_meth c_Line_go_along (hr.mono (by decide)) (jv 0) (ja_cons (jv 4) ja_nil)))
      (jss_one (js_set (i := 3) sc_Line_send_unit.nd rfl (by first | exact Or.inl rfl | exact Or.inr rfl) (j_ix (jv 4) j_int)))))))))
theorem ok_Line_greatest_over (Df_ : DfM K "Line" "greatest_over" "Line.greatest_over" s_Line_greatest_over) (b_max : mg "max" = none) (kc_Line : Cls K (He.ga K "Line")) (kn_Line_own_spans : NoAttr K (He.ga K "Line") "own_spans") : ∃ fd, FK P w K mg base 1 (He.ma K (He.ga K "Line") "greatest_over") fd ["self", "k"] (F_Line_greatest_over) ∧ Binds K fd ["self", "k"] [] := by
  refine fk_meth (N := ["self", "k", "begin", "end", "worth"]) (es := r_Line_greatest_over) Df_ sc_Line_greatest_over (fun _ _ _ _ _ _ us hl => match us, hl with | [_, _], _ => rfl) (fun f cdv A outer s H E hr => ?_) d_Line_greatest_over
  exact (jss_one (js_ret (j_maxD rfl b_max (j_lc (own := [("begin", 2), ("end", 3), ("worth", 4)]) rfl sc_Line_greatest_over.nd (ji_list (j_fld kc_Line kn_Line_own_spans (jv 0))) (blkOk_by (own := [("begin", 2), ("end", 3), ("worth", 4)]) (N := ["self", "k", "begin", "end", "worth"]) (sc := defScope s_Line_greatest_over) (by decide +kernel)) (fun _ _ _ _ _ => (jg_tup rfl (jgs_cons (jg_name (i := 2) sc_Line_greatest_over.nd rfl (by first | exact Or.inl rfl | exact Or.inr rfl)) (jgs_cons (jg_name (i := 3) sc_Line_greatest_over.nd rfl (by first | exact Or.inl rfl | exact Or.inr rfl)) (jgs_cons (jg_name (i := 4) sc_Line_greatest_over.nd rfl (by first | exact Or.inl rfl | exact Or.inr rfl)) jgs_nil))))) (fun _ _ _ _ _ => (jts_one (jt_chain op_le lo_le op_lt lo_lt (jv 2) (jv 1) (jv 3)))) (fun _ _ _ _ _ => (jv 4))) j_int)))
theorem ok_Line_prices_now (Df_ : DfM K "Line" "prices_now" "Line.prices_now" s_Line_prices_now) (b_range : mg "range" = none) (b_len : mg "len" = none) (b_min : mg "min" = none) (kc_Line : Cls K (He.ga K "Line")) (kn_Line_own_must : NoAttr K (He.ga K "Line") "own_must") (c_Line_roads_told : CalM P w K mg base 3 "Line" "roads_told" ["self"] F_Line_roads_told) (c_Line_greatest_over : CalM P w K mg base 1 "Line" "greatest_over" ["self", "k"] F_Line_greatest_over) : ∃ fd, FK P w K mg base 4 (He.ma K (He.ga K "Line") "prices_now") fd ["self"] (F_Line_prices_now) ∧ Binds K fd ["self"] [] := by
  refine fk_meth (N := ["self", "gains", "last_arcs", "found", "k"]) (es := r_Line_prices_now) Df_ sc_Line_prices_now (fun _ _ _ _ _ _ us hl => match us, hl with | [_], _ => rfl) (fun f cdv A outer s H E hr => ?_) d_Line_prices_now
  exact (jss_cons (js_asgTup (j_meth0 c_Line_roads_told (hr.mono (by decide)) (jv 0)) (jg_tup rfl (jgs_cons (jg_name (i := 1) sc_Line_prices_now.nd rfl (by first | exact Or.inl rfl | exact Or.inr rfl)) (jgs_cons (jg_name (i := 2) sc_Line_prices_now.nd rfl (by first | exact Or.inl rfl | exact Or.inr rfl)) jgs_nil))))
      (jss_cons (js_set (i := 3) sc_Line_prices_now.nd rfl (by first | exact Or.inl rfl | exact Or.inr rfl) (j_lstO ja_nil))
      (jss_cons (js_for PassesOwn.never rfl (ji_range1 rfl b_range (ja_cons (j_cb call_len lc_len rfl b_len PySem.boot_len (ja_cons (j_fld kc_Line kn_Line_own_must (jv 0)) ja_nil)) ja_nil)) (jg_name (i := 4) sc_Line_prices_now.nd rfl (by first | exact Or.inl rfl | exact Or.inr rfl))
      (jss_one (js_expr (j_bm PySem.F.plainAttrs_list PySem.F.slot_list_append PySem.F.type_list_append mt_append lm_app (jv 3) (ja_cons (j_cb (call_min2 rfl) lc_min2 rfl b_min (by decide +kernel) (ja_cons (j_sub (j_ix (jv 1) (j_add (jv 4) j_int)) (j_ix (jv 1) (jv 4))) (ja_cons (j_meth c_Line_greatest_over (hr.mono (by decide)) (jv 0) (ja_cons (jv 4) ja_nil)) ja_nil))) ja_nil)))))
      (jss_one (js_ret (jv 3))))))
theorem ok_Line_taken_now (Df_ : DfM K "Line" "taken_now" "Line.taken_now" s_Line_taken_now) (b_range : mg "range" = none) (b_len : mg "len" = none) (kc_Line : Cls K (He.ga K "Line")) (kn_Line_own_spans : NoAttr K (He.ga K "Line") "own_spans") (kn_Line_taken : NoAttr K (He.ga K "Line") "taken") : ∃ fd, FK P w K mg base 1 (He.ma K (He.ga K "Line") "taken_now") fd ["self"] (F_Line_taken_now) ∧ Binds K fd ["self"] [] := by
  refine fk_meth (N := ["self", "i"]) (es := r_Line_taken_now) Df_ sc_Line_taken_now (fun _ _ _ _ _ _ us hl => match us, hl with | [_], _ => rfl) (fun f cdv A outer s H E hr => ?_) d_Line_taken_now
  exact (jss_one (js_ret (j_lc (own := [("i", 1)]) rfl sc_Line_taken_now.nd (ji_range1 rfl b_range (ja_cons (j_cb call_len lc_len rfl b_len PySem.boot_len (ja_cons (j_fld kc_Line kn_Line_own_spans (jv 0)) ja_nil)) ja_nil)) (blkOk_by (own := [("i", 1)]) (N := ["self", "i"]) (sc := defScope s_Line_taken_now) (by decide +kernel)) (fun _ _ _ _ _ => (jg_name (i := 1) sc_Line_taken_now.nd rfl (by first | exact Or.inl rfl | exact Or.inr rfl))) (fun _ _ _ _ _ => (jts_one (jt_tru (j_ix (j_fld kc_Line kn_Line_taken (jv 0)) (jv 1))))) (fun _ _ _ _ _ => (jv 1)))))
theorem ok_chosen_within (Df_ : Df K mg "chosen_within" s_chosen_within) (b_min : mg "min" = none) (b_len : mg "len" = none) (b_max : mg "max" = none) (b_range : mg "range" = none) (c_Line___init__ : CalK P w K mg base 1 "Line" ["self", "spans", "must"] F_Line___init__) (c_Line_send_unit : CalM P w K mg base 4 "Line" "send_unit" ["self"] F_Line_send_unit) (c_Line_prices_now : CalM P w K mg base 4 "Line" "prices_now" ["self"] F_Line_prices_now) (c_Line_taken_now : CalM P w K mg base 1 "Line" "taken_now" ["self"] F_Line_taken_now) : Cal P w K mg base 5 "chosen_within" ["spans", "limits"] (F_chosen_within) := by
  refine cal_ok (N := ["spans", "limits", "own_limits", "most", "line", "unit", "limit"]) (es := r_chosen_within) Df_ sc_chosen_within (fun _ _ _ _ _ _ us hl => match us, hl with | [_, _], _ => rfl) (fun f cdv A outer s H E hr => ?_) d_chosen_within
  exact (jss_cons (js_setLc (i := 2) (own := [("limit", 6)]) rfl sc_chosen_within.nd rfl rfl (sw_true rfl rfl rfl (by decide +kernel)) (ji_list (jv 1)) (blkOk_by (own := [("limit", 6)]) (N := ["spans", "limits", "own_limits", "most", "line", "unit", "limit"]) (sc := defScope s_chosen_within) (by decide +kernel)) (fun _ _ _ _ _ => (jg_name (i := 6) sc_chosen_within.nd rfl (by first | exact Or.inl rfl | exact Or.inr rfl))) (fun _ _ _ _ _ => jts_nil) (fun _ _ _ _ _ => (j_cb (call_min2 rfl) lc_min2 rfl b_min (by decide +kernel) (ja_cons (jv 6) (ja_cons (j_add (j_cb call_len lc_len rfl b_len PySem.boot_len (ja_cons (jv 0) ja_nil)) j_int) ja_nil)))))
      (jss_cons (js_set (i := 3) sc_chosen_within.nd rfl (by first | exact Or.inl rfl | exact Or.inr rfl) (j_maxD rfl b_max (jv 2) j_int))
      (jss_cons (js_set (i := 4) sc_chosen_within.nd rfl (by first | exact Or.inl rfl | exact Or.inr rfl) (j_make c_Line___init__ (hr.mono (by decide)) rfl (ja_cons (jv 0) (ja_cons (j_lc (own := [("limit", 6)]) rfl sc_chosen_within.nd (ji_list (jv 2)) (blkOk_by (own := [("limit", 6)]) (N := ["spans", "limits", "own_limits", "most", "line", "unit", "limit"]) (sc := defScope s_chosen_within) (by decide +kernel)) (fun _ _ _ _ _ => (jg_name (i := 6) sc_chosen_within.nd rfl (by first | exact Or.inl rfl | exact Or.inr rfl))) (fun _ _ _ _ _ => jts_nil) (fun _ _ _ _ _ => (j_sub (jv 3) (jv 6)))) ja_nil))))
      (jss_cons (js_for PassesOwn.never rfl (ji_range1 rfl b_range (ja_cons (jv 3) ja_nil)) (jg_name (i := 5) sc_chosen_within.nd rfl (by first | exact Or.inl rfl | exact Or.inr rfl))
      (jss_one (js_expr (j_meth0 c_Line_send_unit (hr.mono (by decide)) (jv 4)))))
      (jss_one (js_ret (j_tup (ja_cons (j_meth0 c_Line_taken_now (hr.mono (by decide)) (jv 4)) (ja_cons (j_meth0 c_Line_prices_now (hr.mono (by decide)) (jv 4)) ja_nil)))))))))
theorem ok_Seam_leaf (Df_ : DfM K "Seam" "leaf" "Seam.leaf" s_Seam_leaf) (b_sorted : mg "sorted" = none) (b_sum : mg "sum" = none) (b_zip : mg "zip" = none) (kc_Seam : Cls K (He.ga K "Seam")) (kn_Seam_benches : NoAttr K (He.ga K "Seam") "benches") (kn_Seam_ring : NoAttr K (He.ga K "Seam") "ring") (kn_Seam_beside_it : NoAttr K (He.ga K "Seam") "beside_it") (kn_Seam_best : NoAttr K (He.ga K "Seam") "best") (c_Seam_line_moments : CalM P w K mg base 1 "Seam" "line_moments" ["self"] F_Seam_line_moments) (c_load_on : Cal P w K mg base 2 "load_on" ["ring", "some", "moment"] F_load_on) (c_Seam_line_spans : CalM P w K mg base 1 "Seam" "line_spans" ["self"] F_Seam_line_spans) (c_chosen_within : Cal P w K mg base 5 "chosen_within" ["spans", "limits"] F_chosen_within) : ∃ fd, FK P w K mg base 6 (He.ma K (He.ga K "Seam") "leaf") fd ["self", "inside"] (F_Seam_leafO) ∧ Binds K fd ["self", "inside"] [] := by
  refine fk_meth (N := ["self", "inside", "moments", "limits", "chosen", "prices", "choice", "worth", "moment", "i", "one", "k"]) (es := r_Seam_leafO) Df_ sc_Seam_leaf (fun _ _ _ _ _ _ us hl => match us, hl with | [_, _], _ => rfl) (fun f cdv A outer s H E hr => ?_) d_Seam_leafO
  have hu := hr.units
  exact (jss_cons (js_set (i := 2) sc_Seam_leaf.nd rfl (by first | exact Or.inl rfl | exact Or.inr rfl) (j_meth0 c_Seam_line_moments (hr.mono (by decide)) (jv 0)))
      (jss_cons (js_setLc (i := 3) (own := [("moment", 8)]) rfl sc_Seam_leaf.nd rfl rfl (sw_true rfl rfl rfl (by decide +kernel)) (ji_list (jv 2)) (blkOk_by (own := [("moment", 8)]) (N := ["self", "inside", "moments", "limits", "chosen", "prices", "choice", "worth", "moment", "i", "one", "k"]) (sc := defScope s_Seam_leaf) (by decide +kernel)) (fun _ _ _ _ _ => (jg_name (i := 8) sc_Seam_leaf.nd rfl (by first | exact Or.inl rfl | exact Or.inr rfl))) (fun _ _ _ _ _ => jts_nil) (fun _ _ _ _ _ => (j_sub (j_fld kc_Seam kn_Seam_benches (jv 0)) (j_cal c_load_on (hr.mono (by decide)) rfl (ja_cons (j_fld kc_Seam kn_Seam_ring (jv 0)) (ja_cons (jv 1) (ja_cons (jv 8) ja_nil)))))))
      (jss_cons (js_asgTup (j_cal c_chosen_within (hr.mono (by decide)) rfl (ja_cons (j_meth0 c_Seam_line_spans (hr.mono (by decide)) (jv 0)) (ja_cons (jv 3) ja_nil))) (jg_tup rfl (jgs_cons (jg_name (i := 4) sc_Seam_leaf.nd rfl (by first | exact Or.inl rfl | exact Or.inr rfl)) (jgs_cons (jg_name (i := 5) sc_Seam_leaf.nd rfl (by first | exact Or.inl rfl | exact Or.inr rfl)) jgs_nil))))
      (jss_cons (js_set (i := 6) sc_Seam_leaf.nd rfl (by first | exact Or.inl rfl | exact Or.inr rfl) (j_cb cr_sortedI lc_sortedIO rfl b_sorted (by decide +kernel) (ja_cons (j_add (jv 1) (j_lc (own := [("k", 11)]) rfl sc_Seam_leaf.nd (ji_list (jv 4)) (blkOk_by (own := [("k", 11)]) (N := ["self", "inside", "moments", "limits", "chosen", "prices", "choice", "worth", "moment", "i", "one", "k"]) (sc := defScope s_Seam_leaf) (by decide +kernel)) (fun _ _ _ _ _ => (jg_name (i := 11) sc_Seam_leaf.nd rfl (by first | exact Or.inl rfl | exact Or.inr rfl))) (fun _ _ _ _ _ => jts_nil) (fun _ _ _ _ _ => (j_ix (j_fld kc_Seam kn_Seam_beside_it (jv 0)) (jv 11))))) ja_nil)))
      (jss_cons (js_set (i := 7) sc_Seam_leaf.nd rfl (by first | exact Or.inl rfl | exact Or.inr rfl) (j_cb (cr_sum rfl) lc_sum rfl b_sum (by decide +kernel) (ja_cons (j_lc (own := [("i", 9)]) rfl sc_Seam_leaf.nd (ji_list (jv 6)) (blkOk_by (own := [("i", 9)]) (N := ["self", "inside", "moments", "limits", "chosen", "prices", "choice", "worth", "moment", "i", "one", "k"]) (sc := defScope s_Seam_leaf) (by decide +kernel)) (fun _ _ _ _ _ => (jg_name (i := 9) sc_Seam_leaf.nd rfl (by first | exact Or.inl rfl | exact Or.inr rfl))) (fun _ _ _ _ _ => jts_nil) (fun _ _ _ _ _ => (j_ix (j_ix (j_ix (j_fld kc_Seam kn_Seam_ring (jv 0)) j_int) (jv 9)) j_int))) ja_nil)))
      (jss_cons (js_if (JW.jt (jw_or (jt_cmp op_isN lo_isN (j_fld kc_Seam kn_Seam_best (jv 0)) j_non (nomark _)) (jw_or1 (jt_cmp op_gt lo_gt (jv 7) (j_ix (j_fld kc_Seam kn_Seam_best (jv 0)) j_int) (nomark _))))) (jss_one (js_fld kc_Seam kn_Seam_best (jv 0) (j_tup (ja_cons (jv 7) (ja_cons (jv 6) ja_nil))))) jss_nil)
      (jss_one (js_ret (j_tup (ja_cons j_str (ja_cons (j_lcO (own := [("one", 10)]) rfl sc_Seam_leaf.nd (ji_list (j_srtZ rfl b_sorted rfl b_zip (ja_cons (jv 2) (ja_cons (jv 5) ja_nil)) hu)) (blkOk_by (own := [("one", 10)]) (N := ["self", "inside", "moments", "limits", "chosen", "prices", "choice", "worth", "moment", "i", "one", "k"]) (sc := defScope s_Seam_leaf) (by decide +kernel)) (fun _ _ _ _ _ => (jg_name (i := 10) sc_Seam_leaf.nd rfl (by first | exact Or.inl rfl | exact Or.inr rfl))) (fun _ _ _ _ _ => (jts_one (jt_cmp op_gt lo_gt (j_ix (jv 10) j_int) j_int (nomark _)))) (fun _ _ _ _ _ => (jv 10))) ja_nil)))))))))))
theorem ok0_Seam_tree (Df_ : DfM K "Seam" "tree" "Seam.tree" s_Seam_tree) (b_len : mg "len" = none) (kc_Seam : Cls K (He.ga K "Seam")) (kn_Seam_over_it : NoAttr K (He.ga K "Seam") "over_it") (c_Seam_crowded : CalM P w K mg base 3 "Seam" "crowded" ["self", "inside"] F_Seam_crowdedF) (c_Seam_leaf : CalM P w K mg base 6 "Seam" "leaf" ["self", "inside"] F_Seam_leafO) : ∃ fd, FK P w K mg base 7 (He.ma K (He.ga K "Seam") "tree") fd ["self", "at", "inside"] (F_Seam_treeO 0) ∧ Binds K fd ["self", "at", "inside"] [] := by
  refine fk_meth (N := ["self", "at", "inside", "moment", "i"]) (es := (fun _ _ _ => False)) Df_ sc_Seam_tree (fun _ _ _ _ _ _ us hl => match us, hl with | [_, _, _], _ => rfl) (fun f cdv A outer s H E hr => ?_) fun _ _ _ h => h
  exact jss_false
theorem ok_Seam_tree (Df_ : DfM K "Seam" "tree" "Seam.tree" s_Seam_tree) (b_len : mg "len" = none) (kc_Seam : Cls K (He.ga K "Seam")) (kn_Seam_over_it : NoAttr K (He.ga K "Seam") "over_it") (c_Seam_crowded : CalM P w K mg base 3 "Seam" "crowded" ["self", "inside"] F_Seam_crowdedF) (c_Seam_leaf : CalM P w K mg base 6 "Seam" "leaf" ["self", "inside"] F_Seam_leafO) (n : Nat) (c_Seam_tree : CalM P w K mg base (7 + n) "Seam" "tree" ["self", "at", "inside"] (F_Seam_treeO n)) : ∃ fd, FK P w K mg base (7 + n + 1) (He.ma K (He.ga K "Seam") "tree") fd ["self", "at", "inside"] (F_Seam_treeO (n + 1)) ∧ Binds K fd ["self", "at", "inside"] [] := by
  refine fk_meth (N := ["self", "at", "inside", "moment", "i"]) (es := (r_Seam_treeO n)) Df_ sc_Seam_tree (fun _ _ _ _ _ _ us hl => match us, hl with | [_, _, _], _ => rfl) (fun f cdv A outer s H E hr => ?_) (d_Seam_treeO n)
  have hu := hr.units
  exact (jss_cons (js_set (i := 3) sc_Seam_tree.nd rfl (by first | exact Or.inl rfl | exact Or.inr rfl) (j_meth c_Seam_crowded (hr.mono (by omega)) (jv 0) (ja_cons (jv 2) ja_nil)))
      (jss_cons (js_if (jt_cmp op_notN lo_notN (jv 3) j_non (nomark _)) (jss_one (js_ret (j_tup (ja_cons j_str (ja_cons (jv 3) ja_nil))))) jss_nil)
      (jss_cons (js_if (jt_cmp (op_eqD hu) lo_eq (jv 1) (j_cb call_len lc_len rfl b_len PySem.boot_len (ja_cons (j_fld kc_Seam kn_Seam_over_it (jv 0)) ja_nil)) (nomark _)) (jss_one (js_ret (j_meth c_Seam_leaf (hr.mono (by omega)) (jv 0) (ja_cons (jv 2) ja_nil)))) jss_nil)
      (jss_cons (js_set (i := 4) sc_Seam_tree.nd rfl (by first | exact Or.inl rfl | exact Or.inr rfl) (j_ix (j_fld kc_Seam kn_Seam_over_it (jv 0)) (jv 1)))
      (jss_one (js_ret (j_tup (ja_cons j_str (ja_cons (jv 4) (ja_cons (j_lstO (ja_cons (j_meth c_Seam_tree (hr.mono (by omega)) (jv 0) (ja_cons (j_add (jv 1) j_int) (ja_cons (j_add (jv 2) (j_lst (ja_cons (jv 4) ja_nil))) ja_nil))) (ja_cons (j_meth c_Seam_tree (hr.mono (by omega)) (jv 0) (ja_cons (j_add (jv 1) j_int) (ja_cons (jv 2) ja_nil))) ja_nil))) ja_nil))))))))))
theorem ok_ring_most (Df_ : Df K mg "ring_most" s_ring_most) (b_len : mg "len" = none) (z_MOST_OVER : ∃ t, mg "MOST_OVER" = some (.int 6 t)) (kc_Seam : Cls K (He.ga K "Seam")) (kn_Seam_over_it : NoAttr K (He.ga K "Seam") "over_it") (kn_Seam_best : NoAttr K (He.ga K "Seam") "best") (c_Seam___init__ : CalK P w K mg base 5 "Seam" ["self", "ring", "benches"] F_Seam___init__F) (c_Seam_tree : CalM P w K mg base 15 "Seam" "tree" ["self", "at", "inside"] (F_Seam_treeO 8)) (xt_TooMany : XtK K mg "TooMany") : CalX P w K mg base 16 "ring_most" ["ring", "benches"] (F_ring_mostO) := by
  refine calX_ok (N := ["ring", "benches", "seam", "tree"]) (es := r_ring_mostO) Df_ sc_ring_most (fun _ _ _ _ _ _ us hl => match us, hl with | [_, _], _ => rfl) (fun f cdv A outer s H E hr tk po => ?_) d_ring_mostO
  exact (jss_cons (js_set (i := 2) sc_ring_most.nd rfl (by first | exact Or.inl rfl | exact Or.inr rfl) (j_make c_Seam___init__ (hr.mono (by decide)) rfl (ja_cons (jv 0) (ja_cons (jv 1) ja_nil))))
      (jss_cons (js_if (jt_cmp op_gt lo_gt (j_cb call_len lc_len rfl b_len PySem.boot_len (ja_cons (j_fld kc_Seam kn_Seam_over_it (jv 2)) ja_nil)) (j_gint rfl z_MOST_OVER) (nomark _)) (jss_one (js_raiseT tk xt_TooMany rfl rfl)) jss_nil)
      (jss_cons (js_set (i := 3) sc_ring_most.nd rfl (by first | exact Or.inl rfl | exact Or.inr rfl) (j_meth c_Seam_tree (hr.mono (by decide)) (jv 2) (ja_cons j_int (ja_cons (j_lst ja_nil) ja_nil))))
      (jss_one (js_ret (j_tup (ja_cons (j_ix (j_fld kc_Seam kn_Seam_best (jv 2)) j_int) (ja_cons (j_ix (j_fld kc_Seam kn_Seam_best (jv 2)) j_int) (ja_cons (jv 3) ja_nil)))))))))
theorem ok__law_refused (Df_ : Df K mg "_law_refused" s__law_refused) (b_isinstance : mg "isinstance" = none) (b_ValueError : mg "ValueError" = none) (c_ring_most : CalX P w K mg base 16 "ring_most" ["ring", "benches"] F_ring_mostO) (xg_BenchError : mg "BenchError" = some (.ref (He.ga K "BenchError"))) (xg_TooMany : mg "TooMany" = some (.ref (He.ga K "TooMany"))) (xg_Crowded : mg "Crowded" = some (.ref (He.ga K "Crowded"))) (xg_NoBenches : mg "NoBenches" = some (.ref (He.ga K "NoBenches"))) (xg_NoBook : mg "NoBook" = some (.ref (He.ga K "NoBook"))) (xg_NoRing : mg "NoRing" = some (.ref (He.ga K "NoRing"))) (xg_NoRow : mg "NoRow" = some (.ref (He.ga K "NoRow"))) (xg_NoStretch : mg "NoStretch" = some (.ref (He.ga K "NoStretch"))) (xg_NoText : mg "NoText" = some (.ref (He.ga K "NoText"))) (xg_NoTree : mg "NoTree" = some (.ref (He.ga K "NoTree"))) (xg_NoTurn : mg "NoTurn" = some (.ref (He.ga K "NoTurn"))) (xg_NoUndo : mg "NoUndo" = some (.ref (He.ga K "NoUndo"))) (xg_Unknown : mg "Unknown" = some (.ref (He.ga K "Unknown"))) (xm_BenchError : ∀ m ∈ (["TooMany"] : List Str), PySem.W.exmOne K (.ref (He.ga K m)) (.ref (He.ga K "BenchError")) = some (isSub m "BenchError")) (xk_TooMany : ∀ m ∈ (["TooMany"] : List Str), PySem.W.kitOne K (.ref (He.ga K m)) (.ref (He.ga K "TooMany")) = some (isSub m "TooMany")) (xk_ValueError : ∀ m ∈ (["TooMany"] : List Str), PySem.W.kitOne K (.ref (He.ga K m)) (.type "ValueError") = some true) (xk_Crowded : ∀ m ∈ (["TooMany"] : List Str), PySem.W.kitOne K (.ref (He.ga K m)) (.ref (He.ga K "Crowded")) = some (isSub m "Crowded")) (xk_NoBenches : ∀ m ∈ (["TooMany"] : List Str), PySem.W.kitOne K (.ref (He.ga K m)) (.ref (He.ga K "NoBenches")) = some (isSub m "NoBenches")) (xk_NoBook : ∀ m ∈ (["TooMany"] : List Str), PySem.W.kitOne K (.ref (He.ga K m)) (.ref (He.ga K "NoBook")) = some (isSub m "NoBook")) (xk_NoRing : ∀ m ∈ (["TooMany"] : List Str), PySem.W.kitOne K (.ref (He.ga K m)) (.ref (He.ga K "NoRing")) = some (isSub m "NoRing")) (xk_NoRow : ∀ m ∈ (["TooMany"] : List Str), PySem.W.kitOne K (.ref (He.ga K m)) (.ref (He.ga K "NoRow")) = some (isSub m "NoRow")) (xk_NoStretch : ∀ m ∈ (["TooMany"] : List Str), PySem.W.kitOne K (.ref (He.ga K m)) (.ref (He.ga K "NoStretch")) = some (isSub m "NoStretch")) (xk_NoText : ∀ m ∈ (["TooMany"] : List Str), PySem.W.kitOne K (.ref (He.ga K m)) (.ref (He.ga K "NoText")) = some (isSub m "NoText")) (xk_NoTree : ∀ m ∈ (["TooMany"] : List Str), PySem.W.kitOne K (.ref (He.ga K m)) (.ref (He.ga K "NoTree")) = some (isSub m "NoTree")) (xk_NoTurn : ∀ m ∈ (["TooMany"] : List Str), PySem.W.kitOne K (.ref (He.ga K m)) (.ref (He.ga K "NoTurn")) = some (isSub m "NoTurn")) (xk_NoUndo : ∀ m ∈ (["TooMany"] : List Str), PySem.W.kitOne K (.ref (He.ga K m)) (.ref (He.ga K "NoUndo")) = some (isSub m "NoUndo")) (xk_Unknown : ∀ m ∈ (["TooMany"] : List Str), PySem.W.kitOne K (.ref (He.ga K m)) (.ref (He.ga K "Unknown")) = some (isSub m "Unknown")) (hX : ∀ m ∈ (["TooMany"] : List Str), ExcC K (He.ga K m)) : Cal P w K mg base 17 "_law_refused" ["_law_ring_here", "_law_benches"] (F__law_refused) := by
  refine cal_ok (N := ["_law_ring_here", "_law_benches", "e"]) (es := r__law_refused) Df_ sc__law_refused (fun _ _ _ _ _ _ us hl => match us, hl with | [_, _], _ => rfl) (fun f cdv A outer s H E hr => ?_) d__law_refused
  exact (jss_cons (js_tryAs (i := 2) (ns := (["TooMany"] : List Str)) takes0 rfl rfl sc__law_refused.nd rfl rfl ⟨rfl, by decide, .inl xg_BenchError⟩ xm_BenchError (fun W pn xe tk po => (jss_one (js_exprX (jx_cal c_ring_most (hr.mono (by decide)) tk rfl (jax_of (ja_cons (jv 0) (ja_cons (jv 1) ja_nil))))))) (fun a dd x oe pn hx hz hf => (jss_cons (js_if (JW.jt (jw_or (jt_not (jt_tru (j_isE (c := .ref _) (hX _ hx) hz hf (xk_TooMany _ hx) (fun _ h => h) rfl b_isinstance (pv 2) (pe_glob (v := .ref _) rfl xg_TooMany rfl (by decide))))) (jw_or1 (jt_not (jt_tru (j_isE (c := .ty "ValueError") (hX _ hx) hz hf (xk_ValueError _ hx) (fun _ h => h) rfl b_isinstance (pv 2) (pe_bltn (v := .ty "ValueError") rfl b_ValueError (by decide +kernel) rfl (by decide) (by decide)))))))) (jss_one (js_ret j_bl)) jss_nil)
      (jss_cons (js_if (jt_tru (j_isET (cs := (["Crowded", "NoBenches", "NoBook", "NoRing", "NoRow", "NoStretch"] : List Str).map (He.ga K)) (hX _ hx) hz hf (kitN (ns := (["Crowded", "NoBenches", "NoBook", "NoRing", "NoRow", "NoStretch"] : List Str)) (fun c hc => by simp only [List.mem_cons, List.not_mem_nil, or_false] at hc; rcases hc with rfl | rfl | rfl | rfl | rfl | rfl <;> first | exact xk_Crowded _ hx | exact xk_NoBenches _ hx | exact xk_NoBook _ hx | exact xk_NoRing _ hx | exact xk_NoRow _ hx | exact xk_NoStretch _ hx)) (by simp) rfl b_isinstance (pv 2) (pe_tup (pa_cons (pe_glob (v := .ref _) rfl xg_Crowded rfl (by decide)) (pa_cons (pe_glob (v := .ref _) rfl xg_NoBenches rfl (by decide)) (pa_cons (pe_glob (v := .ref _) rfl xg_NoBook rfl (by decide)) (pa_cons (pe_glob (v := .ref _) rfl xg_NoRing rfl (by decide)) (pa_cons (pe_glob (v := .ref _) rfl xg_NoRow rfl (by decide)) (pa_cons (pe_glob (v := .ref _) rfl xg_NoStretch rfl (by decide)) pa_nil))))))))) (jss_one (js_ret j_bl)) jss_nil)
      (jss_one (js_ret (j_not (j_isET (cs := (["NoText", "NoTree", "NoTurn", "NoUndo", "Unknown"] : List Str).map (He.ga K)) (hX _ hx) hz hf (kitN (ns := (["NoText", "NoTree", "NoTurn", "NoUndo", "Unknown"] : List Str)) (fun c hc => by simp only [List.mem_cons, List.not_mem_nil, or_false] at hc; rcases hc with rfl | rfl | rfl | rfl | rfl <;> first | exact xk_NoText _ hx | exact xk_NoTree _ hx | exact xk_NoTurn _ hx | exact xk_NoUndo _ hx | exact xk_Unknown _ hx)) (by simp) rfl b_isinstance (pv 2) (pe_tup (pa_cons (pe_glob (v := .ref _) rfl xg_NoText rfl (by decide)) (pa_cons (pe_glob (v := .ref _) rfl xg_NoTree rfl (by decide)) (pa_cons (pe_glob (v := .ref _) rfl xg_NoTurn rfl (by decide)) (pa_cons (pe_glob (v := .ref _) rfl xg_NoUndo rfl (by decide)) (pa_cons (pe_glob (v := .ref _) rfl xg_Unknown rfl (by decide)) pa_nil))))))))))))))
      (jss_one (js_ret j_bl)))
theorem ok__law_moments (Df_ : Df K mg "_law_moments" s__law_moments) (b_range : mg "range" = none) : Cal P w K mg base 1 "_law_moments" ["_law_ring_here", "_law_i"] (F__law_moments) := by
  refine cal_ok (N := ["_law_ring_here", "_law_i", "_law_name_here", "_law_begin", "_law_span", "_law_worth", "_law_k"]) (es := r__law_moments) Df_ sc__law_moments (fun _ _ _ _ _ _ us hl => match us, hl with | [_, _], _ => rfl) (fun f cdv A outer s H E hr => ?_) d__law_moments
  exact (jss_cons (js_asgTup (j_ix (j_ix (jv 0) j_int) (jv 1)) (jg_tup rfl (jgs_cons (jg_name (i := 2) sc__law_moments.nd rfl (by first | exact Or.inl rfl | exact Or.inr rfl)) (jgs_cons (jg_name (i := 3) sc__law_moments.nd rfl (by first | exact Or.inl rfl | exact Or.inr rfl)) (jgs_cons (jg_name (i := 4) sc__law_moments.nd rfl (by first | exact Or.inl rfl | exact Or.inr rfl)) (jgs_cons (jg_name (i := 5) sc__law_moments.nd rfl (by first | exact Or.inl rfl | exact Or.inr rfl)) jgs_nil))))))
      (jss_one (js_ret (j_lc (own := [("_law_k", 6)]) rfl sc__law_moments.nd (ji_range1 rfl b_range (ja_cons (jv 4) ja_nil)) (blkOk_by (own := [("_law_k", 6)]) (N := ["_law_ring_here", "_law_i", "_law_name_here", "_law_begin", "_law_span", "_law_worth", "_law_k"]) (sc := defScope s__law_moments) (by decide +kernel)) (fun _ _ _ _ _ => (jg_name (i := 6) sc__law_moments.nd rfl (by first | exact Or.inl rfl | exact Or.inr rfl))) (fun _ _ _ _ _ => jts_nil) (fun _ _ _ _ _ => (j_mod (j_add (jv 3) (jv 6)) (j_ix (jv 0) j_int)))))))
theorem ok__law_is_light (Df_ : Df K mg "_law_is_light" s__law_is_light) (b_max : mg "max" = none) (c__law_moments : Cal P w K mg base 1 "_law_moments" ["_law_ring_here", "_law_i"] F__law_moments) : Cal P w K mg base 2 "_law_is_light" ["_law_ring_here", "_law_some", "_law_benches"] (F__law_is_light) := by
  refine cal_ok (N := ["_law_ring_here", "_law_some", "_law_benches", "_law_loads", "_law_i", "_law_moment"]) (es := r__law_is_light) Df_ sc__law_is_light (fun _ _ _ _ _ _ us hl => match us, hl with | [_, _, _], _ => rfl) (fun f cdv A outer s H E hr => ?_) d__law_is_light
  exact (jss_cons (js_set (i := 3) sc__law_is_light.nd rfl (by first | exact Or.inl rfl | exact Or.inr rfl) (j_repO (j_lst (ja_cons j_int ja_nil)) (j_ix (jv 0) j_int)))
      (jss_cons (js_for PassesOwn.never rfl (ji_list (jv 1)) (jg_name (i := 4) sc__law_is_light.nd rfl (by first | exact Or.inl rfl | exact Or.inr rfl))
      (jss_one (js_for PassesOwn.never rfl (ji_list (j_cal c__law_moments (hr.mono (by decide)) rfl (ja_cons (jv 0) (ja_cons (jv 4) ja_nil)))) (jg_name (i := 5) sc__law_is_light.nd rfl (by first | exact Or.inl rfl | exact Or.inr rfl))
      (jss_one (js_setI (j_add (j_ix (jv 3) (jv 5)) j_int) (jv 3) (jv 5))))))
      (jss_one (js_ret (j_cmp op_le lo_le (j_cb (cr_max rfl) lc_max rfl b_max (by decide +kernel) (ja_cons (jv 3) ja_nil)) (jv 2) (nomark _))))))
theorem ok__law_ring_choices (Df_ : Df K mg "_law_ring_choices" s__law_ring_choices) (b_range : mg "range" = none) (b_len : mg "len" = none) (c__law_is_light : Cal P w K mg base 2 "_law_is_light" ["_law_ring_here", "_law_some", "_law_benches"] F__law_is_light) : Cal P w K mg base 3 "_law_ring_choices" ["_law_ring_here", "_law_benches"] (F__law_ring_choices) := by
  refine cal_ok (N := ["_law_ring_here", "_law_benches", "_law_found", "_law_i", "_law_more", "_law_some"]) (es := r__law_ring_choices) Df_ sc__law_ring_choices (fun _ _ _ _ _ _ us hl => match us, hl with | [_, _], _ => rfl) (fun f cdv A outer s H E hr => ?_) d__law_ring_choices
  exact (jss_cons (js_set (i := 2) sc__law_ring_choices.nd rfl (by first | exact Or.inl rfl | exact Or.inr rfl) (j_lst (ja_cons (j_lst ja_nil) ja_nil)))
      (jss_cons (js_for PassesOwn.never rfl (ji_range1 rfl b_range (ja_cons (j_cb call_len lc_len rfl b_len PySem.boot_len (ja_cons (j_ix (jv 0) j_int) ja_nil)) ja_nil)) (jg_name (i := 3) sc__law_ring_choices.nd rfl (by first | exact Or.inl rfl | exact Or.inr rfl))
      (jss_cons (js_setLc (i := 4) (own := [("_law_some", 5)]) rfl sc__law_ring_choices.nd rfl rfl (sw_true rfl rfl rfl (by decide +kernel)) (ji_list (jv 2)) (blkOk_by (own := [("_law_some", 5)]) (N := ["_law_ring_here", "_law_benches", "_law_found", "_law_i", "_law_more", "_law_some"]) (sc := defScope s__law_ring_choices) (by decide +kernel)) (fun _ _ _ _ _ => (jg_name (i := 5) sc__law_ring_choices.nd rfl (by first | exact Or.inl rfl | exact Or.inr rfl))) (fun _ _ _ _ _ => jts_nil) (fun _ _ _ _ _ => (j_add (jv 5) (j_lst (ja_cons (jv 3) ja_nil)))))
      (jss_one (js_set (i := 2) sc__law_ring_choices.nd rfl (by first | exact Or.inl rfl | exact Or.inr rfl) (j_add (jv 2) (j_lc (own := [("_law_some", 5)]) rfl sc__law_ring_choices.nd (ji_list (jv 4)) (blkOk_by (own := [("_law_some", 5)]) (N := ["_law_ring_here", "_law_benches", "_law_found", "_law_i", "_law_more", "_law_some"]) (sc := defScope s__law_ring_choices) (by decide +kernel)) (fun _ _ _ _ _ => (jg_name (i := 5) sc__law_ring_choices.nd rfl (by first | exact Or.inl rfl | exact Or.inr rfl))) (fun _ _ _ _ _ => (jts_one (jt_tru (j_cal c__law_is_light (hr.mono (by decide)) rfl (ja_cons (jv 0) (ja_cons (jv 5) (ja_cons (jv 1) ja_nil))))))) (fun _ _ _ _ _ => (jv 5))))))))
      (jss_one (js_ret (jv 2)))))
theorem ok__law_whole (Df_ : Df K mg "_law_whole" s__law_whole) (b_isinstance : mg "isinstance" = none) (b_int : mg "int" = none) (b_bool : mg "bool" = none) : Cal P w K mg base 1 "_law_whole" ["_law_found"] (F__law_whole) := by
  refine cal_ok (N := ["_law_found"]) (es := r__law_whole) Df_ sc__law_whole (fun _ _ _ _ _ _ us hl => match us, hl with | [_], _ => rfl) (fun f cdv A outer s H E hr => ?_) d__law_whole
  exact (jss_one (js_ret (j_and (j_cb call_isi lc_isi rfl b_isinstance (by decide +kernel) (ja_cons (jv 0) (ja_cons (j_ty rfl b_int (by decide +kernel)) ja_nil))) (j_one (j_not (j_cb call_isi lc_isi rfl b_isinstance (by decide +kernel) (ja_cons (jv 0) (ja_cons (j_ty rfl b_bool (by decide +kernel)) ja_nil))))))))
theorem ok__law_number (Df_ : Df K mg "_law_number" s__law_number) (c__law_whole : Cal P w K mg base 1 "_law_whole" ["_law_found"] F__law_whole) : Cal P w K mg base 2 "_law_number" ["_law_thing", "_law_many_here"] (F__law_number60) := by
  refine cal_ok (N := ["_law_thing", "_law_many_here"]) (es := r__law_number60) Df_ sc__law_number (fun _ _ _ _ _ _ us hl => match us, hl with | [_, _], _ => rfl) (fun f cdv A outer s H E hr => ?_) d__law_number60
  exact (jss_one (js_ret (j_and (j_cal c__law_whole (hr.mono (by decide)) rfl (ja_cons (jv 0) ja_nil)) (j_one (j_chain op_le lo_le op_lt lo_lt j_int (jv 0) (jv 1))))))
theorem ok__law_is_paper (Df_ : Df K mg "_law_is_paper" s__law_is_paper) (b_isinstance : mg "isinstance" = none) (b_list : mg "list" = none) (b_len : mg "len" = none) (b_tuple : mg "tuple" = none) (b_int : mg "int" = none) (b_bool : mg "bool" = none) : Cal P w K mg base 1 "_law_is_paper" ["_law_thing"] (F__law_is_paper) := by
  refine cal_ok (N := ["_law_thing", "_law_last", "_law_one", "_law_number_here"]) (es := r__law_is_paper) Df_ sc__law_is_paper (fun _ _ _ _ _ _ us hl => match us, hl with | [_], _ => rfl) (fun f cdv A outer s H E hr => ?_) d__law_is_paper
  have hu := hr.units
  exact (jss_cons (js_if (JW.jt (jw_or (jt_not (jt_tru (j_cb call_isi lc_isi rfl b_isinstance (by decide +kernel) (ja_cons (jv 0) (ja_cons (j_ty rfl b_list (by decide +kernel)) ja_nil))))) (jw_or1 (jt_cmp op_gt lo_gt (j_cb call_len lc_len rfl b_len PySem.boot_len (ja_cons (jv 0) ja_nil)) j_int (nomark _))))) (jss_one (js_ret j_bl)) jss_nil)
      (jss_cons (js_set (i := 1) sc__law_is_paper.nd rfl (by first | exact Or.inl rfl | exact Or.inr rfl) (j_sub (j_neg (j_pow j_int j_int)) j_int))
      (jss_cons (js_for PassesOwn.never rfl (ji_list (jv 0)) (jg_name (i := 2) sc__law_is_paper.nd rfl (by first | exact Or.inl rfl | exact Or.inr rfl))
      (jss_cons (js_if (JW.jt (jw_or (jt_not (jt_tru (j_cb call_isi lc_isi rfl b_isinstance (by decide +kernel) (ja_cons (jv 2) (ja_cons (j_ty rfl b_tuple (by decide +kernel)) ja_nil))))) (jw_or1 (jt_cmp (op_neD hu) lo_ne (j_cb call_len lc_len rfl b_len PySem.boot_len (ja_cons (jv 2) ja_nil)) j_int (nomark _))))) (jss_one (js_ret j_bl)) jss_nil)
      (jss_cons (js_for PassesOwn.never rfl (ji_tup (jv 2)) (jg_name (i := 3) sc__law_is_paper.nd rfl (by first | exact Or.inl rfl | exact Or.inr rfl))
      (jss_one (js_if (JW.jt (jw_or (jt_not (jt_tru (j_cb call_isi lc_isi rfl b_isinstance (by decide +kernel) (ja_cons (jv 3) (ja_cons (j_ty rfl b_int (by decide +kernel)) ja_nil))))) (jw_or1 (jt_tru (j_cb call_isi lc_isi rfl b_isinstance (by decide +kernel) (ja_cons (jv 3) (ja_cons (j_ty rfl b_bool (by decide +kernel)) ja_nil))))))) (jss_one (js_ret j_bl)) jss_nil)))
      (jss_cons (js_if (JW.jt (jw_or (jt_cmp op_le lo_le (j_ix (jv 2) j_int) (jv 1) (nomark _)) (jw_or (jt_cmp op_ge lo_ge (j_ix (jv 2) j_int) (j_pow j_int j_int) (nomark _)) (jw_or (jt_cmp op_lt lo_lt (j_ix (jv 2) j_int) j_int (nomark _)) (jw_or1 (jt_cmp op_gt lo_gt (j_ix (jv 2) j_int) (j_pow j_int j_int) (nomark _))))))) (jss_one (js_ret j_bl)) jss_nil)
      (jss_one (js_set (i := 1) sc__law_is_paper.nd rfl (by first | exact Or.inl rfl | exact Or.inr rfl) (j_ix (jv 2) j_int)))))))
      (jss_one (js_ret j_bl)))))
theorem ok__law_ring_rest (Df_ : Df K mg "_law_ring_rest" s__law_ring_rest) (b_max : mg "max" = none) (b_sum : mg "sum" = none) : Cal P w K mg base 1 "_law_ring_rest" ["_law_ring_here", "_law_i", "_law_paper"] (F__law_ring_rest) := by
  refine cal_ok (N := ["_law_ring_here", "_law_i", "_law_paper", "_law_name_here", "_law_begin", "_law_span", "_law_worth", "_law_toll", "_law_moment", "_law_price"]) (es := r__law_ring_rest) Df_ sc__law_ring_rest (fun _ _ _ _ _ _ us hl => match us, hl with | [_, _, _], _ => rfl) (fun f cdv A outer s H E hr => ?_) d__law_ring_rest
  exact (jss_cons (js_asgTup (j_ix (j_ix (jv 0) j_int) (jv 1)) (jg_tup rfl (jgs_cons (jg_name (i := 3) sc__law_ring_rest.nd rfl (by first | exact Or.inl rfl | exact Or.inr rfl)) (jgs_cons (jg_name (i := 4) sc__law_ring_rest.nd rfl (by first | exact Or.inl rfl | exact Or.inr rfl)) (jgs_cons (jg_name (i := 5) sc__law_ring_rest.nd rfl (by first | exact Or.inl rfl | exact Or.inr rfl)) (jgs_cons (jg_name (i := 6) sc__law_ring_rest.nd rfl (by first | exact Or.inl rfl | exact Or.inr rfl)) jgs_nil))))))
      (jss_cons (js_setLc (i := 7) (own := [("_law_moment", 8), ("_law_price", 9)]) rfl sc__law_ring_rest.nd rfl rfl (sw_true rfl rfl rfl (by decide +kernel)) (ji_list (jv 2)) (blkOk_by (own := [("_law_moment", 8), ("_law_price", 9)]) (N := ["_law_ring_here", "_law_i", "_law_paper", "_law_name_here", "_law_begin", "_law_span", "_law_worth", "_law_toll", "_law_moment", "_law_price"]) (sc := defScope s__law_ring_rest) (by decide +kernel)) (fun _ _ _ _ _ => (jg_tup rfl (jgs_cons (jg_name (i := 8) sc__law_ring_rest.nd rfl (by first | exact Or.inl rfl | exact Or.inr rfl)) (jgs_cons (jg_name (i := 9) sc__law_ring_rest.nd rfl (by first | exact Or.inl rfl | exact Or.inr rfl)) jgs_nil)))) (fun _ _ _ _ _ => (jts_one (jt_cmp op_lt lo_lt (j_mod (j_sub (jv 8) (jv 4)) (j_ix (jv 0) j_int)) (jv 5) (nomark _)))) (fun _ _ _ _ _ => (jv 9)))
      (jss_one (js_ret (j_cb (call_max2 rfl) lc_max2 rfl b_max (by decide +kernel) (ja_cons j_int (ja_cons (j_sub (jv 6) (j_cb (cr_sum rfl) lc_sum rfl b_sum (by decide +kernel) (ja_cons (jv 7) ja_nil))) ja_nil)))))))
theorem ok__law_priced (Df_ : Df K mg "_law_priced" s__law_priced) (b_sum : mg "sum" = none) (b_range : mg "range" = none) (b_len : mg "len" = none) (c__law_is_paper : Cal P w K mg base 1 "_law_is_paper" ["_law_thing"] F__law_is_paper) (c__law_load_in : Cal P w K mg base 1 "_law_load_in" ["_law_ring_here", "_law_inside", "_law_moment"] F__law_load_in) (c__law_ring_rest : Cal P w K mg base 1 "_law_ring_rest" ["_law_ring_here", "_law_i", "_law_paper"] F__law_ring_rest) : Cal P w K mg base 2 "_law_priced" ["_law_ring_here", "_law_benches", "_law_paper", "_law_put"] (F__law_priced) := by
  refine cal_ok (N := ["_law_ring_here", "_law_benches", "_law_paper", "_law_put", "_law_inside", "_law_outside", "_law_found", "_law_moment", "_law_price", "_law_free", "_law_i"]) (es := r__law_priced) Df_ sc__law_priced (fun _ _ _ _ _ _ us hl => match us, hl with | [_, _, _, _], _ => rfl) (fun f cdv A outer s H E hr => ?_) d__law_priced
  have hu := hr.units
  exact (jss_cons (js_asgTup (jv 3) (jg_tup rfl (jgs_cons (jg_name (i := 4) sc__law_priced.nd rfl (by first | exact Or.inl rfl | exact Or.inr rfl)) (jgs_cons (jg_name (i := 5) sc__law_priced.nd rfl (by first | exact Or.inl rfl | exact Or.inr rfl)) jgs_nil))))
      (jss_cons (js_if (jt_not (jt_tru (j_cal c__law_is_paper (hr.mono (by decide)) rfl (ja_cons (jv 2) ja_nil)))) (jss_one (js_ret j_non)) jss_nil)
      (jss_cons (js_if (jt_cmp (op_neD hu) lo_ne (j_lc (own := [("_law_moment", 7), ("_law_price", 8)]) rfl sc__law_priced.nd (ji_list (jv 2)) (blkOk_by (own := [("_law_moment", 7), ("_law_price", 8)]) (N := ["_law_ring_here", "_law_benches", "_law_paper", "_law_put", "_law_inside", "_law_outside", "_law_found", "_law_moment", "_law_price", "_law_free", "_law_i"]) (sc := defScope s__law_priced) (by decide +kernel)) (fun _ _ _ _ _ => (jg_tup rfl (jgs_cons (jg_name (i := 7) sc__law_priced.nd rfl (by first | exact Or.inl rfl | exact Or.inr rfl)) (jgs_cons (jg_name (i := 8) sc__law_priced.nd rfl (by first | exact Or.inl rfl | exact Or.inr rfl)) jgs_nil)))) (fun _ _ _ _ _ => (jts_one (jt_not (jt_chain op_le lo_le op_lt lo_lt j_int (jv 7) (j_ix (jv 0) j_int))))) (fun _ _ _ _ _ => (jv 7))) (j_lst ja_nil) (nomark _)) (jss_one (js_ret j_non)) jss_nil)
      (jss_cons (js_set (i := 6) sc__law_priced.nd rfl (by first | exact Or.inl rfl | exact Or.inr rfl) (j_cb (cr_sum rfl) lc_sum rfl b_sum (by decide +kernel) (ja_cons (j_lc (own := [("_law_i", 10)]) rfl sc__law_priced.nd (ji_list (jv 4)) (blkOk_by (own := [("_law_i", 10)]) (N := ["_law_ring_here", "_law_benches", "_law_paper", "_law_put", "_law_inside", "_law_outside", "_law_found", "_law_moment", "_law_price", "_law_free", "_law_i"]) (sc := defScope s__law_priced) (by decide +kernel)) (fun _ _ _ _ _ => (jg_name (i := 10) sc__law_priced.nd rfl (by first | exact Or.inl rfl | exact Or.inr rfl))) (fun _ _ _ _ _ => jts_nil) (fun _ _ _ _ _ => (j_ix (j_ix (j_ix (jv 0) j_int) (jv 10)) j_int))) ja_nil)))
      (jss_cons (js_for PassesOwn.never rfl (ji_list (jv 2)) (jg_tup rfl (jgs_cons (jg_name (i := 7) sc__law_priced.nd rfl (by first | exact Or.inl rfl | exact Or.inr rfl)) (jgs_cons (jg_name (i := 8) sc__law_priced.nd rfl (by first | exact Or.inl rfl | exact Or.inr rfl)) jgs_nil)))
      (jss_one (js_set (i := 6) sc__law_priced.nd rfl (by first | exact Or.inl rfl | exact Or.inr rfl) (j_add (jv 6) (j_mul (jv 8) (j_sub (jv 1) (j_cal c__law_load_in (hr.mono (by decide)) rfl (ja_cons (jv 0) (ja_cons (jv 4) (ja_cons (jv 7) ja_nil))))))))))
      (jss_cons (js_setLc (i := 9) (own := [("_law_i", 10)]) rfl sc__law_priced.nd rfl rfl (sw_true rfl rfl rfl (by decide +kernel)) (ji_range1 rfl b_range (ja_cons (j_cb call_len lc_len rfl b_len PySem.boot_len (ja_cons (j_ix (jv 0) j_int) ja_nil)) ja_nil)) (blkOk_by (own := [("_law_i", 10)]) (N := ["_law_ring_here", "_law_benches", "_law_paper", "_law_put", "_law_inside", "_law_outside", "_law_found", "_law_moment", "_law_price", "_law_free", "_law_i"]) (sc := defScope s__law_priced) (by decide +kernel)) (fun _ _ _ _ _ => (jg_name (i := 10) sc__law_priced.nd rfl (by first | exact Or.inl rfl | exact Or.inr rfl))) (fun _ _ _ _ _ => (jts_one (JW.jt (jw_and (jt_cmp op_notIn_seq lo_in (jv 10) (jv 4) rfl) (jw_and1 (jt_cmp op_notIn_seq lo_in (jv 10) (jv 5) rfl)))))) (fun _ _ _ _ _ => (jv 10)))
      (jss_one (js_ret (j_lst (ja_cons (j_add (jv 6) (j_cb (cr_sum rfl) lc_sum rfl b_sum (by decide +kernel) (ja_cons (j_lc (own := [("_law_i", 10)]) rfl sc__law_priced.nd (ji_list (jv 9)) (blkOk_by (own := [("_law_i", 10)]) (N := ["_law_ring_here", "_law_benches", "_law_paper", "_law_put", "_law_inside", "_law_outside", "_law_found", "_law_moment", "_law_price", "_law_free", "_law_i"]) (sc := defScope s__law_priced) (by decide +kernel)) (fun _ _ _ _ _ => (jg_name (i := 10) sc__law_priced.nd rfl (by first | exact Or.inl rfl | exact Or.inr rfl))) (fun _ _ _ _ _ => jts_nil) (fun _ _ _ _ _ => (j_cal c__law_ring_rest (hr.mono (by decide)) rfl (ja_cons (jv 0) (ja_cons (jv 10) (ja_cons (jv 2) ja_nil)))))) ja_nil))) ja_nil))))))))))
theorem ok0__law_walk (Df_ : Df K mg "_law_walk" s__law_walk) (b_isinstance : mg "isinstance" = none) (b_tuple : mg "tuple" = none) (b_len : mg "len" = none) (b_int : mg "int" = none) (b_list : mg "list" = none) (c__law_priced : Cal P w K mg base 2 "_law_priced" ["_law_ring_here", "_law_benches", "_law_paper", "_law_put"] F__law_priced) (c__law_number : Cal P w K mg base 2 "_law_number" ["_law_thing", "_law_many_here"] F__law_number60) (c__law_load_in : Cal P w K mg base 1 "_law_load_in" ["_law_ring_here", "_law_inside", "_law_moment"] F__law_load_in) : Cal P w K mg base 3 "_law_walk" ["_law_ring_here", "_law_benches", "_law_tree", "_law_put", "_law_deep"] (F__law_walk 0) := by
  refine cal_ok (N := ["_law_ring_here", "_law_benches", "_law_tree", "_law_put", "_law_deep", "_law_inside", "_law_outside", "_law_one", "_law_other"]) (es := (fun _ _ _ => False)) Df_ sc__law_walk (fun _ _ _ _ _ _ us hl => match us, hl with | [_, _, _, _, _], _ => rfl) (fun f cdv A outer s H E hr => ?_) fun _ _ _ h => h
  exact jss_false
theorem ok__law_walk (Df_ : Df K mg "_law_walk" s__law_walk) (b_isinstance : mg "isinstance" = none) (b_tuple : mg "tuple" = none) (b_len : mg "len" = none) (b_int : mg "int" = none) (b_list : mg "list" = none) (c__law_priced : Cal P w K mg base 2 "_law_priced" ["_law_ring_here", "_law_benches", "_law_paper", "_law_put"] F__law_priced) (c__law_number : Cal P w K mg base 2 "_law_number" ["_law_thing", "_law_many_here"] F__law_number60) (c__law_load_in : Cal P w K mg base 1 "_law_load_in" ["_law_ring_here", "_law_inside", "_law_moment"] F__law_load_in) (n : Nat) (c__law_walk : Cal P w K mg base (3 + n) "_law_walk" ["_law_ring_here", "_law_benches", "_law_tree", "_law_put", "_law_deep"] (F__law_walk n)) : Cal P w K mg base (3 + n + 1) "_law_walk" ["_law_ring_here", "_law_benches", "_law_tree", "_law_put", "_law_deep"] (F__law_walk (n + 1)) := by
  refine cal_ok (N := ["_law_ring_here", "_law_benches", "_law_tree", "_law_put", "_law_deep", "_law_inside", "_law_outside", "_law_one", "_law_other"]) (es := (r__law_walk n)) Df_ sc__law_walk (fun _ _ _ _ _ _ us hl => match us, hl with | [_, _, _, _, _], _ => rfl) (fun f cdv A outer s H E hr => ?_) (d__law_walk n)
  have hu := hr.units
  exact (jss_cons (js_asgTup (jv 3) (jg_tup rfl (jgs_cons (jg_name (i := 5) sc__law_walk.nd rfl (by first | exact Or.inl rfl | exact Or.inr rfl)) (jgs_cons (jg_name (i := 6) sc__law_walk.nd rfl (by first | exact Or.inl rfl | exact Or.inr rfl)) jgs_nil))))
      (jss_cons (js_if (JW.jt (jw_or (jt_not (jt_tru (j_cb call_isi lc_isi rfl b_isinstance (by decide +kernel) (ja_cons (jv 2) (ja_cons (j_ty rfl b_tuple (by decide +kernel)) ja_nil))))) (jw_or1 (jt_cmp (op_eqD hu) lo_eq (jv 4) j_int (nomark _))))) (jss_one (js_ret j_non)) jss_nil)
      (jss_cons (js_if (JW.jt (jw_and (jt_cmp (op_eqD hu) lo_eq (j_cb call_len lc_len rfl b_len PySem.boot_len (ja_cons (jv 2) ja_nil)) j_int (nomark _)) (jw_and1 (jt_cmp (op_eqD hu) lo_eq (j_ix (jv 2) j_int) j_str (nomark _))))) (jss_one (js_ret (j_cal c__law_priced (hr.mono (by omega)) rfl (ja_cons (jv 0) (ja_cons (jv 1) (ja_cons (j_ix (jv 2) j_int) (ja_cons (jv 3) ja_nil))))))) jss_nil)
      (jss_cons (js_if (JW.jt (jw_and (jt_cmp (op_eqD hu) lo_eq (j_cb call_len lc_len rfl b_len PySem.boot_len (ja_cons (jv 2) ja_nil)) j_int (nomark _)) (jw_and (jt_cmp (op_eqD hu) lo_eq (j_ix (jv 2) j_int) j_str (nomark _)) (jw_and1 (jt_tru (j_cal c__law_number (hr.mono (by omega)) rfl (ja_cons (j_ix (jv 2) j_int) (ja_cons (j_ix (jv 0) j_int) ja_nil)))))))) (jss_one (js_ret (j_ix (j_lst (ja_cons (j_lst ja_nil) (ja_cons j_non ja_nil))) (j_ct call_int1 lc_int1 rfl b_int (by decide +kernel) (ja_cons (j_cmp op_le lo_le (j_cal c__law_load_in (hr.mono (by omega)) rfl (ja_cons (jv 0) (ja_cons (jv 5) (ja_cons (j_ix (jv 2) j_int) ja_nil)))) (jv 1) (nomark _)) ja_nil))))) jss_nil)
      (jss_cons (js_if (JW.jt (jw_or (jt_cmp (op_neD hu) lo_ne (j_cb call_len lc_len rfl b_len PySem.boot_len (ja_cons (jv 2) ja_nil)) j_int (nomark _)) (jw_or (jt_cmp (op_neD hu) lo_ne (j_ix (jv 2) j_int) j_str (nomark _)) (jw_or1 (jt_not (jt_tru (j_cal c__law_number (hr.mono (by omega)) rfl (ja_cons (j_ix (jv 2) j_int) (ja_cons (j_cb call_len lc_len rfl b_len PySem.boot_len (ja_cons (j_ix (jv 0) j_int) ja_nil)) ja_nil))))))))) (jss_one (js_ret j_non)) jss_nil)
      (jss_cons (js_if (JW.jt (jw_or (jt_cmp op_in_seq lo_in (j_ix (jv 2) j_int) (j_add (jv 5) (jv 6)) rfl) (jw_or (jt_not (jt_tru (j_cb call_isi lc_isi rfl b_isinstance (by decide +kernel) (ja_cons (j_ix (jv 2) j_int) (ja_cons (j_ty rfl b_list (by decide +kernel)) ja_nil))))) (jw_or1 (jt_cmp (op_neD hu) lo_ne (j_cb call_len lc_len rfl b_len PySem.boot_len (ja_cons (j_ix (jv 2) j_int) ja_nil)) j_int (nomark _)))))) (jss_one (js_ret j_non)) jss_nil)
      (jss_cons (js_set (i := 7) sc__law_walk.nd rfl (by first | exact Or.inl rfl | exact Or.inr rfl) (j_cal c__law_walk (hr.mono (by omega)) rfl (ja_cons (jv 0) (ja_cons (jv 1) (ja_cons (j_ix (j_ix (jv 2) j_int) j_int) (ja_cons (j_tup (ja_cons (j_add (jv 5) (j_lst (ja_cons (j_ix (jv 2) j_int) ja_nil))) (ja_cons (jv 6) ja_nil))) (ja_cons (j_sub (jv 4) j_int) ja_nil)))))))
      (jss_cons (js_set (i := 8) sc__law_walk.nd rfl (by first | exact Or.inl rfl | exact Or.inr rfl) (j_cal c__law_walk (hr.mono (by omega)) rfl (ja_cons (jv 0) (ja_cons (jv 1) (ja_cons (j_ix (j_ix (jv 2) j_int) j_int) (ja_cons (j_tup (ja_cons (jv 5) (ja_cons (j_add (jv 6) (j_lst (ja_cons (j_ix (jv 2) j_int) ja_nil))) ja_nil))) (ja_cons (j_sub (jv 4) j_int) ja_nil)))))))
      (jss_cons (js_if (JW.jt (jw_or (jt_cmp op_isN lo_isN (jv 7) j_non (nomark _)) (jw_or1 (jt_cmp op_isN lo_isN (jv 8) j_non (nomark _))))) (jss_one (js_ret j_non)) jss_nil)
      (jss_one (js_ret (j_add (jv 7) (jv 8)))))))))))))
theorem ok__law_many (Df_ : Df K mg "_law_many" s__law_many) : Cal P w K mg base 1 "_law_many" ["_law_tree"] (F__law_many) := by
  refine cal_ok (N := ["_law_tree", "_law_row", "_law_many_here", "_law_one"]) (es := r__law_many) Df_ sc__law_many (fun _ _ _ _ _ _ us hl => match us, hl with | [_], _ => rfl) (fun f cdv A outer s H E hr => ?_) d__law_many
  have hu := hr.units
  exact (jss_cons (js_set (i := 1) sc__law_many.nd rfl (by first | exact Or.inl rfl | exact Or.inr rfl) (j_lstO (ja_cons (jv 0) ja_nil)))
      (jss_cons (js_set (i := 2) sc__law_many.nd rfl (by first | exact Or.inl rfl | exact Or.inr rfl) j_int)
      (jss_cons (js_while PassesOwn.never (JW.jt (jw_and (jt_cmp (op_neD hu) lo_ne (jv 1) (j_lst ja_nil) (nomark _)) (jw_and1 (jt_cmp op_lt lo_lt (jv 2) j_int (nomark _))))) (jss_cons (js_set (i := 3) sc__law_many.nd rfl (by first | exact Or.inl rfl | exact Or.inr rfl) (j_bm0 PySem.F.plainAttrs_list PySem.F.slot_list_pop PySem.F.type_list_pop mt_pop lm_pop (jv 1)))
      (jss_cons (js_set (i := 2) sc__law_many.nd rfl (by first | exact Or.inl rfl | exact Or.inr rfl) (j_add (jv 2) j_int))
      (jss_one (js_if (jt_cmp (op_eqD hu) lo_eq (j_ix (jv 3) j_int) j_str (nomark _)) (jss_one (js_set (i := 1) sc__law_many.nd rfl (by first | exact Or.inl rfl | exact Or.inr rfl) (j_addO (jv 1) (j_ix (jv 3) j_int)))) jss_nil)))))
      (jss_one (js_ret (jv 2))))))
theorem ok__law_right (Df_ : Df K mg "_law_right" s__law_right) (b_isinstance : mg "isinstance" = none) (b_tuple : mg "tuple" = none) (b_len : mg "len" = none) (b_list : mg "list" = none) (b_sorted : mg "sorted" = none) (b_range : mg "range" = none) (b_max : mg "max" = none) (b_sum : mg "sum" = none) (c__law_whole : Cal P w K mg base 1 "_law_whole" ["_law_found"] F__law_whole) (c__law_number : Cal P w K mg base 2 "_law_number" ["_law_thing", "_law_many_here"] F__law_number60) (c__law_is_light : Cal P w K mg base 2 "_law_is_light" ["_law_ring_here", "_law_some", "_law_benches"] F__law_is_light) (c__law_walk : Cal P w K mg base 34 "_law_walk" ["_law_ring_here", "_law_benches", "_law_tree", "_law_put", "_law_deep"] (F__law_walk 31)) (c__law_many : Cal P w K mg base 1 "_law_many" ["_law_tree"] F__law_many) : Cal P w K mg base 35 "_law_right" ["_law_ring_here", "_law_benches", "_law_found", "_law_best"] (F__law_right) := by
  refine cal_ok (N := ["_law_ring_here", "_law_benches", "_law_found", "_law_best", "_law_choice", "_law_claims", "_law_i"]) (es := r__law_right) Df_ sc__law_right (fun _ _ _ _ _ _ us hl => match us, hl with | [_, _, _, _], _ => rfl) (fun f cdv A outer s H E hr => ?_) d__law_right
  have hu := hr.units
  exact (jss_cons (js_if (JW.jt (jw_or (jt_not (jt_tru (j_cb call_isi lc_isi rfl b_isinstance (by decide +kernel) (ja_cons (jv 2) (ja_cons (j_ty rfl b_tuple (by decide +kernel)) ja_nil))))) (jw_or1 (jt_cmp (op_neD hu) lo_ne (j_cb call_len lc_len rfl b_len PySem.boot_len (ja_cons (jv 2) ja_nil)) j_int (nomark _))))) (jss_one (js_ret j_bl)) jss_nil)
      (jss_cons (js_if (JW.jt (jw_or (jt_not (jt_tru (j_cal c__law_whole (hr.mono (by decide)) rfl (ja_cons (j_ix (jv 2) j_int) ja_nil)))) (jw_or1 (jt_not (jt_tru (j_cb call_isi lc_isi rfl b_isinstance (by decide +kernel) (ja_cons (j_ix (jv 2) j_int) (ja_cons (j_ty rfl b_list (by decide +kernel)) ja_nil)))))))) (jss_one (js_ret j_bl)) jss_nil)
      (jss_cons (js_set (i := 4) sc__law_right.nd rfl (by first | exact Or.inl rfl | exact Or.inr rfl) (j_ix (jv 2) j_int))
      (jss_cons (js_if (JW.jt (jw_or (jt_cmp (op_neD hu) lo_ne (j_lc (own := [("_law_i", 6)]) rfl sc__law_right.nd (ji_list (jv 4)) (blkOk_by (own := [("_law_i", 6)]) (N := ["_law_ring_here", "_law_benches", "_law_found", "_law_best", "_law_choice", "_law_claims", "_law_i"]) (sc := defScope s__law_right) (by decide +kernel)) (fun _ _ _ _ _ => (jg_name (i := 6) sc__law_right.nd rfl (by first | exact Or.inl rfl | exact Or.inr rfl))) (fun _ _ _ _ _ => (jts_one (jt_not (jt_tru (j_cal c__law_number (hr.mono (by decide)) rfl (ja_cons (jv 6) (ja_cons (j_cb call_len lc_len rfl b_len PySem.boot_len (ja_cons (j_ix (jv 0) j_int) ja_nil)) ja_nil))))))) (fun _ _ _ _ _ => (jv 6))) (j_lst ja_nil) (nomark _)) (jw_or1 (jt_cmp (op_neD hu) lo_ne (j_cb cr_sortedI lc_sortedI rfl b_sorted (by decide +kernel) (ja_cons (jv 4) ja_nil)) (jv 4) (nomark _))))) (jss_one (js_ret j_bl)) jss_nil)
      (jss_cons (js_if (jt_cmp (op_neD hu) lo_ne (j_cb call_len lc_len rfl b_len PySem.boot_len (ja_cons (j_lc (own := [("_law_i", 6)]) rfl sc__law_right.nd (ji_range1 rfl b_range (ja_cons (j_cb call_len lc_len rfl b_len PySem.boot_len (ja_cons (j_ix (jv 0) j_int) ja_nil)) ja_nil)) (blkOk_by (own := [("_law_i", 6)]) (N := ["_law_ring_here", "_law_benches", "_law_found", "_law_best", "_law_choice", "_law_claims", "_law_i"]) (sc := defScope s__law_right) (by decide +kernel)) (fun _ _ _ _ _ => (jg_name (i := 6) sc__law_right.nd rfl (by first | exact Or.inl rfl | exact Or.inr rfl))) (fun _ _ _ _ _ => (jts_one (jt_cmp op_in_seq lo_in (jv 6) (jv 4) rfl))) (fun _ _ _ _ _ => (jv 6))) ja_nil)) (j_cb call_len lc_len rfl b_len PySem.boot_len (ja_cons (jv 4) ja_nil)) (nomark _)) (jss_one (js_ret j_bl)) jss_nil)
      (jss_cons (js_if (jt_not (jt_tru (j_cal c__law_is_light (hr.mono (by decide)) rfl (ja_cons (jv 0) (ja_cons (jv 4) (ja_cons (jv 1) ja_nil)))))) (jss_one (js_ret j_bl)) jss_nil)
      (jss_cons (js_set (i := 5) sc__law_right.nd rfl (by first | exact Or.inl rfl | exact Or.inr rfl) (j_cal c__law_walk (hr.mono (by decide)) rfl (ja_cons (jv 0) (ja_cons (jv 1) (ja_cons (j_ix (jv 2) j_int) (ja_cons (j_tup (ja_cons (j_lst ja_nil) (ja_cons (j_lst ja_nil) ja_nil))) (ja_cons j_int ja_nil)))))))
      (jss_cons (js_if (JW.jt (jw_or (jt_cmp op_isN lo_isN (jv 5) j_non (nomark _)) (jw_or (jt_cmp op_gt lo_gt (j_cal c__law_many (hr.mono (by decide)) rfl (ja_cons (j_ix (jv 2) j_int) ja_nil)) j_int (nomark _)) (jw_or1 (jt_cmp (op_neD hu) lo_ne (j_cb (cr_max rfl) lc_max rfl b_max (by decide +kernel) (ja_cons (jv 5) ja_nil)) (jv 3) (nomark _)))))) (jss_one (js_ret j_bl)) jss_nil)
      (jss_one (js_ret (j_and (j_cmp (op_eqD hu) lo_eq (j_ix (jv 2) j_int) (jv 3) (nomark _)) (j_one (j_cmp (op_eqD hu) lo_eq (j_cb (cr_sum rfl) lc_sum rfl b_sum (by decide +kernel) (ja_cons (j_lc (own := [("_law_i", 6)]) rfl sc__law_right.nd (ji_list (jv 4)) (blkOk_by (own := [("_law_i", 6)]) (N := ["_law_ring_here", "_law_benches", "_law_found", "_law_best", "_law_choice", "_law_claims", "_law_i"]) (sc := defScope s__law_right) (by decide +kernel)) (fun _ _ _ _ _ => (jg_name (i := 6) sc__law_right.nd rfl (by first | exact Or.inl rfl | exact Or.inr rfl))) (fun _ _ _ _ _ => jts_nil) (fun _ _ _ _ _ => (j_ix (j_ix (j_ix (jv 0) j_int) (jv 6)) j_int))) ja_nil)) (jv 3) (nomark _))))))))))))))
theorem ok0__law_lists (Df_ : Df K mg "_law_lists" s__law_lists) (b_isinstance : mg "isinstance" = none) (b_list : mg "list" = none) (b_tuple : mg "tuple" = none) : Cal P w K mg base 1 "_law_lists" ["_law_thing"] (F__law_listsD 0) := by
  refine cal_ok (N := ["_law_thing", "_law_found", "_law_part"]) (es := (fun _ _ _ => False)) Df_ sc__law_lists (fun _ _ _ _ _ _ us hl => match us, hl with | [_], _ => rfl) (fun f cdv A outer s H E hr => ?_) fun _ _ _ h => h
  exact jss_false
theorem ok__law_lists (Df_ : Df K mg "_law_lists" s__law_lists) (b_isinstance : mg "isinstance" = none) (b_list : mg "list" = none) (b_tuple : mg "tuple" = none) (n : Nat) (c__law_lists : Cal P w K mg base (1 + n) "_law_lists" ["_law_thing"] (F__law_listsD n)) : Cal P w K mg base (1 + n + 1) "_law_lists" ["_law_thing"] (F__law_listsD (n + 1)) := by
  refine cal_ok (N := ["_law_thing", "_law_found", "_law_part"]) (es := (r__law_listsD n)) Df_ sc__law_lists (fun _ _ _ _ _ _ us hl => match us, hl with | [_], _ => rfl) (fun f cdv A outer s H E hr => ?_) (d__law_listsD n)
  exact (jss_cons (js_set (i := 1) sc__law_lists.nd rfl (by first | exact Or.inl rfl | exact Or.inr rfl) (j_lstO ja_nil))
      (jss_cons (js_if (jt_tru (j_cb call_isi lc_isi rfl b_isinstance (by decide +kernel) (ja_cons (jv 0) (ja_cons (j_ty rfl b_list (by decide +kernel)) ja_nil)))) (jss_one (js_expr (j_bm PySem.F.plainAttrs_list PySem.F.slot_list_append PySem.F.type_list_append mt_append lm_app (jv 1) (ja_cons (jv 0) ja_nil)))) jss_nil)
      (jss_cons (js_if (jt_tru (j_cb call_isiT lc_isiT rfl b_isinstance (by decide +kernel) (ja_cons (jv 0) (ja_cons (j_tup (ja_cons (j_ty rfl b_list (by decide +kernel)) (ja_cons (j_ty rfl b_tuple (by decide +kernel)) ja_nil))) ja_nil)))) (jss_one (js_for PassesOwn.never rfl (ji_any (jv 0)) (jg_name (i := 2) sc__law_lists.nd rfl (by first | exact Or.inl rfl | exact Or.inr rfl))
      (jss_one (js_set (i := 1) sc__law_lists.nd rfl (by first | exact Or.inl rfl | exact Or.inr rfl) (j_add (jv 1) (j_cal c__law_lists (hr.mono (by omega)) rfl (ja_cons (jv 2) ja_nil))))))) jss_nil)
      (jss_one (js_ret (jv 1))))))
theorem ok__law_apart (Df_ : Df K mg "_law_apart" s__law_apart) (b_len : mg "len" = none) (c__law_lists : Cal P w K mg base 27 "_law_lists" ["_law_thing"] (F__law_listsD 26)) : Cal P w K mg base 28 "_law_apart" ["_law_found"] (F__law_apart) := by
  refine cal_ok (N := ["_law_found", "_law_lists_here", "_law_sizes", "_law_one", "_law_size"]) (es := r__law_apart) Df_ sc__law_apart (fun _ _ _ _ _ _ us hl => match us, hl with | [_], _ => rfl) (fun f cdv A outer s H E hr => ?_) d__law_apart
  have hu := hr.units
  exact (jss_cons (js_set (i := 1) sc__law_apart.nd rfl (by first | exact Or.inl rfl | exact Or.inr rfl) (j_cal c__law_lists (hr.mono (by decide)) rfl (ja_cons (jv 0) ja_nil)))
      (jss_cons (js_setLc (i := 2) (own := [("_law_one", 3)]) rfl sc__law_apart.nd rfl rfl (sw_true rfl rfl rfl (by decide +kernel)) (ji_list (jv 1)) (blkOk_by (own := [("_law_one", 3)]) (N := ["_law_found", "_law_lists_here", "_law_sizes", "_law_one", "_law_size"]) (sc := defScope s__law_apart) (by decide +kernel)) (fun _ _ _ _ _ => (jg_name (i := 3) sc__law_apart.nd rfl (by first | exact Or.inl rfl | exact Or.inr rfl))) (fun _ _ _ _ _ => jts_nil) (fun _ _ _ _ _ => (j_cb call_len lc_len rfl b_len PySem.boot_len (ja_cons (jv 3) ja_nil))))
      (jss_cons (js_for PassesOwn.never rfl (ji_list (jv 1)) (jg_name (i := 3) sc__law_apart.nd rfl (by first | exact Or.inl rfl | exact Or.inr rfl))
      (jss_one (js_expr (j_bm PySem.F.plainAttrs_list PySem.F.slot_list_append PySem.F.type_list_append mt_append lm_app (jv 3) (ja_cons j_non ja_nil)))))
      (jss_one (js_ret (j_cmp (op_eqD hu) lo_eq (j_lc (own := [("_law_one", 3)]) rfl sc__law_apart.nd (ji_list (jv 1)) (blkOk_by (own := [("_law_one", 3)]) (N := ["_law_found", "_law_lists_here", "_law_sizes", "_law_one", "_law_size"]) (sc := defScope s__law_apart) (by decide +kernel)) (fun _ _ _ _ _ => (jg_name (i := 3) sc__law_apart.nd rfl (by first | exact Or.inl rfl | exact Or.inr rfl))) (fun _ _ _ _ _ => jts_nil) (fun _ _ _ _ _ => (j_cb call_len lc_len rfl b_len PySem.boot_len (ja_cons (jv 3) ja_nil)))) (j_lc (own := [("_law_size", 4)]) rfl sc__law_apart.nd (ji_list (jv 2)) (blkOk_by (own := [("_law_size", 4)]) (N := ["_law_found", "_law_lists_here", "_law_sizes", "_law_one", "_law_size"]) (sc := defScope s__law_apart) (by decide +kernel)) (fun _ _ _ _ _ => (jg_name (i := 4) sc__law_apart.nd rfl (by first | exact Or.inl rfl | exact Or.inr rfl))) (fun _ _ _ _ _ => jts_nil) (fun _ _ _ _ _ => (j_add (jv 4) j_int))) (nomark _)))))))
theorem ok__law_greater (Df_ : Df K mg "_law_greater" s__law_greater) (b_list : mg "list" = none) (b_range : mg "range" = none) (b_len : mg "len" = none) (b_min : mg "min" = none) (c__law_take : Cal P w K mg base 1 "_law_take" ["_law_state", "_law_many_here"] F__law_take) (c__law_ring : Cal P w K mg base 3 "_law_ring" ["_law_state", "_law_most"] F__law_ring) (c__law_load_in : Cal P w K mg base 1 "_law_load_in" ["_law_ring_here", "_law_inside", "_law_moment"] F__law_load_in) (c__law_refused : Cal P w K mg base 17 "_law_refused" ["_law_ring_here", "_law_benches"] F__law_refused) (c_ring_most : CalX P w K mg base 16 "ring_most" ["ring", "benches"] F_ring_mostO) (c__law_right : Cal P w K mg base 35 "_law_right" ["_law_ring_here", "_law_benches", "_law_found", "_law_best"] F__law_right) (c__law_apart : Cal P w K mg base 28 "_law_apart" ["_law_found"] F__law_apart) : Cal P w K mg base 36 "_law_greater" ["_law_state"] (F__law_greater) := by
  refine cal_ok (N := ["_law_state", "_law_ring_here", "_law_benches", "_law_numbers", "_law_found", "_law_moment"]) (es := r__law_greater) Df_ sc__law_greater (fun _ _ _ _ _ _ us hl => match us, hl with | [_], _ => rfl) (fun f cdv A outer s H E hr => ?_) d__law_greater
  exact (jss_cons (js_set (i := 1) sc__law_greater.nd rfl (by first | exact Or.inl rfl | exact Or.inr rfl) (j_cal c__law_ring (hr.mono (by decide)) rfl (ja_cons (jv 0) (ja_cons (j_ix (j_lst (ja_cons j_int (ja_cons j_int (ja_cons j_int (ja_cons j_int ja_nil))))) (j_cal c__law_take (hr.mono (by decide)) rfl (ja_cons (jv 0) (ja_cons j_int ja_nil)))) ja_nil))))
      (jss_cons (js_set (i := 2) sc__law_greater.nd rfl (by first | exact Or.inl rfl | exact Or.inr rfl) (j_cal c__law_take (hr.mono (by decide)) rfl (ja_cons (jv 0) (ja_cons j_int ja_nil))))
      (jss_cons (js_set (i := 3) sc__law_greater.nd rfl (by first | exact Or.inl rfl | exact Or.inr rfl) (j_listrange rfl b_list rfl b_range (j_cb call_len lc_len rfl b_len PySem.boot_len (ja_cons (j_ix (jv 1) j_int) ja_nil))))
      (jss_cons (js_if (jt_cmp op_gt lo_gt (j_cb (cr_min rfl) lc_min rfl b_min (by decide +kernel) (ja_cons (j_lc (own := [("_law_moment", 5)]) rfl sc__law_greater.nd (ji_range1 rfl b_range (ja_cons (j_ix (jv 1) j_int) ja_nil)) (blkOk_by (own := [("_law_moment", 5)]) (N := ["_law_state", "_law_ring_here", "_law_benches", "_law_numbers", "_law_found", "_law_moment"]) (sc := defScope s__law_greater) (by decide +kernel)) (fun _ _ _ _ _ => (jg_name (i := 5) sc__law_greater.nd rfl (by first | exact Or.inl rfl | exact Or.inr rfl))) (fun _ _ _ _ _ => jts_nil) (fun _ _ _ _ _ => (j_cal c__law_load_in (hr.mono (by decide)) rfl (ja_cons (jv 1) (ja_cons (jv 3) (ja_cons (jv 5) ja_nil)))))) ja_nil)) j_int (nomark _)) (jss_one (js_ret (j_cal c__law_refused (hr.mono (by decide)) rfl (ja_cons (jv 1) (ja_cons (jv 2) ja_nil))))) jss_nil)
      (jss_cons (js_set (i := 4) sc__law_greater.nd rfl (by first | exact Or.inl rfl | exact Or.inr rfl) (j_cal (calX_never c_ring_most) (hr.mono (by decide)) rfl (ja_cons (j_tup (ja_cons (j_ix (jv 1) j_int) (ja_cons (j_ct call_list_of lc_list rfl b_list (by decide +kernel) (ja_cons (j_ix (jv 1) j_int) ja_nil)) ja_nil))) (ja_cons (jv 2) ja_nil))))
      (jss_one (js_ret (j_and (j_calF c__law_right (hr.mono (by decide)) rfl (ja_cons (jv 1) (ja_cons (jv 2) (ja_cons (jv 4) (ja_cons (j_ix (jv 4) j_int) ja_nil))))) (j_one (j_cal c__law_apart (hr.mono (by decide)) rfl (ja_cons (jv 4) ja_nil)))))))))))
theorem ok_law {f : Addr} {fd : FuncData} (FD : FunD K "law" "law" (defArgs s_law) (defBody s_law) (defScope s_law) [] [] f fd) (b_range : mg "range" = none) (b_max : mg "max" = none) (b_min : mg "min" = none) (b_len : mg "len" = none) (b_list : mg "list" = none) (b_sum : mg "sum" = none) (b_str : mg "str" = none) (c__law_begun : Cal P w K mg base 1 "_law_begun" ["_law_script", "_law_k"] F__law_begun) (c__law_take : Cal P w K mg base 1 "_law_take" ["_law_state", "_law_many_here"] F__law_take) (c__law_round : Cal P w K mg base 2 "_law_round" ["_law_state", "_law_many_here"] F__law_round) (c__law_ring : Cal P w K mg base 3 "_law_ring" ["_law_state", "_law_most"] F__law_ring) (c__law_load_in : Cal P w K mg base 1 "_law_load_in" ["_law_ring_here", "_law_inside", "_law_moment"] F__law_load_in) (c__law_refused : Cal P w K mg base 17 "_law_refused" ["_law_ring_here", "_law_benches"] F__law_refused) (c__law_ring_choices : Cal P w K mg base 3 "_law_ring_choices" ["_law_ring_here", "_law_benches"] F__law_ring_choices) (c_ring_most : CalX P w K mg base 16 "ring_most" ["ring", "benches"] F_ring_mostO) (c__law_right : Cal P w K mg base 35 "_law_right" ["_law_ring_here", "_law_benches", "_law_found", "_law_best"] F__law_right) (c__law_apart : Cal P w K mg base 28 "_law_apart" ["_law_found"] F__law_apart) (c__law_greater : Cal P w K mg base 36 "_law_greater" ["_law_state"] F__law_greater) (hsy : ∃ m, base.Ns sysModules m) : FKG P w K mg base 37 f fd ["_law_script"] (lawF 63) := by
  refine fkG_ok (N := ["_law_script", "_law_k", "_law_state", "_law_way", "_law_ring_here", "_law_benches", "_law_numbers", "_law_handed", "_law_choices", "_law_best", "_law_found", "_law_kept", "_law_moment", "_law_some", "_law_i"]) (es := r_law) FD sc_law (fun cdv A outer s H E hr gd => ?_) d_law
  have hu := hr.units
  exact (jss_cons (js_for PassesOwn.never rfl (ji_range1 rfl b_range (ja_cons (j_cb (call_max2 rfl) lc_max2 rfl b_max (by decide +kernel) (ja_cons j_int (ja_cons (j_cb (call_min2 rfl) lc_min2 rfl b_min (by decide +kernel) (ja_cons (j_cb call_len lc_len rfl b_len PySem.boot_len (ja_cons (jv 0) ja_nil)) (ja_cons j_int ja_nil))) ja_nil))) ja_nil)) (jg_name (i := 1) sc_law.nd rfl (by first | exact Or.inl rfl | exact Or.inr rfl))
      (jss_cons (js_set (i := 2) sc_law.nd rfl (by first | exact Or.inl rfl | exact Or.inr rfl) (j_cal c__law_begun (hr.mono (by decide)) rfl (ja_cons (jv 0) (ja_cons (jv 1) ja_nil))))
      (jss_cons (js_set (i := 3) sc_law.nd rfl (by first | exact Or.inl rfl | exact Or.inr rfl) (j_cal c__law_take (hr.mono (by decide)) rfl (ja_cons (jv 2) (ja_cons j_int ja_nil))))
      (jss_cons (js_set (i := 4) sc_law.nd rfl (by first | exact Or.inl rfl | exact Or.inr rfl) (j_cal c__law_round (hr.mono (by decide)) rfl (ja_cons (jv 2) (ja_cons (j_ix (j_lst (ja_cons j_int (ja_cons j_int (ja_cons j_int (ja_cons j_int ja_nil))))) (jv 3)) ja_nil))))
      (jss_cons (js_if (jt_cmp op_lt lo_lt (jv 3) j_int (nomark _)) (jss_one (js_set (i := 4) sc_law.nd rfl (by first | exact Or.inl rfl | exact Or.inr rfl) (j_cal c__law_ring (hr.mono (by decide)) rfl (ja_cons (jv 2) (ja_cons j_int ja_nil))))) jss_nil)
      (jss_cons (js_set (i := 5) sc_law.nd rfl (by first | exact Or.inl rfl | exact Or.inr rfl) (j_cal c__law_take (hr.mono (by decide)) rfl (ja_cons (jv 2) (ja_cons (j_ix (j_lst (ja_cons j_int (ja_cons j_int ja_nil))) (j_div (j_cal c__law_take (hr.mono (by decide)) rfl (ja_cons (jv 2) (ja_cons j_int ja_nil))) j_int)) ja_nil))))
      (jss_cons (js_set (i := 6) sc_law.nd rfl (by first | exact Or.inl rfl | exact Or.inr rfl) (j_listrange rfl b_list rfl b_range (j_cb call_len lc_len rfl b_len PySem.boot_len (ja_cons (j_ix (jv 4) j_int) ja_nil))))
      (jss_cons (js_set (i := 7) sc_law.nd rfl (by first | exact Or.inl rfl | exact Or.inr rfl) (j_tup (ja_cons (j_ix (jv 4) j_int) (ja_cons (j_ct call_list_of lc_list rfl b_list (by decide +kernel) (ja_cons (j_ix (jv 4) j_int) ja_nil)) ja_nil))))
      (jss_one (js_if (jt_cmp op_gt lo_gt (j_cb (cr_min rfl) lc_min rfl b_min (by decide +kernel) (ja_cons (j_lc (own := [("_law_moment", 12)]) rfl sc_law.nd (ji_range1 rfl b_range (ja_cons (j_ix (jv 4) j_int) ja_nil)) (blkOk_by (own := [("_law_moment", 12)]) (N := ["_law_script", "_law_k", "_law_state", "_law_way", "_law_ring_here", "_law_benches", "_law_numbers", "_law_handed", "_law_choices", "_law_best", "_law_found", "_law_kept", "_law_moment", "_law_some", "_law_i"]) (sc := defScope s_law) (by decide +kernel)) (fun _ _ _ _ _ => (jg_name (i := 12) sc_law.nd rfl (by first | exact Or.inl rfl | exact Or.inr rfl))) (fun _ _ _ _ _ => jts_nil) (fun _ _ _ _ _ => (j_cal c__law_load_in (hr.mono (by decide)) rfl (ja_cons (jv 4) (ja_cons (jv 6) (ja_cons (jv 12) ja_nil)))))) ja_nil)) j_int (nomark _)) (jss_one (js_if (jt_not (jt_tru (j_cal c__law_refused (hr.mono (by decide)) rfl (ja_cons (jv 7) (ja_cons (jv 5) ja_nil))))) (jss_one (js_ret j_bl)) jss_nil)) (jss_cons (js_set (i := 8) sc_law.nd rfl (by first | exact Or.inl rfl | exact Or.inr rfl) (j_cal c__law_ring_choices (hr.mono (by decide)) rfl (ja_cons (jv 4) (ja_cons (jv 5) ja_nil))))
      (jss_cons (js_set (i := 9) sc_law.nd rfl (by first | exact Or.inl rfl | exact Or.inr rfl) (j_cb (cr_max rfl) lc_max rfl b_max (by decide +kernel) (ja_cons (j_lc (own := [("_law_some", 13)]) rfl sc_law.nd (ji_list (jv 8)) (blkOk_by (own := [("_law_some", 13)]) (N := ["_law_script", "_law_k", "_law_state", "_law_way", "_law_ring_here", "_law_benches", "_law_numbers", "_law_handed", "_law_choices", "_law_best", "_law_found", "_law_kept", "_law_moment", "_law_some", "_law_i"]) (sc := defScope s_law) (by decide +kernel)) (fun _ _ _ _ _ => (jg_name (i := 13) sc_law.nd rfl (by first | exact Or.inl rfl | exact Or.inr rfl))) (fun _ _ _ _ _ => jts_nil) (fun _ _ _ _ _ => (j_cb (cr_sum rfl) lc_sum rfl b_sum (by decide +kernel) (ja_cons (j_lc (own := [("_law_i", 14)]) rfl sc_law.nd (ji_list (jv 13)) (blkOk_by (own := [("_law_i", 14)]) (by kernel_rfl)) (fun _ _ _ _ _ => (jg_name (i := 14) sc_law.nd rfl (by first | exact Or.inl rfl | exact Or.inr rfl))) (fun _ _ _ _ _ => jts_nil) (fun _ _ _ _ _ => (j_ix (j_ix (j_ix (jv 4) j_int) (jv 14)) j_int))) ja_nil)))) ja_nil)))
      (jss_cons (js_set (i := 10) sc_law.nd rfl (by first | exact Or.inl rfl | exact Or.inr rfl) (j_cal (calX_never c_ring_most) (hr.mono (by decide)) rfl (ja_cons (jv 7) (ja_cons (jv 5) ja_nil))))
      (jss_cons (js_if (JW.jt (jw_or (jt_not (jt_tru (j_calF c__law_right (hr.mono (by decide)) rfl (ja_cons (jv 4) (ja_cons (jv 5) (ja_cons (jv 10) (ja_cons (jv 9) ja_nil))))))) (jw_or1 (jt_cmp (op_neD hu) lo_ne (jv 7) (jv 4) (nomark _))))) (jss_one (js_ret j_bl)) jss_nil)
      (jss_cons (js_set (i := 11) sc_law.nd rfl (by first | exact Or.inl rfl | exact Or.inr rfl) (j_ct (cr_strX gd hu hsy) (lc_fr lc_strX) rfl b_str (by decide +kernel) (ja_cons (jv 10) ja_nil)))
      (jss_one (js_if (JW.jt (jw_or (jt_not (jt_tru (j_cal c__law_apart (hr.mono (by decide)) rfl (ja_cons (jv 10) ja_nil)))) (jw_or1 (jt_cmp (op_neD hu) lo_ne (j_ct (cr_strX gd hu hsy) (lc_fr lc_strX) rfl b_str (by decide +kernel) (ja_cons (j_cal (calX_never c_ring_most) (hr.mono (by decide)) rfl (ja_cons (jv 7) (ja_cons (jv 5) ja_nil))) ja_nil)) (jv 11) (nomark _))))) (jss_one (js_ret j_bl)) jss_nil)))))))))))))))))
      (jss_one (js_ret (j_cal c__law_greater (hr.mono (by decide)) rfl (ja_cons (j_cal c__law_begun (hr.mono (by decide)) rfl (ja_cons (jv 0) (ja_cons j_int ja_nil))) ja_nil)))))
end
def dd__law_begun : He.DefD := ⟨("_law_begun", none), "_law_begun", "_law_begun", defArgs s__law_begun, defBody s__law_begun, defScope s__law_begun, [], []⟩
def dd__law_take : He.DefD := ⟨("_law_take", none), "_law_take", "_law_take", defArgs s__law_take, defBody s__law_take, defScope s__law_take, [], []⟩
def dd__law_round : He.DefD := ⟨("_law_round", none), "_law_round", "_law_round", defArgs s__law_round, defBody s__law_round, defScope s__law_round, [], []⟩
def dd__law_name : He.DefD := ⟨("_law_name", none), "_law_name", "_law_name", defArgs s__law_name, defBody s__law_name, defScope s__law_name, [], []⟩
def dd__law_ring : He.DefD := ⟨("_law_ring", none), "_law_ring", "_law_ring", defArgs s__law_ring, defBody s__law_ring, defScope s__law_ring, [], []⟩
def dd__law_load_in : He.DefD := ⟨("_law_load_in", none), "_law_load_in", "_law_load_in", defArgs s__law_load_in, defBody s__law_load_in, defScope s__law_load_in, [], []⟩
def dd_is_over_ring : He.DefD := ⟨("is_over_ring", none), "is_over_ring", "is_over_ring", defArgs s_is_over_ring, defBody s_is_over_ring, defScope s_is_over_ring, [], []⟩
def dd_load_on : He.DefD := ⟨("load_on", none), "load_on", "load_on", defArgs s_load_on, defBody s_load_on, defScope s_load_on, [], []⟩
def dd_ring_loads : He.DefD := ⟨("ring_loads", none), "ring_loads", "ring_loads", defArgs s_ring_loads, defBody s_ring_loads, defScope s_ring_loads, [], []⟩
def dd_seam_of : He.DefD := ⟨("seam_of", none), "seam_of", "seam_of", defArgs s_seam_of, defBody s_seam_of, defScope s_seam_of, [], []⟩
def dd_Seam___init__ : He.DefD := ⟨("Seam", some "__init__"), "__init__", "Seam.__init__", defArgs s_Seam___init__, defBody s_Seam___init__, defScope s_Seam___init__, [], []⟩
def dd_Seam_crowded : He.DefD := ⟨("Seam", some "crowded"), "crowded", "Seam.crowded", defArgs s_Seam_crowded, defBody s_Seam_crowded, defScope s_Seam_crowded, [], []⟩
def dd_Seam_line_moments : He.DefD := ⟨("Seam", some "line_moments"), "line_moments", "Seam.line_moments", defArgs s_Seam_line_moments, defBody s_Seam_line_moments, defScope s_Seam_line_moments, [], []⟩
def dd_Seam_line_spans : He.DefD := ⟨("Seam", some "line_spans"), "line_spans", "Seam.line_spans", defArgs s_Seam_line_spans, defBody s_Seam_line_spans, defScope s_Seam_line_spans, [], []⟩
def dd_Line___init__ : He.DefD := ⟨("Line", some "__init__"), "__init__", "Line.__init__", defArgs s_Line___init__, defBody s_Line___init__, defScope s_Line___init__, [], []⟩
def dd_Line_piece_arcs : He.DefD := ⟨("Line", some "piece_arcs"), "piece_arcs", "Line.piece_arcs", defArgs s_Line_piece_arcs, defBody s_Line_piece_arcs, defScope s_Line_piece_arcs, [], []⟩
def dd_Line_span_arc : He.DefD := ⟨("Line", some "span_arc"), "span_arc", "Line.span_arc", defArgs s_Line_span_arc, defBody s_Line_span_arc, defScope s_Line_span_arc, [], []⟩
def dd_Line_arcs_left : He.DefD := ⟨("Line", some "arcs_left"), "arcs_left", "Line.arcs_left", defArgs s_Line_arcs_left, defBody s_Line_arcs_left, defScope s_Line_arcs_left, [], []⟩
def dd_Line_roads_told : He.DefD := ⟨("Line", some "roads_told"), "roads_told", "Line.roads_told", defArgs s_Line_roads_told, defBody s_Line_roads_told, defScope s_Line_roads_told, [], []⟩
def dd_Line_go_along : He.DefD := ⟨("Line", some "go_along"), "go_along", "Line.go_along", defArgs s_Line_go_along, defBody s_Line_go_along, defScope s_Line_go_along, [], []⟩
def dd_Line_send_unit : He.DefD := ⟨("Line", some "send_unit"), "send_unit", "Line.send_unit", defArgs s_Line_send_unit, defBody s_Line_send_unit, defScope s_Line_send_unit, [], []⟩
def dd_Line_greatest_over : He.DefD := ⟨("Line", some "greatest_over"), "greatest_over", "Line.greatest_over", defArgs s_Line_greatest_over, defBody s_Line_greatest_over, defScope s_Line_greatest_over, [], []⟩
def dd_Line_prices_now : He.DefD := ⟨("Line", some "prices_now"), "prices_now", "Line.prices_now", defArgs s_Line_prices_now, defBody s_Line_prices_now, defScope s_Line_prices_now, [], []⟩
def dd_Line_taken_now : He.DefD := ⟨("Line", some "taken_now"), "taken_now", "Line.taken_now", defArgs s_Line_taken_now, defBody s_Line_taken_now, defScope s_Line_taken_now, [], []⟩
def dd_chosen_within : He.DefD := ⟨("chosen_within", none), "chosen_within", "chosen_within", defArgs s_chosen_within, defBody s_chosen_within, defScope s_chosen_within, [], []⟩
def dd_Seam_leaf : He.DefD := ⟨("Seam", some "leaf"), "leaf", "Seam.leaf", defArgs s_Seam_leaf, defBody s_Seam_leaf, defScope s_Seam_leaf, [], []⟩
def dd_Seam_tree : He.DefD := ⟨("Seam", some "tree"), "tree", "Seam.tree", defArgs s_Seam_tree, defBody s_Seam_tree, defScope s_Seam_tree, [], []⟩
def dd_ring_most : He.DefD := ⟨("ring_most", none), "ring_most", "ring_most", defArgs s_ring_most, defBody s_ring_most, defScope s_ring_most, [], []⟩
def dd__law_refused : He.DefD := ⟨("_law_refused", none), "_law_refused", "_law_refused", defArgs s__law_refused, defBody s__law_refused, defScope s__law_refused, [], []⟩
def dd__law_moments : He.DefD := ⟨("_law_moments", none), "_law_moments", "_law_moments", defArgs s__law_moments, defBody s__law_moments, defScope s__law_moments, [], []⟩
def dd__law_is_light : He.DefD := ⟨("_law_is_light", none), "_law_is_light", "_law_is_light", defArgs s__law_is_light, defBody s__law_is_light, defScope s__law_is_light, [], []⟩
def dd__law_ring_choices : He.DefD := ⟨("_law_ring_choices", none), "_law_ring_choices", "_law_ring_choices", defArgs s__law_ring_choices, defBody s__law_ring_choices, defScope s__law_ring_choices, [], []⟩
def dd__law_whole : He.DefD := ⟨("_law_whole", none), "_law_whole", "_law_whole", defArgs s__law_whole, defBody s__law_whole, defScope s__law_whole, [], []⟩
def dd__law_number : He.DefD := ⟨("_law_number", none), "_law_number", "_law_number", defArgs s__law_number, defBody s__law_number, defScope s__law_number, [], []⟩
def dd__law_is_paper : He.DefD := ⟨("_law_is_paper", none), "_law_is_paper", "_law_is_paper", defArgs s__law_is_paper, defBody s__law_is_paper, defScope s__law_is_paper, [], []⟩
def dd__law_ring_rest : He.DefD := ⟨("_law_ring_rest", none), "_law_ring_rest", "_law_ring_rest", defArgs s__law_ring_rest, defBody s__law_ring_rest, defScope s__law_ring_rest, [], []⟩
def dd__law_priced : He.DefD := ⟨("_law_priced", none), "_law_priced", "_law_priced", defArgs s__law_priced, defBody s__law_priced, defScope s__law_priced, [], []⟩
def dd__law_walk : He.DefD := ⟨("_law_walk", none), "_law_walk", "_law_walk", defArgs s__law_walk, defBody s__law_walk, defScope s__law_walk, [], []⟩
def dd__law_many : He.DefD := ⟨("_law_many", none), "_law_many", "_law_many", defArgs s__law_many, defBody s__law_many, defScope s__law_many, [], []⟩
def dd__law_right : He.DefD := ⟨("_law_right", none), "_law_right", "_law_right", defArgs s__law_right, defBody s__law_right, defScope s__law_right, [], []⟩
def dd__law_lists : He.DefD := ⟨("_law_lists", none), "_law_lists", "_law_lists", defArgs s__law_lists, defBody s__law_lists, defScope s__law_lists, [], []⟩
def dd__law_apart : He.DefD := ⟨("_law_apart", none), "_law_apart", "_law_apart", defArgs s__law_apart, defBody s__law_apart, defScope s__law_apart, [], []⟩
def dd__law_greater : He.DefD := ⟨("_law_greater", none), "_law_greater", "_law_greater", defArgs s__law_greater, defBody s__law_greater, defScope s__law_greater, [], []⟩
def dd_law : He.DefD := ⟨("law", none), "law", "law", defArgs s_law, defBody s_law, defScope s_law, [], []⟩
def exK (K : PySem.W.Frag) : Bool := allB K (["TooMany"] : List Str) (tExm "BenchError") && (allB K (["TooMany"] : List Str) (tKit "TooMany") && (allB K (["TooMany"] : List Str) tKitV && (allB K (["TooMany"] : List Str) (tKit "Crowded") && (allB K (["TooMany"] : List Str) (tKit "NoBenches") && (allB K (["TooMany"] : List Str) (tKit "NoBook") && (allB K (["TooMany"] : List Str) (tKit "NoRing") && (allB K (["TooMany"] : List Str) (tKit "NoRow") && (allB K (["TooMany"] : List Str) (tKit "NoStretch") && (allB K (["TooMany"] : List Str) (tKit "NoText") && (allB K (["TooMany"] : List Str) (tKit "NoTree") && (allB K (["TooMany"] : List Str) (tKit "NoTurn") && (allB K (["TooMany"] : List Str) (tKit "NoUndo") && (allB K (["TooMany"] : List Str) (tKit "Unknown") && (allB K (["TooMany"] : List Str) tExc && true))))))))))))))
def fn : List He.DefD := [dd__law_begun, dd__law_take, dd__law_round, dd__law_name, dd__law_ring, dd__law_load_in, dd_is_over_ring, dd_load_on, dd_ring_loads, dd_seam_of, dd_Seam___init__, dd_Seam_crowded, dd_Seam_line_moments, dd_Seam_line_spans, dd_Line___init__, dd_Line_piece_arcs, dd_Line_span_arc, dd_Line_arcs_left, dd_Line_roads_told, dd_Line_go_along, dd_Line_send_unit, dd_Line_greatest_over, dd_Line_prices_now, dd_Line_taken_now, dd_chosen_within, dd_Seam_leaf, dd_Seam_tree, dd_ring_most, dd__law_refused, dd__law_moments, dd__law_is_light, dd__law_ring_choices, dd__law_whole, dd__law_number, dd__law_is_paper, dd__law_ring_rest, dd__law_priced, dd__law_walk, dd__law_many, dd__law_right, dd__law_lists, dd__law_apart, dd__law_greater, dd_law]
def fa : List He.Fa := [.glo "_law_begun", .glo "_law_take", .glo "_law_round", .glo "_law_name", .glo "_law_ring", .glo "_law_load_in", .glo "is_over_ring", .glo "load_on", .glo "ring_loads", .glo "seam_of", .glo "chosen_within", .glo "ring_most", .glo "_law_refused", .glo "_law_moments", .glo "_law_is_light", .glo "_law_ring_choices", .glo "_law_whole", .glo "_law_number", .glo "_law_is_paper", .glo "_law_ring_rest", .glo "_law_priced", .glo "_law_walk", .glo "_law_many", .glo "_law_right", .glo "_law_lists", .glo "_law_apart", .glo "_law_greater", .glo "law", .free "ValueError", .free "bool", .free "int", .free "isinstance", .free "len", .free "list", .free "max", .free "min", .free "range", .free "sorted", .free "str", .free "sum", .free "tuple", .free "zip", .int "MOST_OVER" 6, .cls "Seam", .cls "Line", .mkr "Line", .glo "Line", .mkr "Seam", .glo "Seam", .meth "Line" "piece_arcs", .meth "Line" "span_arc", .meth "Line" "arcs_left", .meth "Line" "roads_told", .meth "Line" "go_along", .meth "Line" "greatest_over", .meth "Line" "send_unit", .meth "Line" "prices_now", .meth "Line" "taken_now", .meth "Seam" "line_moments", .meth "Seam" "line_spans", .meth "Seam" "crowded", .meth "Seam" "leaf", .meth "Seam" "tree", .noat "Seam" "ring", .noat "Seam" "benches", .noat "Seam" "moment", .noat "Seam" "over_it", .noat "Seam" "beside_it", .noat "Seam" "best", .noat "Line" "own_spans", .noat "Line" "own_must", .noat "Line" "filled", .noat "Line" "idle", .noat "Line" "taken", .noat "Line" "great", .exc "TooMany", .glo "BenchError", .glo "Crowded", .glo "NoBenches", .glo "NoBook", .glo "NoRing", .glo "NoRow", .glo "NoStretch", .glo "NoText", .glo "NoTree", .glo "NoTurn", .glo "NoUndo", .glo "TooMany", .glo "Unknown"]
abbrev R : PySem.W.OpenRow := PySem.W.OpenLaw.row PySem.Challenge.rw_benchworth_k60_the_most_of_a_ring
abbrev hk : PySem.W.Hook := hookB 4 fa fn exK
def ob (s : PySem.W.SharedT) : He.AlD × Bool := obsB 4 fa fn exK (HandSHeadRun.getT s)
theorem ob_eq (s : PySem.W.SharedT) : ob s = hk.obs s.abs := obsB_eq (HandSHeadRun.getT_eq s)
def loose : List Str := (["Crowded.__init__", "NoBook.__init__", "NoRing.__init__", "NoTree.__init__", "NoText.__init__", "is_over_ring", "load_on", "ring_loads", "Line.__init__", "Line.piece_arcs", "Line.span_arc", "Line.arcs_left", "Line.roads_told", "Line.go_along", "Line.send_unit", "Line.greatest_over", "Line.prices_now", "Line.taken_now", "chosen_within", "seam_of", "Seam.__init__", "Seam.line_moments", "Seam.line_spans", "Seam.crowded", "Seam.leaf", "Seam.tree", "ring_most", "_law_begun", "_law_take", "_law_name"] : List Str) ++ (["_law_is_paper", "_law_ring", "_law_moments", "_law_is_light", "_law_ring_choices", "_law_ring_rest", "_law_load_in", "_law_whole", "_law_number", "_law_priced", "_law_walk", "_law_many", "_law_right", "_law_refused", "_law_round", "_law_lists", "_law_apart", "_law_greater", "MOST_OVER", "BenchError", "Crowded", "NoBook", "NoRing", "NoTree", "NoText", "TooMany", "NoBenches", "NoStretch", "Unknown", "NoUndo"] : List Str) ++ (["NoTurn", "NoRow", "Line", "Seam"] : List Str)
theorem run (w : World) : HandSHeadRun.RunEq R (PySem.W.view R.prog [48]) hk ob 20000 loose w := by
  intro os
  kernel_rfl
theorem facts {P : Program} {w : World} {K : PySem.W.Frag} {h : Heap} {mg : Str → Option Value} {f : Addr} (X : K.In h) (G : h.Ns mainGlobals mg) (hfa : mg ("law" : Str) = some (.ref f)) (c : He.SaysD fa fn K) (hx : exK K = true) :
    ∃ fd : FuncData, (∀ (s : Shared) (v : Value), BindsTo s fd ⟨[v], []⟩ [("_law_script", v)]) ∧ ∀ base : Heap, K.In base → base.Ns mainGlobals mg → (∃ m, base.Ns sysModules m) → FKG P w K mg base 37 f fd ["_law_script"] (lawF 63) := by
  have g__law_begun := He.glo_ok X G (c.fact 0 (f := .glo "_law_begun") rfl)
  have g__law_take := He.glo_ok X G (c.fact 1 (f := .glo "_law_take") rfl)
  have g__law_round := He.glo_ok X G (c.fact 2 (f := .glo "_law_round") rfl)
  have g__law_name := He.glo_ok X G (c.fact 3 (f := .glo "_law_name") rfl)
  have g__law_ring := He.glo_ok X G (c.fact 4 (f := .glo "_law_ring") rfl)
  have g__law_load_in := He.glo_ok X G (c.fact 5 (f := .glo "_law_load_in") rfl)
  have g_is_over_ring := He.glo_ok X G (c.fact 6 (f := .glo "is_over_ring") rfl)
  have g_load_on := He.glo_ok X G (c.fact 7 (f := .glo "load_on") rfl)
  have g_ring_loads := He.glo_ok X G (c.fact 8 (f := .glo "ring_loads") rfl)
  have g_seam_of := He.glo_ok X G (c.fact 9 (f := .glo "seam_of") rfl)
  have g_chosen_within := He.glo_ok X G (c.fact 10 (f := .glo "chosen_within") rfl)
  have g_ring_most := He.glo_ok X G (c.fact 11 (f := .glo "ring_most") rfl)
  have g__law_refused := He.glo_ok X G (c.fact 12 (f := .glo "_law_refused") rfl)
  have g__law_moments := He.glo_ok X G (c.fact 13 (f := .glo "_law_moments") rfl)
  have g__law_is_light := He.glo_ok X G (c.fact 14 (f := .glo "_law_is_light") rfl)
  have g__law_ring_choices := He.glo_ok X G (c.fact 15 (f := .glo "_law_ring_choices") rfl)
  have g__law_whole := He.glo_ok X G (c.fact 16 (f := .glo "_law_whole") rfl)
  have g__law_number := He.glo_ok X G (c.fact 17 (f := .glo "_law_number") rfl)
  have g__law_is_paper := He.glo_ok X G (c.fact 18 (f := .glo "_law_is_paper") rfl)
  have g__law_ring_rest := He.glo_ok X G (c.fact 19 (f := .glo "_law_ring_rest") rfl)
  have g__law_priced := He.glo_ok X G (c.fact 20 (f := .glo "_law_priced") rfl)
  have g__law_walk := He.glo_ok X G (c.fact 21 (f := .glo "_law_walk") rfl)
  have g__law_many := He.glo_ok X G (c.fact 22 (f := .glo "_law_many") rfl)
  have g__law_right := He.glo_ok X G (c.fact 23 (f := .glo "_law_right") rfl)
  have g__law_lists := He.glo_ok X G (c.fact 24 (f := .glo "_law_lists") rfl)
  have g__law_apart := He.glo_ok X G (c.fact 25 (f := .glo "_law_apart") rfl)
  have g__law_greater := He.glo_ok X G (c.fact 26 (f := .glo "_law_greater") rfl)
  have g_law := He.glo_ok X G (c.fact 27 (f := .glo "law") rfl)
  have b_ValueError := He.free_ok X G (c.fact 28 (f := .free "ValueError") rfl)
  have b_bool := He.free_ok X G (c.fact 29 (f := .free "bool") rfl)
  have b_int := He.free_ok X G (c.fact 30 (f := .free "int") rfl)
  have b_isinstance := He.free_ok X G (c.fact 31 (f := .free "isinstance") rfl)
  have b_len := He.free_ok X G (c.fact 32 (f := .free "len") rfl)
  have b_list := He.free_ok X G (c.fact 33 (f := .free "list") rfl)
  have b_max := He.free_ok X G (c.fact 34 (f := .free "max") rfl)
  have b_min := He.free_ok X G (c.fact 35 (f := .free "min") rfl)
  have b_range := He.free_ok X G (c.fact 36 (f := .free "range") rfl)
  have b_sorted := He.free_ok X G (c.fact 37 (f := .free "sorted") rfl)
  have b_str := He.free_ok X G (c.fact 38 (f := .free "str") rfl)
  have b_sum := He.free_ok X G (c.fact 39 (f := .free "sum") rfl)
  have b_tuple := He.free_ok X G (c.fact 40 (f := .free "tuple") rfl)
  have b_zip := He.free_ok X G (c.fact 41 (f := .free "zip") rfl)
  have z_MOST_OVER := He.int_ok X G (c.fact 42 (f := .int "MOST_OVER" 6) rfl)
  have kc_Seam := He.cls_ok (c.fact 43 (f := .cls "Seam") rfl)
  have kc_Line := He.cls_ok (c.fact 44 (f := .cls "Line") rfl)
  have km_Line := He.mkr_ok (c.fact 45 (f := .mkr "Line") rfl)
  have g_Line := He.glo_ok X G (c.fact 46 (f := .glo "Line") rfl)
  have km_Seam := He.mkr_ok (c.fact 47 (f := .mkr "Seam") rfl)
  have g_Seam := He.glo_ok X G (c.fact 48 (f := .glo "Seam") rfl)
  have kt_Line_piece_arcs := He.meth_ok (c.fact 49 (f := .meth "Line" "piece_arcs") rfl)
  have kt_Line_span_arc := He.meth_ok (c.fact 50 (f := .meth "Line" "span_arc") rfl)
  have kt_Line_arcs_left := He.meth_ok (c.fact 51 (f := .meth "Line" "arcs_left") rfl)
  have kt_Line_roads_told := He.meth_ok (c.fact 52 (f := .meth "Line" "roads_told") rfl)
  have kt_Line_go_along := He.meth_ok (c.fact 53 (f := .meth "Line" "go_along") rfl)
  have kt_Line_greatest_over := He.meth_ok (c.fact 54 (f := .meth "Line" "greatest_over") rfl)
  have kt_Line_send_unit := He.meth_ok (c.fact 55 (f := .meth "Line" "send_unit") rfl)
  have kt_Line_prices_now := He.meth_ok (c.fact 56 (f := .meth "Line" "prices_now") rfl)
  have kt_Line_taken_now := He.meth_ok (c.fact 57 (f := .meth "Line" "taken_now") rfl)
  have kt_Seam_line_moments := He.meth_ok (c.fact 58 (f := .meth "Seam" "line_moments") rfl)
  have kt_Seam_line_spans := He.meth_ok (c.fact 59 (f := .meth "Seam" "line_spans") rfl)
  have kt_Seam_crowded := He.meth_ok (c.fact 60 (f := .meth "Seam" "crowded") rfl)
  have kt_Seam_leaf := He.meth_ok (c.fact 61 (f := .meth "Seam" "leaf") rfl)
  have kt_Seam_tree := He.meth_ok (c.fact 62 (f := .meth "Seam" "tree") rfl)
  have kn_Seam_ring := He.noat_ok (c.fact 63 (f := .noat "Seam" "ring") rfl)
  have kn_Seam_benches := He.noat_ok (c.fact 64 (f := .noat "Seam" "benches") rfl)
  have kn_Seam_moment := He.noat_ok (c.fact 65 (f := .noat "Seam" "moment") rfl)
  have kn_Seam_over_it := He.noat_ok (c.fact 66 (f := .noat "Seam" "over_it") rfl)
  have kn_Seam_beside_it := He.noat_ok (c.fact 67 (f := .noat "Seam" "beside_it") rfl)
  have kn_Seam_best := He.noat_ok (c.fact 68 (f := .noat "Seam" "best") rfl)
  have kn_Line_own_spans := He.noat_ok (c.fact 69 (f := .noat "Line" "own_spans") rfl)
  have kn_Line_own_must := He.noat_ok (c.fact 70 (f := .noat "Line" "own_must") rfl)
  have kn_Line_filled := He.noat_ok (c.fact 71 (f := .noat "Line" "filled") rfl)
  have kn_Line_idle := He.noat_ok (c.fact 72 (f := .noat "Line" "idle") rfl)
  have kn_Line_taken := He.noat_ok (c.fact 73 (f := .noat "Line" "taken") rfl)
  have kn_Line_great := He.noat_ok (c.fact 74 (f := .noat "Line" "great") rfl)
  have xe_TooMany := He.exc_ok (c.fact 75 (f := .exc "TooMany") rfl)
  have xg_BenchError := He.glo_ok X G (c.fact 76 (f := .glo "BenchError") rfl)
  have xg_Crowded := He.glo_ok X G (c.fact 77 (f := .glo "Crowded") rfl)
  have xg_NoBenches := He.glo_ok X G (c.fact 78 (f := .glo "NoBenches") rfl)
  have xg_NoBook := He.glo_ok X G (c.fact 79 (f := .glo "NoBook") rfl)
  have xg_NoRing := He.glo_ok X G (c.fact 80 (f := .glo "NoRing") rfl)
  have xg_NoRow := He.glo_ok X G (c.fact 81 (f := .glo "NoRow") rfl)
  have xg_NoStretch := He.glo_ok X G (c.fact 82 (f := .glo "NoStretch") rfl)
  have xg_NoText := He.glo_ok X G (c.fact 83 (f := .glo "NoText") rfl)
  have xg_NoTree := He.glo_ok X G (c.fact 84 (f := .glo "NoTree") rfl)
  have xg_NoTurn := He.glo_ok X G (c.fact 85 (f := .glo "NoTurn") rfl)
  have xg_NoUndo := He.glo_ok X G (c.fact 86 (f := .glo "NoUndo") rfl)
  have xg_TooMany := He.glo_ok X G (c.fact 87 (f := .glo "TooMany") rfl)
  have xg_Unknown := He.glo_ok X G (c.fact 88 (f := .glo "Unknown") rfl)
  have xt_TooMany : XtK K mg "TooMany" := ⟨xe_TooMany.1, xe_TooMany.2.1, xe_TooMany.2.2.1, xe_TooMany.2.2.2, xg_TooMany⟩
  obtain ⟨q_xm_BenchError, hx⟩ := He.ba hx
  have xm_BenchError : ∀ m ∈ (["TooMany"] : List Str), PySem.W.exmOne K (.ref (He.ga K m)) (.ref (He.ga K "BenchError")) = some (isSub m "BenchError") := fun m hm => tExm_ok (allB_ok q_xm_BenchError hm)
  obtain ⟨q_xk_TooMany, hx⟩ := He.ba hx
  have xk_TooMany : ∀ m ∈ (["TooMany"] : List Str), PySem.W.kitOne K (.ref (He.ga K m)) (.ref (He.ga K "TooMany")) = some (isSub m "TooMany") := fun m hm => tKit_ok (allB_ok q_xk_TooMany hm)
  obtain ⟨q_xk_ValueError, hx⟩ := He.ba hx
  have xk_ValueError : ∀ m ∈ (["TooMany"] : List Str), PySem.W.kitOne K (.ref (He.ga K m)) (.type "ValueError") = some true := fun m hm => tKitV_ok (allB_ok q_xk_ValueError hm)
  obtain ⟨q_xk_Crowded, hx⟩ := He.ba hx
  have xk_Crowded : ∀ m ∈ (["TooMany"] : List Str), PySem.W.kitOne K (.ref (He.ga K m)) (.ref (He.ga K "Crowded")) = some (isSub m "Crowded") := fun m hm => tKit_ok (allB_ok q_xk_Crowded hm)
  obtain ⟨q_xk_NoBenches, hx⟩ := He.ba hx
  have xk_NoBenches : ∀ m ∈ (["TooMany"] : List Str), PySem.W.kitOne K (.ref (He.ga K m)) (.ref (He.ga K "NoBenches")) = some (isSub m "NoBenches") := fun m hm => tKit_ok (allB_ok q_xk_NoBenches hm)
  obtain ⟨q_xk_NoBook, hx⟩ := He.ba hx
  have xk_NoBook : ∀ m ∈ (["TooMany"] : List Str), PySem.W.kitOne K (.ref (He.ga K m)) (.ref (He.ga K "NoBook")) = some (isSub m "NoBook") := fun m hm => tKit_ok (allB_ok q_xk_NoBook hm)
  obtain ⟨q_xk_NoRing, hx⟩ := He.ba hx
  have xk_NoRing : ∀ m ∈ (["TooMany"] : List Str), PySem.W.kitOne K (.ref (He.ga K m)) (.ref (He.ga K "NoRing")) = some (isSub m "NoRing") := fun m hm => tKit_ok (allB_ok q_xk_NoRing hm)
  obtain ⟨q_xk_NoRow, hx⟩ := He.ba hx
  have xk_NoRow : ∀ m ∈ (["TooMany"] : List Str), PySem.W.kitOne K (.ref (He.ga K m)) (.ref (He.ga K "NoRow")) = some (isSub m "NoRow") := fun m hm => tKit_ok (allB_ok q_xk_NoRow hm)
  obtain ⟨q_xk_NoStretch, hx⟩ := He.ba hx
  have xk_NoStretch : ∀ m ∈ (["TooMany"] : List Str), PySem.W.kitOne K (.ref (He.ga K m)) (.ref (He.ga K "NoStretch")) = some (isSub m "NoStretch") := fun m hm => tKit_ok (allB_ok q_xk_NoStretch hm)
  obtain ⟨q_xk_NoText, hx⟩ := He.ba hx
  have xk_NoText : ∀ m ∈ (["TooMany"] : List Str), PySem.W.kitOne K (.ref (He.ga K m)) (.ref (He.ga K "NoText")) = some (isSub m "NoText") := fun m hm => tKit_ok (allB_ok q_xk_NoText hm)
  obtain ⟨q_xk_NoTree, hx⟩ := He.ba hx
  have xk_NoTree : ∀ m ∈ (["TooMany"] : List Str), PySem.W.kitOne K (.ref (He.ga K m)) (.ref (He.ga K "NoTree")) = some (isSub m "NoTree") := fun m hm => tKit_ok (allB_ok q_xk_NoTree hm)
  obtain ⟨q_xk_NoTurn, hx⟩ := He.ba hx
  have xk_NoTurn : ∀ m ∈ (["TooMany"] : List Str), PySem.W.kitOne K (.ref (He.ga K m)) (.ref (He.ga K "NoTurn")) = some (isSub m "NoTurn") := fun m hm => tKit_ok (allB_ok q_xk_NoTurn hm)
  obtain ⟨q_xk_NoUndo, hx⟩ := He.ba hx
  have xk_NoUndo : ∀ m ∈ (["TooMany"] : List Str), PySem.W.kitOne K (.ref (He.ga K m)) (.ref (He.ga K "NoUndo")) = some (isSub m "NoUndo") := fun m hm => tKit_ok (allB_ok q_xk_NoUndo hm)
  obtain ⟨q_xk_Unknown, hx⟩ := He.ba hx
  have xk_Unknown : ∀ m ∈ (["TooMany"] : List Str), PySem.W.kitOne K (.ref (He.ga K m)) (.ref (He.ga K "Unknown")) = some (isSub m "Unknown") := fun m hm => tKit_ok (allB_ok q_xk_Unknown hm)
  obtain ⟨q_hX, hx⟩ := He.ba hx
  have hX : ∀ m ∈ (["TooMany"] : List Str), ExcC K (He.ga K m) := fun m hm => excB_ok (allB_ok q_hX hm)
  obtain ⟨fd__law_begun, FD__law_begun⟩ := c.def_ 0 (d := dd__law_begun) rfl
  have D__law_begun : Df K mg "_law_begun" s__law_begun := ⟨_, _, FD__law_begun, g__law_begun⟩
  obtain ⟨fd__law_take, FD__law_take⟩ := c.def_ 1 (d := dd__law_take) rfl
  have D__law_take : Df K mg "_law_take" s__law_take := ⟨_, _, FD__law_take, g__law_take⟩
  obtain ⟨fd__law_round, FD__law_round⟩ := c.def_ 2 (d := dd__law_round) rfl
  have D__law_round : Df K mg "_law_round" s__law_round := ⟨_, _, FD__law_round, g__law_round⟩
  obtain ⟨fd__law_name, FD__law_name⟩ := c.def_ 3 (d := dd__law_name) rfl
  have D__law_name : Df K mg "_law_name" s__law_name := ⟨_, _, FD__law_name, g__law_name⟩
  obtain ⟨fd__law_ring, FD__law_ring⟩ := c.def_ 4 (d := dd__law_ring) rfl
  have D__law_ring : Df K mg "_law_ring" s__law_ring := ⟨_, _, FD__law_ring, g__law_ring⟩
  obtain ⟨fd__law_load_in, FD__law_load_in⟩ := c.def_ 5 (d := dd__law_load_in) rfl
  have D__law_load_in : Df K mg "_law_load_in" s__law_load_in := ⟨_, _, FD__law_load_in, g__law_load_in⟩
  obtain ⟨fd_is_over_ring, FD_is_over_ring⟩ := c.def_ 6 (d := dd_is_over_ring) rfl
  have D_is_over_ring : Df K mg "is_over_ring" s_is_over_ring := ⟨_, _, FD_is_over_ring, g_is_over_ring⟩
  obtain ⟨fd_load_on, FD_load_on⟩ := c.def_ 7 (d := dd_load_on) rfl
  have D_load_on : Df K mg "load_on" s_load_on := ⟨_, _, FD_load_on, g_load_on⟩
  obtain ⟨fd_ring_loads, FD_ring_loads⟩ := c.def_ 8 (d := dd_ring_loads) rfl
  have D_ring_loads : Df K mg "ring_loads" s_ring_loads := ⟨_, _, FD_ring_loads, g_ring_loads⟩
  obtain ⟨fd_seam_of, FD_seam_of⟩ := c.def_ 9 (d := dd_seam_of) rfl
  have D_seam_of : Df K mg "seam_of" s_seam_of := ⟨_, _, FD_seam_of, g_seam_of⟩
  obtain ⟨fd_Seam___init__, FD_Seam___init__⟩ := c.def_ 10 (d := dd_Seam___init__) rfl
  have D_Seam___init__ : DfM K "Seam" "__init__" "Seam.__init__" s_Seam___init__ := ⟨_, FD_Seam___init__⟩
  obtain ⟨fd_Seam_crowded, FD_Seam_crowded⟩ := c.def_ 11 (d := dd_Seam_crowded) rfl
  have D_Seam_crowded : DfM K "Seam" "crowded" "Seam.crowded" s_Seam_crowded := ⟨_, FD_Seam_crowded⟩
  obtain ⟨fd_Seam_line_moments, FD_Seam_line_moments⟩ := c.def_ 12 (d := dd_Seam_line_moments) rfl
  have D_Seam_line_moments : DfM K "Seam" "line_moments" "Seam.line_moments" s_Seam_line_moments := ⟨_, FD_Seam_line_moments⟩
  obtain ⟨fd_Seam_line_spans, FD_Seam_line_spans⟩ := c.def_ 13 (d := dd_Seam_line_spans) rfl
  have D_Seam_line_spans : DfM K "Seam" "line_spans" "Seam.line_spans" s_Seam_line_spans := ⟨_, FD_Seam_line_spans⟩
  obtain ⟨fd_Line___init__, FD_Line___init__⟩ := c.def_ 14 (d := dd_Line___init__) rfl
  have D_Line___init__ : DfM K "Line" "__init__" "Line.__init__" s_Line___init__ := ⟨_, FD_Line___init__⟩
  obtain ⟨fd_Line_piece_arcs, FD_Line_piece_arcs⟩ := c.def_ 15 (d := dd_Line_piece_arcs) rfl
  have D_Line_piece_arcs : DfM K "Line" "piece_arcs" "Line.piece_arcs" s_Line_piece_arcs := ⟨_, FD_Line_piece_arcs⟩
  obtain ⟨fd_Line_span_arc, FD_Line_span_arc⟩ := c.def_ 16 (d := dd_Line_span_arc) rfl
  have D_Line_span_arc : DfM K "Line" "span_arc" "Line.span_arc" s_Line_span_arc := ⟨_, FD_Line_span_arc⟩
  obtain ⟨fd_Line_arcs_left, FD_Line_arcs_left⟩ := c.def_ 17 (d := dd_Line_arcs_left) rfl
  have D_Line_arcs_left : DfM K "Line" "arcs_left" "Line.arcs_left" s_Line_arcs_left := ⟨_, FD_Line_arcs_left⟩
  obtain ⟨fd_Line_roads_told, FD_Line_roads_told⟩ := c.def_ 18 (d := dd_Line_roads_told) rfl
  have D_Line_roads_told : DfM K "Line" "roads_told" "Line.roads_told" s_Line_roads_told := ⟨_, FD_Line_roads_told⟩
  obtain ⟨fd_Line_go_along, FD_Line_go_along⟩ := c.def_ 19 (d := dd_Line_go_along) rfl
  have D_Line_go_along : DfM K "Line" "go_along" "Line.go_along" s_Line_go_along := ⟨_, FD_Line_go_along⟩
  obtain ⟨fd_Line_send_unit, FD_Line_send_unit⟩ := c.def_ 20 (d := dd_Line_send_unit) rfl
  have D_Line_send_unit : DfM K "Line" "send_unit" "Line.send_unit" s_Line_send_unit := ⟨_, FD_Line_send_unit⟩
  obtain ⟨fd_Line_greatest_over, FD_Line_greatest_over⟩ := c.def_ 21 (d := dd_Line_greatest_over) rfl
  have D_Line_greatest_over : DfM K "Line" "greatest_over" "Line.greatest_over" s_Line_greatest_over := ⟨_, FD_Line_greatest_over⟩
  obtain ⟨fd_Line_prices_now, FD_Line_prices_now⟩ := c.def_ 22 (d := dd_Line_prices_now) rfl
  have D_Line_prices_now : DfM K "Line" "prices_now" "Line.prices_now" s_Line_prices_now := ⟨_, FD_Line_prices_now⟩
  obtain ⟨fd_Line_taken_now, FD_Line_taken_now⟩ := c.def_ 23 (d := dd_Line_taken_now) rfl
  have D_Line_taken_now : DfM K "Line" "taken_now" "Line.taken_now" s_Line_taken_now := ⟨_, FD_Line_taken_now⟩
  obtain ⟨fd_chosen_within, FD_chosen_within⟩ := c.def_ 24 (d := dd_chosen_within) rfl
  have D_chosen_within : Df K mg "chosen_within" s_chosen_within := ⟨_, _, FD_chosen_within, g_chosen_within⟩
  obtain ⟨fd_Seam_leaf, FD_Seam_leaf⟩ := c.def_ 25 (d := dd_Seam_leaf) rfl
  have D_Seam_leaf : DfM K "Seam" "leaf" "Seam.leaf" s_Seam_leaf := ⟨_, FD_Seam_leaf⟩
  obtain ⟨fd_Seam_tree, FD_Seam_tree⟩ := c.def_ 26 (d := dd_Seam_tree) rfl
  have D_Seam_tree : DfM K "Seam" "tree" "Seam.tree" s_Seam_tree := ⟨_, FD_Seam_tree⟩
  obtain ⟨fd_ring_most, FD_ring_most⟩ := c.def_ 27 (d := dd_ring_most) rfl
  have D_ring_most : Df K mg "ring_most" s_ring_most := ⟨_, _, FD_ring_most, g_ring_most⟩
  obtain ⟨fd__law_refused, FD__law_refused⟩ := c.def_ 28 (d := dd__law_refused) rfl
  have D__law_refused : Df K mg "_law_refused" s__law_refused := ⟨_, _, FD__law_refused, g__law_refused⟩
  obtain ⟨fd__law_moments, FD__law_moments⟩ := c.def_ 29 (d := dd__law_moments) rfl
  have D__law_moments : Df K mg "_law_moments" s__law_moments := ⟨_, _, FD__law_moments, g__law_moments⟩
  obtain ⟨fd__law_is_light, FD__law_is_light⟩ := c.def_ 30 (d := dd__law_is_light) rfl
  have D__law_is_light : Df K mg "_law_is_light" s__law_is_light := ⟨_, _, FD__law_is_light, g__law_is_light⟩
  obtain ⟨fd__law_ring_choices, FD__law_ring_choices⟩ := c.def_ 31 (d := dd__law_ring_choices) rfl
  have D__law_ring_choices : Df K mg "_law_ring_choices" s__law_ring_choices := ⟨_, _, FD__law_ring_choices, g__law_ring_choices⟩
  obtain ⟨fd__law_whole, FD__law_whole⟩ := c.def_ 32 (d := dd__law_whole) rfl
  have D__law_whole : Df K mg "_law_whole" s__law_whole := ⟨_, _, FD__law_whole, g__law_whole⟩
  obtain ⟨fd__law_number, FD__law_number⟩ := c.def_ 33 (d := dd__law_number) rfl
  have D__law_number : Df K mg "_law_number" s__law_number := ⟨_, _, FD__law_number, g__law_number⟩
  obtain ⟨fd__law_is_paper, FD__law_is_paper⟩ := c.def_ 34 (d := dd__law_is_paper) rfl
  have D__law_is_paper : Df K mg "_law_is_paper" s__law_is_paper := ⟨_, _, FD__law_is_paper, g__law_is_paper⟩
  obtain ⟨fd__law_ring_rest, FD__law_ring_rest⟩ := c.def_ 35 (d := dd__law_ring_rest) rfl
  have D__law_ring_rest : Df K mg "_law_ring_rest" s__law_ring_rest := ⟨_, _, FD__law_ring_rest, g__law_ring_rest⟩
  obtain ⟨fd__law_priced, FD__law_priced⟩ := c.def_ 36 (d := dd__law_priced) rfl
  have D__law_priced : Df K mg "_law_priced" s__law_priced := ⟨_, _, FD__law_priced, g__law_priced⟩
  obtain ⟨fd__law_walk, FD__law_walk⟩ := c.def_ 37 (d := dd__law_walk) rfl
  have D__law_walk : Df K mg "_law_walk" s__law_walk := ⟨_, _, FD__law_walk, g__law_walk⟩
  obtain ⟨fd__law_many, FD__law_many⟩ := c.def_ 38 (d := dd__law_many) rfl
  have D__law_many : Df K mg "_law_many" s__law_many := ⟨_, _, FD__law_many, g__law_many⟩
  obtain ⟨fd__law_right, FD__law_right⟩ := c.def_ 39 (d := dd__law_right) rfl
  have D__law_right : Df K mg "_law_right" s__law_right := ⟨_, _, FD__law_right, g__law_right⟩
  obtain ⟨fd__law_lists, FD__law_lists⟩ := c.def_ 40 (d := dd__law_lists) rfl
  have D__law_lists : Df K mg "_law_lists" s__law_lists := ⟨_, _, FD__law_lists, g__law_lists⟩
  obtain ⟨fd__law_apart, FD__law_apart⟩ := c.def_ 41 (d := dd__law_apart) rfl
  have D__law_apart : Df K mg "_law_apart" s__law_apart := ⟨_, _, FD__law_apart, g__law_apart⟩
  obtain ⟨fd__law_greater, FD__law_greater⟩ := c.def_ 42 (d := dd__law_greater) rfl
  have D__law_greater : Df K mg "_law_greater" s__law_greater := ⟨_, _, FD__law_greater, g__law_greater⟩
  obtain ⟨fd_law, FD_law⟩ := c.def_ 43 (d := dd_law) rfl
  have D_law : Df K mg "law" s_law := ⟨_, _, FD_law, g_law⟩
  have e := hfa.symm.trans g_law
  cases e
  have b := FunD.bindsA (ps := ["_law_script"]) FD_law fun _ _ _ _ _ _ us hl => match us, hl with | [_], _ => rfl
  refine ⟨fd_law, fun s v => b s [v] rfl, fun base _ _ hsy => ?_⟩
  have c__law_begun : Cal P w K mg base 1 "_law_begun" ["_law_script", "_law_k"] F__law_begun := ok__law_begun D__law_begun b_len b_max
  have c__law_take : Cal P w K mg base 1 "_law_take" ["_law_state", "_law_many_here"] F__law_take := ok__law_take D__law_take b_range b_int
  have c__law_round : Cal P w K mg base 2 "_law_round" ["_law_state", "_law_many_here"] F__law_round := ok__law_round D__law_round b_range c__law_take
  have c__law_name : Cal P w K mg base 2 "_law_name" ["_law_state", "_law_k"] F__law_name := ok__law_name D__law_name b_range c__law_take
  have c__law_ring : Cal P w K mg base 3 "_law_ring" ["_law_state", "_law_most"] F__law_ring := ok__law_ring D__law_ring b_range b_min c__law_take c__law_name
  have c__law_load_in : Cal P w K mg base 1 "_law_load_in" ["_law_ring_here", "_law_inside", "_law_moment"] F__law_load_in := ok__law_load_in D__law_load_in b_len
  have c_is_over_ring : Cal P w K mg base 1 "is_over_ring" ["ring", "i", "moment"] F_is_over_ring := ok_is_over_ring D_is_over_ring
  have c_load_on : Cal P w K mg base 2 "load_on" ["ring", "some", "moment"] F_load_on := ok_load_on D_load_on b_len c_is_over_ring
  have c_ring_loads : Cal P w K mg base 3 "ring_loads" ["ring", "some"] F_ring_loads := ok_ring_loads D_ring_loads b_range c_load_on
  have c_seam_of : Cal P w K mg base 4 "seam_of" ["ring"] F_seam_ofF := ok_seam_of D_seam_of b_list b_range b_len b_min c_ring_loads
  have c_Seam___init__ : CalK P w K mg base 5 "Seam" ["self", "ring", "benches"] F_Seam___init__F := calK_ok km_Seam g_Seam (ok_Seam___init__ D_Seam___init__ b_list b_range b_len kc_Seam kn_Seam_ring kn_Seam_benches kn_Seam_moment kn_Seam_over_it kn_Seam_beside_it kn_Seam_best c_seam_of c_load_on)
  have c_Seam_crowded : CalM P w K mg base 3 "Seam" "crowded" ["self", "inside"] F_Seam_crowdedF := calM_ok kc_Seam kt_Seam_crowded (ok_Seam_crowded D_Seam_crowded b_range kc_Seam kn_Seam_ring kn_Seam_benches c_load_on)
  have c_Seam_line_moments : CalM P w K mg base 1 "Seam" "line_moments" ["self"] F_Seam_line_moments := calM_ok kc_Seam kt_Seam_line_moments (ok_Seam_line_moments D_Seam_line_moments b_range kc_Seam kn_Seam_ring kn_Seam_moment)
  have c_Seam_line_spans : CalM P w K mg base 1 "Seam" "line_spans" ["self"] F_Seam_line_spans := calM_ok kc_Seam kt_Seam_line_spans (ok_Seam_line_spans D_Seam_line_spans kc_Seam kn_Seam_beside_it kn_Seam_ring kn_Seam_moment)
  have c_Line___init__ : CalK P w K mg base 1 "Line" ["self", "spans", "must"] F_Line___init__ := calK_ok km_Line g_Line (ok_Line___init__ D_Line___init__ b_list b_sum kc_Line kn_Line_own_spans kn_Line_own_must kn_Line_filled kn_Line_idle kn_Line_taken kn_Line_great)
  have c_Line_piece_arcs : CalM P w K mg base 1 "Line" "piece_arcs" ["self", "k"] F_Line_piece_arcs := calM_ok kc_Line kt_Line_piece_arcs (ok_Line_piece_arcs D_Line_piece_arcs kc_Line kn_Line_filled kn_Line_own_must kn_Line_great kn_Line_idle)
  have c_Line_span_arc : CalM P w K mg base 1 "Line" "span_arc" ["self", "i"] F_Line_span_arc := calM_ok kc_Line kt_Line_span_arc (ok_Line_span_arc D_Line_span_arc kc_Line kn_Line_own_spans kn_Line_taken)
  have c_Line_arcs_left : CalM P w K mg base 2 "Line" "arcs_left" ["self"] F_Line_arcs_left := calM_ok kc_Line kt_Line_arcs_left (ok_Line_arcs_left D_Line_arcs_left b_range b_len kc_Line kn_Line_own_must kn_Line_own_spans c_Line_piece_arcs c_Line_span_arc)
  have c_Line_roads_told : CalM P w K mg base 3 "Line" "roads_told" ["self"] F_Line_roads_told := calM_ok kc_Line kt_Line_roads_told (ok_Line_roads_told D_Line_roads_told b_len b_range b_sorted kc_Line kn_Line_own_must c_Line_arcs_left)
  have c_Line_go_along : CalM P w K mg base 1 "Line" "go_along" ["self", "arc"] F_Line_go_along := calM_ok kc_Line kt_Line_go_along (ok_Line_go_along D_Line_go_along kc_Line kn_Line_idle kn_Line_filled kn_Line_taken)
  have c_Line_send_unit : CalM P w K mg base 4 "Line" "send_unit" ["self"] F_Line_send_unit := calM_ok kc_Line kt_Line_send_unit (ok_Line_send_unit D_Line_send_unit b_len kc_Line kn_Line_own_must c_Line_roads_told c_Line_go_along)
  have c_Line_greatest_over : CalM P w K mg base 1 "Line" "greatest_over" ["self", "k"] F_Line_greatest_over := calM_ok kc_Line kt_Line_greatest_over (ok_Line_greatest_over D_Line_greatest_over b_max kc_Line kn_Line_own_spans)
  have c_Line_prices_now : CalM P w K mg base 4 "Line" "prices_now" ["self"] F_Line_prices_now := calM_ok kc_Line kt_Line_prices_now (ok_Line_prices_now D_Line_prices_now b_range b_len b_min kc_Line kn_Line_own_must c_Line_roads_told c_Line_greatest_over)
  have c_Line_taken_now : CalM P w K mg base 1 "Line" "taken_now" ["self"] F_Line_taken_now := calM_ok kc_Line kt_Line_taken_now (ok_Line_taken_now D_Line_taken_now b_range b_len kc_Line kn_Line_own_spans kn_Line_taken)
  have c_chosen_within : Cal P w K mg base 5 "chosen_within" ["spans", "limits"] F_chosen_within := ok_chosen_within D_chosen_within b_min b_len b_max b_range c_Line___init__ c_Line_send_unit c_Line_prices_now c_Line_taken_now
  have c_Seam_leaf : CalM P w K mg base 6 "Seam" "leaf" ["self", "inside"] F_Seam_leafO := calM_ok kc_Seam kt_Seam_leaf (ok_Seam_leaf D_Seam_leaf b_sorted b_sum b_zip kc_Seam kn_Seam_benches kn_Seam_ring kn_Seam_beside_it kn_Seam_best c_Seam_line_moments c_load_on c_Seam_line_spans c_chosen_within)
  have cc_Seam_tree : ∀ n : Nat, CalM P w K mg base (7 + n) "Seam" "tree" ["self", "at", "inside"] (F_Seam_treeO n) := fun n => by
    induction n with
    | zero => exact calM_ok kc_Seam kt_Seam_tree (ok0_Seam_tree D_Seam_tree b_len kc_Seam kn_Seam_over_it c_Seam_crowded c_Seam_leaf)
    | succ n ih => exact calM_ok kc_Seam kt_Seam_tree (ok_Seam_tree D_Seam_tree b_len kc_Seam kn_Seam_over_it c_Seam_crowded c_Seam_leaf n ih)
  have c_Seam_tree : CalM P w K mg base 15 "Seam" "tree" ["self", "at", "inside"] (F_Seam_treeO 8) := cc_Seam_tree 8
  have c_ring_most : CalX P w K mg base 16 "ring_most" ["ring", "benches"] F_ring_mostO := ok_ring_most D_ring_most b_len z_MOST_OVER kc_Seam kn_Seam_over_it kn_Seam_best c_Seam___init__ c_Seam_tree xt_TooMany
  have c__law_refused : Cal P w K mg base 17 "_law_refused" ["_law_ring_here", "_law_benches"] F__law_refused := ok__law_refused D__law_refused b_isinstance b_ValueError c_ring_most xg_BenchError xg_TooMany xg_Crowded xg_NoBenches xg_NoBook xg_NoRing xg_NoRow xg_NoStretch xg_NoText xg_NoTree xg_NoTurn xg_NoUndo xg_Unknown xm_BenchError xk_TooMany xk_ValueError xk_Crowded xk_NoBenches xk_NoBook xk_NoRing xk_NoRow xk_NoStretch xk_NoText xk_NoTree xk_NoTurn xk_NoUndo xk_Unknown hX
  have c__law_moments : Cal P w K mg base 1 "_law_moments" ["_law_ring_here", "_law_i"] F__law_moments := ok__law_moments D__law_moments b_range
  have c__law_is_light : Cal P w K mg base 2 "_law_is_light" ["_law_ring_here", "_law_some", "_law_benches"] F__law_is_light := ok__law_is_light D__law_is_light b_max c__law_moments
  have c__law_ring_choices : Cal P w K mg base 3 "_law_ring_choices" ["_law_ring_here", "_law_benches"] F__law_ring_choices := ok__law_ring_choices D__law_ring_choices b_range b_len c__law_is_light
  have c__law_whole : Cal P w K mg base 1 "_law_whole" ["_law_found"] F__law_whole := ok__law_whole D__law_whole b_isinstance b_int b_bool
  have c__law_number : Cal P w K mg base 2 "_law_number" ["_law_thing", "_law_many_here"] F__law_number60 := ok__law_number D__law_number c__law_whole
  have c__law_is_paper : Cal P w K mg base 1 "_law_is_paper" ["_law_thing"] F__law_is_paper := ok__law_is_paper D__law_is_paper b_isinstance b_list b_len b_tuple b_int b_bool
  have c__law_ring_rest : Cal P w K mg base 1 "_law_ring_rest" ["_law_ring_here", "_law_i", "_law_paper"] F__law_ring_rest := ok__law_ring_rest D__law_ring_rest b_max b_sum
  have c__law_priced : Cal P w K mg base 2 "_law_priced" ["_law_ring_here", "_law_benches", "_law_paper", "_law_put"] F__law_priced := ok__law_priced D__law_priced b_sum b_range b_len c__law_is_paper c__law_load_in c__law_ring_rest
  have cc__law_walk : ∀ n : Nat, Cal P w K mg base (3 + n) "_law_walk" ["_law_ring_here", "_law_benches", "_law_tree", "_law_put", "_law_deep"] (F__law_walk n) := fun n => by
    induction n with
    | zero => exact ok0__law_walk D__law_walk b_isinstance b_tuple b_len b_int b_list c__law_priced c__law_number c__law_load_in
    | succ n ih => exact ok__law_walk D__law_walk b_isinstance b_tuple b_len b_int b_list c__law_priced c__law_number c__law_load_in n ih
  have c__law_walk : Cal P w K mg base 34 "_law_walk" ["_law_ring_here", "_law_benches", "_law_tree", "_law_put", "_law_deep"] (F__law_walk 31) := cc__law_walk 31
  have c__law_many : Cal P w K mg base 1 "_law_many" ["_law_tree"] F__law_many := ok__law_many D__law_many
  have c__law_right : Cal P w K mg base 35 "_law_right" ["_law_ring_here", "_law_benches", "_law_found", "_law_best"] F__law_right := ok__law_right D__law_right b_isinstance b_tuple b_len b_list b_sorted b_range b_max b_sum c__law_whole c__law_number c__law_is_light c__law_walk c__law_many
  have cc__law_lists : ∀ n : Nat, Cal P w K mg base (1 + n) "_law_lists" ["_law_thing"] (F__law_listsD n) := fun n => by
    induction n with
    | zero => exact ok0__law_lists D__law_lists b_isinstance b_list b_tuple
    | succ n ih => exact ok__law_lists D__law_lists b_isinstance b_list b_tuple n ih
  have c__law_lists : Cal P w K mg base 27 "_law_lists" ["_law_thing"] (F__law_listsD 26) := cc__law_lists 26
  have c__law_apart : Cal P w K mg base 28 "_law_apart" ["_law_found"] F__law_apart := ok__law_apart D__law_apart b_len c__law_lists
  have c__law_greater : Cal P w K mg base 36 "_law_greater" ["_law_state"] F__law_greater := ok__law_greater D__law_greater b_list b_range b_len b_min c__law_take c__law_ring c__law_load_in c__law_refused c_ring_most c__law_right c__law_apart
  exact ok_law FD_law b_range b_max b_min b_len b_list b_sum b_str c__law_begun c__law_take c__law_round c__law_ring c__law_load_in c__law_refused c__law_ring_choices c_ring_most c__law_right c__law_apart c__law_greater hsy
end Row
open PySem PySem.W PySem.Calls PyProof.Rows
theorem PySem.Challenge.cw_benchworth_k60_the_most_of_a_ring_holds : PySem.Challenge.rw_benchworth_k60_the_most_of_a_ring.Holds := by
  w_on; o_law
  refine HandSHeadRun.head_any (r := OpenLaw.row PySem.Challenge.rw_benchworth_k60_the_most_of_a_ring) (q := view (OpenLaw.row PySem.Challenge.rw_benchworth_k60_the_most_of_a_ring).prog [48]) (H := Row.hk) (ob := Row.ob) (M := 20000) (loose := Row.loose) (d := HandSHeadRun.topDef (OpenLaw.row PySem.Challenge.rw_benchworth_k60_the_most_of_a_ring).prog 48) (kwd := []) Row.ob_eq
    (by kernel_rfl) (fun s => by kernel_rfl) Row.run (by kernel_rfl) (by kernel_rfl) (by kernel_rfl) (by rfl) (by first | assumption | decide +kernel) (by decide +kernel) ⟨rfl, rfl, rfl, rfl, rfl, by decide +kernel⟩ ?hw ?hc
  case hw => w_witness2
  case hc =>
    refine DL.walkG (l := PySem.Challenge.rw_benchworth_k60_the_most_of_a_ring) (n := 63) (k := 37) (x := "_law_script") rfl (by decide) (by kernel_rfl) ⟨rfl, by decide, by decide⟩ ?F (by kernel_rfl)
    intro w mg fa h Y G hmg0
    obtain ⟨K, KX, c, hx⟩ := Y
    have hmg : mg ("law" : PySem.Str) = some (.ref fa) := by
      have e : (HandSHeadRun.topDef (OpenLaw.row PySem.Challenge.rw_benchworth_k60_the_most_of_a_ring).prog 48).name = ("law" : PySem.Str) := by kernel_rfl
      rw [← e]
      exact hmg0
    obtain ⟨fd, hb, hF⟩ := Row.facts (P := (PySem.Challenge.rw_benchworth_k60_the_most_of_a_ring).prog) (w := w) KX G hmg c hx
    exact ⟨K, fd, KX, hb, hF⟩
