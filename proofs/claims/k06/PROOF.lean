import PyProof.Rows.All
import HandS.Base
import Wide.All
import OpenK.AllK
import Wide.FinOn
import HandS.ForMost
import HandS.IsInst
import HandS.ExcInit
import HandS.TryOnly
import HandS.WordsExc
import HandS.TupAny
import HandS.Style
import HandS.SetKeys
import HandS.Conv
import HandS.SortInts
import PyProof.ReprRoads
import PySem.Challenge.RW_onlywith_k06_whole_unified_is_most_gener
import KE.GoesEnum
import PyProof.Rows.SortShellAny
import HandS.Set
import HandS.SetFor
import HandS.Strs
import PyProof.StrOps2
import KE.KDictZip
import KE.KDictItemsList
import HandS.ListItems
import PyProof.TupleOfGen
import HandS.Walk
import HandS.WordsDict
import HandS.Ends
import PyProof.CallFns
import KE.KRevSl
set_option Elab.async false
set_option linter.all false
set_option maxHeartbeats 4000000
/-! The plain law: equations, their equivalence, leaders, what is told. -/
namespace U6
open PySem L2

abbrev Eqs := List (Key × Key)
def isVar : Key → Bool
  | .inr s => s.cps[0]? == some 63
  | .inl _ => false
def slt (a b : Str) : Bool := decide (a.cps.toList < b.cps.toList)
def klt : Key → Key → Bool
  | .inr a, .inr b => slt a b
  | _, _ => false
theorem slt_irrefl (a : Str) : slt a a = false := decide_eq_false (List.lt_irrefl _)
theorem slt_trans {a b c : Str} (h : slt a b = true) (h2 : slt b c = true) : slt a c = true :=
  decide_eq_true (List.lt_trans (of_decide_eq_true h) (of_decide_eq_true h2))
theorem slt_asymm {a b : Str} (h : slt a b = true) : slt b a = false := by
  cases e : slt b a with
  | false => rfl
  | true =>
    have q := slt_trans h e
    rw [slt_irrefl] at q
    cases q
theorem str_ext {a b : Str} (h : a.cps.toList = b.cps.toList) : a = b := by
  cases a with
  | mk x =>
    cases b with
    | mk y =>
      have e : x = y := Array.toList_inj.mp h
      rw [e]
theorem slt_tri {a b : Str} (h : slt a b = false) (h2 : slt b a = false) : a = b :=
  str_ext (List.le_antisymm (of_decide_eq_false h2) (of_decide_eq_false h))
theorem slt_total {a b : Str} (h : slt a b = false) (n : a ≠ b) : slt b a = true := by
  cases e : slt b a with
  | true => rfl
  | false => exact absurd (slt_tri h e) n
theorem var_str {x : Key} (h : isVar x = true) : ∃ s, x = .inr s := by
  cases x with
  | inl i => cases h
  | inr s => exact ⟨s, rfl⟩

/-- alike over the equations -/
inductive Al (es : Eqs) : Key → Key → Prop
  | eq {a b} : (a, b) ∈ es → Al es a b
  | refl (a) : Al es a a
  | symm {a b} : Al es a b → Al es b a
  | trans {a b c} : Al es a b → Al es b c → Al es a c
theorem Al.mono {es es' : Eqs} (h : ∀ a b, (a, b) ∈ es → Al es' a b) {x y : Key} (r : Al es x y) : Al es' x y := by
  induction r with
  | eq m => exact h _ _ m
  | refl a => exact .refl a
  | symm _ i => exact i.symm
  | trans _ _ i j => exact i.trans j
theorem Al.more {es es' : Eqs} {x y : Key} (r : Al es x y) : Al (es ++ es') x y := r.mono fun _ _ m => .eq (List.mem_append_left _ m)

def terms (es : Eqs) : List Key := es.flatMap fun e => [e.1, e.2]
theorem mem_terms {es : Eqs} {x : Key} : x ∈ terms es ↔ ∃ e ∈ es, x = e.1 ∨ x = e.2 := by
  unfold terms
  rw [List.mem_flatMap]
  constructor
  · rintro ⟨e, h, m⟩
    refine ⟨e, h, ?_⟩
    simpa using m
  · rintro ⟨e, h, m⟩
    exact ⟨e, h, by simpa using m⟩
theorem Al.inTerms {es : Eqs} {x y : Key} (r : Al es x y) : x = y ∨ (x ∈ terms es ∧ y ∈ terms es) := by
  induction r with
  | @eq a b m => exact .inr ⟨mem_terms.mpr ⟨_, m, .inl rfl⟩, mem_terms.mpr ⟨_, m, .inr rfl⟩⟩
  | refl a => exact .inl rfl
  | symm _ i =>
    rcases i with i | ⟨i, j⟩
    · exact .inl i.symm
    · exact .inr ⟨j, i⟩
  | trans _ _ i j =>
    rcases i with i | ⟨i, i2⟩
    · rw [i]; exact j
    · rcases j with j | ⟨j, j2⟩
      · rw [← j]; exact .inr ⟨i, i2⟩
      · exact .inr ⟨i, j2⟩

/-! ### leaders -/
def ord2 (a b : Key) : Key × Key := if (isVar a && (!isVar b || klt b a)) = true then (b, a) else (a, b)
def join (f : Key → Key) (p q : Key) : Key → Key := fun x => if f x = q then p else f x
def step (f : Key → Key) (e : Key × Key) : Option (Key → Key) :=
  if (ord2 (f e.1) (f e.2)).1 = (ord2 (f e.1) (f e.2)).2 then some f
  else if isVar (ord2 (f e.1) (f e.2)).2 = true then some (join f (ord2 (f e.1) (f e.2)).1 (ord2 (f e.1) (f e.2)).2) else none
def unifL : (Key → Key) → Eqs → Option (Key → Key)
  | f, [] => some f
  | f, e :: es => (step f e).bind fun g => unifL g es
def unif (es : Eqs) : Option (Key → Key) := unifL id es
theorem unifL_append (es es' : Eqs) : ∀ f, unifL f (es ++ es') = (unifL f es).bind fun g => unifL g es' := by
  induction es with
  | nil => intro f; rfl
  | cons e es ih =>
    intro f
    show (step f e).bind (fun g => unifL g (es ++ es')) = ((step f e).bind fun g => unifL g es).bind fun g => unifL g es'
    cases step f e with
    | none => rfl
    | some g => exact ih g
theorem unif_take {es : Eqs} {i : Nat} {e : Key × Key} (h : es[i]? = some e) : unif (es.take (i + 1)) = (unif (es.take i)).bind fun g => step g e := by
  have q : es.take (i + 1) = es.take i ++ [e] := by rw [List.take_add_one, h]; rfl
  unfold unif
  rw [q, unifL_append]
  congr 1
  funext g
  show (step g e).bind (fun g => some g) = step g e
  cases step g e <;> rfl

structure Good (es : Eqs) (f : Key → Key) : Prop where
  al : ∀ x y, f x = f y ↔ Al es x y
  idem : ∀ x, f (f x) = f x
  val : ∀ x, isVar x = false → f x = x
  var : ∀ x, isVar x = true → isVar (f x) = true → klt x (f x) = false
def Clash (es : Eqs) : Prop := ∃ u v, isVar u = false ∧ isVar v = false ∧ u ≠ v ∧ Al es u v
theorem Clash.more {es es' : Eqs} (h : Clash es) : Clash (es ++ es') :=
  let ⟨u, v, a, b, n, r⟩ := h; ⟨u, v, a, b, n, r.more⟩
theorem Good.self {es : Eqs} {f : Key → Key} (g : Good es f) (x : Key) : Al es x (f x) := (g.al _ _).mp (g.idem x).symm
theorem Good.nil : Good [] id where
  al := fun x y => ⟨fun h => by show Al [] x y; rw [show x = y from h]; exact .refl y, fun r => by
    rcases r.inTerms with e | ⟨h, _⟩
    · exact e
    · cases h⟩
  idem := fun _ => rfl
  val := fun _ _ => rfl
  var := fun x h _ => by
    obtain ⟨s, rfl⟩ := var_str h
    exact slt_irrefl s
theorem ord2_cases (a b : Key) : (ord2 a b = (b, a) ∧ (isVar a && (!isVar b || klt b a)) = true) ∨ (ord2 a b = (a, b) ∧ (isVar a && (!isVar b || klt b a)) = false) := by
  unfold ord2
  cases h : (isVar a && (!isVar b || klt b a)) with
  | true => exact .inl ⟨by simp, rfl⟩
  | false => exact .inr ⟨by simp, rfl⟩
/-- two variables in order -/
theorem ord2_le {a b : Key} (hp : isVar (ord2 a b).1 = true) (hq : isVar (ord2 a b).2 = true) : klt (ord2 a b).2 (ord2 a b).1 = false := by
  rcases ord2_cases a b with ⟨e, c⟩ | ⟨e, c⟩
  · rw [e] at hp hq ⊢
    simp only [Bool.and_eq_true, Bool.or_eq_true, Bool.not_eq_true'] at c
    have hb : isVar b = true := hp
    rcases c.2 with z | z
    · rw [hb] at z; cases z
    · obtain ⟨s, rfl⟩ := var_str hp
      obtain ⟨t, rfl⟩ := var_str hq
      exact slt_asymm z
  · rw [e] at hp hq ⊢
    show klt b a = false
    have ha : isVar a = true := hp
    have hb : isVar b = true := hq
    rw [ha, hb] at c
    simpa using c
theorem ord2_val {a b : Key} (hq : isVar (ord2 a b).2 = false) : ord2 a b = (a, b) ∧ isVar a = false ∧ isVar b = false := by
  rcases ord2_cases a b with ⟨e, c⟩ | ⟨e, c⟩
  · rw [e] at hq
    have ha : isVar a = false := hq
    rw [ha] at c
    cases c
  · rw [e] at hq
    have hb : isVar b = false := hq
    rw [hb] at c
    refine ⟨e, ?_, hb⟩
    simpa using c
theorem ord2_two (a b : Key) : ((ord2 a b).1 = a ∧ (ord2 a b).2 = b) ∨ ((ord2 a b).1 = b ∧ (ord2 a b).2 = a) := by
  rcases ord2_cases a b with ⟨e, _⟩ | ⟨e, _⟩
  · exact .inr ⟨by rw [e], by rw [e]⟩
  · exact .inl ⟨by rw [e], by rw [e]⟩
theorem Good.step {es : Eqs} {f g : Key → Key} {e : Key × Key} (G : Good es f) (h : step f e = some g) : Good (es ++ [e]) g := by
  obtain ⟨a, b⟩ := e
  unfold U6.step at h
  dsimp only at h
  have hab : Al (es ++ [(a, b)]) a b := .eq (List.mem_append_right _ List.mem_cons_self)
  generalize hpq : ord2 (f a) (f b) = pq at h
  have two := ord2_two (f a) (f b)
  have le := @ord2_le (f a) (f b)
  rw [hpq] at two le
  obtain ⟨p, q⟩ := pq
  dsimp only at h two le
  by_cases hpe : p = q
  · rw [if_pos hpe] at h
    cases h
    have fab : f a = f b := by
      rcases two with ⟨x, y⟩ | ⟨x, y⟩
      · rw [← x, ← y]; exact hpe
      · rw [← x, ← y]; exact hpe.symm
    refine ⟨fun x y => ⟨fun h => ((G.al x y).mp h).more, fun r => (G.al x y).mpr (r.mono fun u v m => ?_)⟩, G.idem, G.val, G.var⟩
    rcases List.mem_append.mp m with m | m
    · exact .eq m
    · simp only [List.mem_singleton, Prod.mk.injEq] at m
      rw [m.1, m.2]
      exact (G.al _ _).mp fab
  · rw [if_neg hpe] at h
    by_cases hv : isVar q = true
    · rw [if_pos hv] at h
      cases h
      have fp : f p = p := by
        rcases two with ⟨x, y⟩ | ⟨x, y⟩ <;> rw [x] <;> exact G.idem _
      have fq : f q = q := by
        rcases two with ⟨x, y⟩ | ⟨x, y⟩ <;> rw [y] <;> exact G.idem _
      have ra : Al (es ++ [(a, b)]) a (f a) := (G.self a).more
      have rb : Al (es ++ [(a, b)]) b (f b) := (G.self b).more
      have rpq : Al (es ++ [(a, b)]) p q := by
        rcases two with ⟨x, y⟩ | ⟨x, y⟩
        · rw [x, y]; exact ra.symm.trans (hab.trans rb)
        · rw [x, y]; exact rb.symm.trans (hab.symm.trans ra)
      have ja : join f p q a = p := by
        unfold join
        rcases two with ⟨x, y⟩ | ⟨x, y⟩
        · rw [if_neg (by rw [← x]; exact hpe)]; exact x.symm
        · rw [if_pos y.symm]
      have jb : join f p q b = p := by
        unfold join
        rcases two with ⟨x, y⟩ | ⟨x, y⟩
        · rw [if_pos y.symm]
        · rw [if_neg (by rw [← x]; exact hpe)]; exact x.symm
      refine ⟨fun x y => ⟨fun h => ?_, fun r => ?_⟩, fun x => ?_, fun x hx => ?_, fun x hx hg => ?_⟩
      · unfold join at h
        by_cases h1 : f x = q
        · rw [if_pos h1] at h
          have r1 : Al (es ++ [(a, b)]) x q := by rw [← h1]; exact (G.self x).more
          by_cases h2 : f y = q
          · exact ((G.al _ _).mp (h1.trans h2.symm)).more
          · rw [if_neg h2] at h
            have r2 : Al (es ++ [(a, b)]) y p := by rw [h]; exact (G.self y).more
            exact r1.trans (rpq.symm.trans r2.symm)
        · rw [if_neg h1] at h
          by_cases h2 : f y = q
          · rw [if_pos h2] at h
            have r1 : Al (es ++ [(a, b)]) x p := by rw [← h]; exact (G.self x).more
            have r2 : Al (es ++ [(a, b)]) y q := by rw [← h2]; exact (G.self y).more
            exact r1.trans (rpq.trans r2.symm)
          · rw [if_neg h2] at h
            exact ((G.al _ _).mp h).more
      · induction r with
        | @eq u v m =>
          rcases List.mem_append.mp m with m | m
          · have e := (G.al u v).mpr (.eq m)
            unfold join
            rw [e]
          · simp only [List.mem_singleton, Prod.mk.injEq] at m
            rw [m.1, m.2, ja, jb]
        | refl _ => rfl
        | symm _ i => exact i.symm
        | trans _ _ i j => exact i.trans j
      · unfold join
        by_cases h1 : f x = q
        · rw [if_pos h1, fp, if_neg hpe]
        · rw [if_neg h1, G.idem, if_neg h1]
      · have e := G.val x hx
        unfold join
        rw [if_neg, e]
        rw [e]
        intro z
        rw [z, hv] at hx
        cases hx
      · unfold join at hg ⊢
        by_cases h1 : f x = q
        · rw [if_pos h1] at hg ⊢
          have k1 := G.var x hx (by rw [h1]; exact hv)
          rw [h1] at k1
          have k2 := le hg hv
          obtain ⟨s, rfl⟩ := var_str hx
          obtain ⟨t, rfl⟩ := var_str hg
          obtain ⟨u, rfl⟩ := var_str hv
          have k3 : slt t u = true := slt_total k2 fun z => hpe (by rw [z])
          show slt s t = false
          cases z : slt s t with
          | false => rfl
          | true =>
            have k4 := slt_trans z k3
            have k5 : slt s u = false := k1
            rw [k5] at k4
            cases k4
        · rw [if_neg h1] at hg ⊢
          exact G.var x hx hg
    · rw [if_neg hv] at h
      cases h
theorem Good.fail {es : Eqs} {f : Key → Key} {e : Key × Key} (G : Good es f) (h : U6.step f e = none) : Clash (es ++ [e]) := by
  obtain ⟨a, b⟩ := e
  unfold U6.step at h
  dsimp only at h
  by_cases hpe : (ord2 (f a) (f b)).1 = (ord2 (f a) (f b)).2
  · rw [if_pos hpe] at h; cases h
  · rw [if_neg hpe] at h
    by_cases hv : isVar (ord2 (f a) (f b)).2 = true
    · rw [if_pos hv] at h; cases h
    · obtain ⟨e, va, vb⟩ := ord2_val (Bool.eq_false_iff.mpr hv)
      rw [e] at hpe
      exact ⟨f a, f b, va, vb, hpe, (G.self a).more.symm.trans (.trans (.eq (List.mem_append_right _ List.mem_cons_self)) (G.self b).more)⟩
def UnifIs (es : Eqs) : Option (Key → Key) → Prop
  | some f => Good es f
  | none => Clash es
theorem unifL_is : ∀ (es' : Eqs) {es : Eqs} {f : Key → Key}, Good es f → UnifIs (es ++ es') (unifL f es')
  | [], es, f, G => by rw [List.append_nil]; exact G
  | e :: r, es, f, G => by
    have q : es ++ e :: r = (es ++ [e]) ++ r := by rw [List.append_assoc]; rfl
    rw [q]
    show UnifIs _ ((step f e).bind fun g => unifL g r)
    cases h : step f e with
    | none => exact (G.fail h).more
    | some g => exact unifL_is r (G.step h)
theorem unif_is (es : Eqs) : UnifIs es (unif es) := unifL_is es Good.nil
theorem unif_good {es : Eqs} {f : Key → Key} (h : unif es = some f) : Good es f := by
  have q := unif_is es
  rw [h] at q
  exact q
theorem unif_clash {es : Eqs} (h : unif es = none) : Clash es := by
  have q := unif_is es
  rw [h] at q
  exact q
theorem Good.noClash {es : Eqs} {f : Key → Key} (G : Good es f) : ¬ Clash es := by
  rintro ⟨u, v, hu, hv, n, r⟩
  have e := (G.al u v).mpr r
  rw [G.val u hu, G.val v hv] at e
  exact n e
theorem Good.val_of {es : Eqs} {f : Key → Key} (G : Good es f) {x c : Key} (hc : isVar c = false) (r : Al es x c) : f x = c := by
  have e := (G.al x c).mpr r
  rw [G.val c hc] at e
  exact e
theorem Good.unique {es es' : Eqs} {f f' : Key → Key} (G : Good es f) (G' : Good es' f') (h : ∀ x y, Al es x y ↔ Al es' x y) : f = f' := by
  funext x
  have r1 : Al es x (f' x) := (h _ _).mpr (G'.self x)
  have r2 : Al es' x (f x) := (h _ _).mp (G.self x)
  cases v : isVar (f x) with
  | false => exact (G'.val_of v r2).symm
  | true =>
    cases v' : isVar (f' x) with
    | false => exact G.val_of v' r1
    | true =>
      have e1 : f (f' x) = f x := ((G.al _ _).mpr r1).symm
      have e2 : f' (f x) = f' x := ((G'.al _ _).mpr r2).symm
      have k1 := G.var (f' x) v' (by rw [e1]; exact v)
      have k2 := G'.var (f x) v (by rw [e2]; exact v')
      rw [e1] at k1
      rw [e2] at k2
      obtain ⟨s, hs⟩ := var_str v
      obtain ⟨t, ht⟩ := var_str v'
      rw [hs, ht] at k1 k2 ⊢
      rw [slt_tri (show slt s t = false from k2) k1]
theorem Good.var_of {es : Eqs} {f : Key → Key} (G : Good es f) {x u : Key} (hu : isVar u = true) (r : Al es x u) (nv : ∀ c, isVar c = false → ¬ Al es x c) (mn : ∀ w, isVar w = true → Al es x w → klt w u = false) : f x = u := by
  have v : isVar (f x) = true := by
    cases e : isVar (f x) with
    | true => rfl
    | false => exact absurd (G.self x) (nv _ e)
  have e1 : f u = f x := ((G.al _ _).mpr r).symm
  have k1 := G.var u hu (by rw [e1]; exact v)
  rw [e1] at k1
  have k2 := mn (f x) v (G.self x)
  obtain ⟨s, hs⟩ := var_str v
  obtain ⟨t, rfl⟩ := var_str hu
  rw [hs] at k1 k2 ⊢
  rw [slt_tri (show slt s t = false from k2) k1]

/-! ### variables in order -/
def ins (x : Str) : List Str → List Str
  | [] => [x]
  | y :: r => if x = y then y :: r else if slt x y = true then x :: y :: r else y :: ins x r
def varsOf (l : List Key) : List Str := l.foldr (fun k acc => match k with
  | .inr s => if isVar (.inr s) = true then ins s acc else acc
  | .inl _ => acc) []
abbrev Asc (l : List Str) : Prop := l.Pairwise fun a b => slt a b = true
theorem mem_ins {x z : Str} : ∀ {l : List Str}, z ∈ ins x l ↔ z = x ∨ z ∈ l
  | [] => by simp [ins]
  | y :: r => by
    unfold ins
    by_cases h : x = y
    · rw [if_pos h]
      subst h
      simp
    · rw [if_neg h]
      by_cases h2 : slt x y = true
      · rw [if_pos h2]; simp
      · rw [if_neg h2, List.mem_cons, mem_ins (l := r), List.mem_cons]
        constructor
        · rintro (a | a | a)
          · exact .inr (.inl a)
          · exact .inl a
          · exact .inr (.inr a)
        · rintro (a | a | a)
          · exact .inr (.inl a)
          · exact .inl a
          · exact .inr (.inr a)
theorem asc_ins {x : Str} : ∀ {l : List Str}, Asc l → Asc (ins x l)
  | [], _ => List.pairwise_singleton _ _
  | y :: r, h => by
    obtain ⟨h1, h2⟩ := List.pairwise_cons.mp h
    unfold ins
    by_cases e : x = y
    · rw [if_pos e]; exact h
    · rw [if_neg e]
      by_cases e2 : slt x y = true
      · rw [if_pos e2]
        refine List.pairwise_cons.mpr ⟨fun z hz => ?_, h⟩
        rcases List.mem_cons.mp hz with q | q
        · rw [q]; exact e2
        · exact slt_trans e2 (h1 z q)
      · rw [if_neg e2]
        refine List.pairwise_cons.mpr ⟨fun z hz => ?_, asc_ins h2⟩
        rcases mem_ins.mp hz with q | q
        · rw [q]; exact slt_total (Bool.eq_false_iff.mpr e2) e
        · exact h1 z q
theorem asc_vars : ∀ l : List Key, Asc (varsOf l)
  | [] => List.Pairwise.nil
  | .inl i :: r => asc_vars r
  | .inr s :: r => by
    show Asc (if isVar (.inr s) = true then ins s (varsOf r) else varsOf r)
    by_cases h : isVar (.inr s) = true
    · rw [if_pos h]; exact asc_ins (asc_vars r)
    · rw [if_neg h]; exact asc_vars r
theorem mem_vars {z : Str} : ∀ {l : List Key}, z ∈ varsOf l ↔ (.inr z ∈ l ∧ isVar (.inr z) = true)
  | [] => by simp [varsOf]
  | .inl i :: r => by
    show z ∈ varsOf r ↔ _
    rw [mem_vars (l := r)]
    simp
  | .inr s :: r => by
    show z ∈ (if isVar (.inr s) = true then ins s (varsOf r) else varsOf r) ↔ _
    by_cases h : isVar (.inr s) = true
    · rw [if_pos h, mem_ins, mem_vars (l := r), List.mem_cons]
      constructor
      · rintro (e | ⟨a, b⟩)
        · subst e; exact ⟨.inl rfl, h⟩
        · exact ⟨.inr a, b⟩
      · rintro ⟨a | a, b⟩
        · exact .inl (Sum.inr.inj a)
        · exact .inr ⟨a, b⟩
    · rw [if_neg h, mem_vars (l := r), List.mem_cons]
      constructor
      · rintro ⟨a, b⟩; exact ⟨.inr a, b⟩
      · rintro ⟨a | a, b⟩
        · rw [Sum.inr.inj a] at b; exact absurd b h
        · exact ⟨a, b⟩
theorem asc_unique : ∀ {l l' : List Str}, Asc l → Asc l' → (∀ z, z ∈ l ↔ z ∈ l') → l = l'
  | [], [], _, _, _ => rfl
  | [], y :: r, _, _, h => by
    have q := (h y).mpr List.mem_cons_self
    cases q
  | x :: r, [], _, _, h => by
    have q := (h x).mp List.mem_cons_self
    cases q
  | x :: r, y :: r', h1, h2, h => by
    obtain ⟨a1, a2⟩ := List.pairwise_cons.mp h1
    obtain ⟨b1, b2⟩ := List.pairwise_cons.mp h2
    have e : x = y := by
      rcases List.mem_cons.mp ((h x).mp List.mem_cons_self) with q | q
      · exact q
      · rcases List.mem_cons.mp ((h y).mpr List.mem_cons_self) with q2 | q2
        · exact q2.symm
        · have k := slt_trans (a1 y q2) (b1 x q)
          rw [slt_irrefl] at k
          cases k
    subst e
    have nx : x ∉ r := fun m => by
      have k := a1 x m
      rw [slt_irrefl] at k
      cases k
    have ny : x ∉ r' := fun m => by
      have k := b1 x m
      rw [slt_irrefl] at k
      cases k
    rw [asc_unique a2 b2 fun z => ?_]
    constructor
    · intro m
      rcases List.mem_cons.mp ((h z).mp (List.mem_cons_of_mem _ m)) with q | q
      · rw [q] at m; exact absurd m nx
      · exact q
    · intro m
      rcases List.mem_cons.mp ((h z).mpr (List.mem_cons_of_mem _ m)) with q | q
      · rw [q] at m; exact absurd m ny
      · exact q
theorem asc_nodup {l : List Str} (h : Asc l) : l.Nodup := h.imp fun {a b} k e => by
  rw [e, slt_irrefl] at k
  cases k

/-! ### what is told -/
def vars (es : Eqs) : List Str := varsOf (terms es)
def tell (f : Key → Key) (vs : List Str) : Eqs := vs.map fun v => (.inr v, f (.inr v))
def told (es : Eqs) : Option Eqs := (unif es).map fun f => tell f (vars es)
theorem told_congr {es es' : Eqs} (h : ∀ x y, Al es x y ↔ Al es' x y) (hv : ∀ z, z ∈ vars es ↔ z ∈ vars es') : told es = told es' := by
  unfold told
  have ev : vars es = vars es' := asc_unique (asc_vars _) (asc_vars _) hv
  cases e : unif es with
  | some f =>
    cases e' : unif es' with
    | some f' =>
      rw [ev, (unif_good e).unique (unif_good e') h]
    | none =>
      obtain ⟨u, v, a, b, n, r⟩ := unif_clash e'
      exact absurd ⟨u, v, a, b, n, (h _ _).mpr r⟩ (unif_good e).noClash
  | none =>
    cases e' : unif es' with
    | some f' =>
      obtain ⟨u, v, a, b, n, r⟩ := unif_clash e
      exact absurd ⟨u, v, a, b, n, (h _ _).mp r⟩ (unif_good e').noClash
    | none => rfl
theorem mem_varsE {es : Eqs} {z : Str} : z ∈ vars es ↔ ((∃ e ∈ es, .inr z = e.1 ∨ .inr z = e.2) ∧ isVar (.inr z) = true) := by
  unfold vars
  rw [mem_vars, mem_terms]
def swp (e : Key × Key) : Key × Key := (e.2, e.1)
/-- the same equations but for order, direction, number -/
def Sub (es es' : Eqs) : Prop := ∀ e ∈ es, e ∈ es' ∨ swp e ∈ es'
theorem Sub.al {es es' : Eqs} (h : Sub es es') {x y : Key} (r : Al es x y) : Al es' x y := r.mono fun a b m => by
  rcases h _ m with q | q
  · exact .eq q
  · exact (Al.eq (a := b) (b := a) q).symm
theorem Sub.vars {es es' : Eqs} (h : Sub es es') {z : Str} (m : z ∈ vars es) : z ∈ U6.vars es' := by
  obtain ⟨⟨e, he, k⟩, v⟩ := mem_varsE.mp m
  refine mem_varsE.mpr ⟨?_, v⟩
  rcases h e he with q | q
  · exact ⟨e, q, k⟩
  · exact ⟨swp e, q, k.symm⟩
theorem told_same {es es' : Eqs} (h : Sub es es') (h' : Sub es' es) : told es = told es' :=
  told_congr (fun _ _ => ⟨h.al, h'.al⟩) fun _ => ⟨h.vars, h'.vars⟩
theorem Good.inVars {es : Eqs} {f : Key → Key} (G : Good es f) {v : Str} (hv : v ∈ vars es) {u : Str} (e : f (.inr v) = .inr u) (hu : isVar (.inr u) = true) : u ∈ vars es := by
  have r := G.self (.inr v)
  rw [e] at r
  rcases r.inTerms with q | ⟨_, q⟩
  · rw [← Sum.inr.inj q]; exact hv
  · obtain ⟨e, he, k⟩ := mem_terms.mp q
    exact mem_varsE.mpr ⟨⟨e, he, k⟩, hu⟩
/-- what was told, as equations -/
theorem tell_al {es : Eqs} {f : Key → Key} (G : Good es f) (x y : Key) : Al (tell f (vars es)) x y ↔ Al es x y := by
  constructor
  · intro r
    refine r.mono fun a b m => ?_
    obtain ⟨v, _, e⟩ := List.mem_map.mp m
    rw [← (Prod.mk.inj e).1, ← (Prod.mk.inj e).2]
    exact G.self _
  · intro r
    have key : ∀ z, z ∈ terms es → Al (tell f (vars es)) z (f z) := fun z hz => by
      cases v : isVar z with
      | false => rw [G.val z v]; exact .refl z
      | true =>
        obtain ⟨s, rfl⟩ := var_str v
        obtain ⟨e, he, k⟩ := mem_terms.mp hz
        exact .eq (List.mem_map.mpr ⟨s, mem_varsE.mpr ⟨⟨e, he, k⟩, v⟩, rfl⟩)
    refine r.mono fun a b m => ?_
    have ha := key a (mem_terms.mpr ⟨_, m, .inl rfl⟩)
    have hb := key b (mem_terms.mpr ⟨_, m, .inr rfl⟩)
    have e : f a = f b := (G.al a b).mpr (.eq m)
    rw [e] at ha
    exact ha.trans hb.symm
theorem tell_vars {es : Eqs} {f : Key → Key} (G : Good es f) (z : Str) : z ∈ vars (tell f (vars es)) ↔ z ∈ vars es := by
  constructor
  · intro m
    obtain ⟨⟨e, he, k⟩, hv⟩ := mem_varsE.mp m
    obtain ⟨v, mv, rfl⟩ := List.mem_map.mp he
    rcases k with k | k
    · rw [Sum.inr.inj k]; exact mv
    · exact G.inVars mv k.symm hv
  · intro m
    have q := mem_vars.mp m
    exact mem_varsE.mpr ⟨⟨_, List.mem_map.mpr ⟨z, m, rfl⟩, .inl rfl⟩, q.2⟩
theorem told_some {es d : Eqs} (h : told es = some d) : ∃ f, unif es = some f ∧ Good es f ∧ d = tell f (vars es) := by
  unfold told at h
  cases e : unif es with
  | none => rw [e] at h; cases h
  | some f =>
    rw [e] at h
    exact ⟨f, rfl, unif_good e, (Option.some.inj h).symm⟩
theorem told_more {es d es' : Eqs} (h : told es = some d) (h1 : ∀ e ∈ es', e ∈ es ∨ e ∈ d) (h2 : ∀ e ∈ d, e ∈ es') : told es' = some d := by
  obtain ⟨f, _, G, rfl⟩ := told_some h
  rw [← h]
  refine told_congr (fun x y => ⟨fun r => r.mono fun a b m => ?_, fun r => ?_⟩) fun z => ⟨fun m => ?_, fun m => ?_⟩
  · rcases h1 _ m with q | q
    · exact .eq q
    · exact (tell_al G a b).mp (.eq q)
  · exact ((tell_al G x y).mpr r).mono fun a b m => .eq (h2 _ m)
  · obtain ⟨⟨e, he, k⟩, hv⟩ := mem_varsE.mp m
    rcases h1 e he with q | q
    · exact mem_varsE.mpr ⟨⟨e, q, k⟩, hv⟩
    · exact (tell_vars G z).mp (mem_varsE.mpr ⟨⟨e, q, k⟩, hv⟩)
  · obtain ⟨⟨e, he, k⟩, hv⟩ := mem_varsE.mp ((tell_vars G z).mpr m)
    exact mem_varsE.mpr ⟨⟨e, h2 e he, k⟩, hv⟩
end U6
set_option Elab.async false
set_option linter.all false
set_option maxHeartbeats 4000000
/-! The plain law, further: classes by marks; all assignments. -/
namespace U6
open PySem L2

/-! ### one equation more -/
theorem al_snoc {es : Eqs} {a b x y : Key} : Al (es ++ [(a, b)]) x y ↔ Al es x y ∨ (Al es x a ∧ Al es b y) ∨ (Al es x b ∧ Al es a y) := by
  have hab : Al (es ++ [(a, b)]) a b := .eq (List.mem_append_right _ List.mem_cons_self)
  constructor
  · intro r
    induction r with
    | @eq u v m =>
      rcases List.mem_append.mp m with m | m
      · exact .inl (.eq m)
      · simp only [List.mem_singleton, Prod.mk.injEq] at m
        rw [m.1, m.2]
        exact .inr (.inl ⟨.refl _, .refl _⟩)
    | refl u => exact .inl (.refl u)
    | symm _ i =>
      rcases i with i | ⟨i, j⟩ | ⟨i, j⟩
      · exact .inl i.symm
      · exact .inr (.inr ⟨j.symm, i.symm⟩)
      · exact .inr (.inl ⟨j.symm, i.symm⟩)
    | trans _ _ i j =>
      rcases i with i | ⟨i, i2⟩ | ⟨i, i2⟩
      · rcases j with j | ⟨j, j2⟩ | ⟨j, j2⟩
        · exact .inl (i.trans j)
        · exact .inr (.inl ⟨i.trans j, j2⟩)
        · exact .inr (.inr ⟨i.trans j, j2⟩)
      · rcases j with j | ⟨j, j2⟩ | ⟨j, j2⟩
        · exact .inr (.inl ⟨i, i2.trans j⟩)
        · exact .inr (.inl ⟨i, j2⟩)
        · exact .inl (i.trans j2)
      · rcases j with j | ⟨j, j2⟩ | ⟨j, j2⟩
        · exact .inr (.inr ⟨i, i2.trans j⟩)
        · exact .inl (i.trans j2)
        · exact .inr (.inr ⟨i, j2⟩)
  · rintro (r | ⟨r, t⟩ | ⟨r, t⟩)
    · exact r.more
    · exact r.more.trans (hab.trans t.more)
    · exact r.more.trans (hab.symm.trans t.more)
theorem terms_snoc {es : Eqs} {a b : Key} : terms (es ++ [(a, b)]) = terms es ++ [a, b] := by
  unfold terms
  rw [List.flatMap_append]
  rfl

/-! ### marks -/
/-- m tells the classes of R on S -/
def Marks (S : Key → Prop) (R : Key → Key → Prop) (m : Key → Nat) (n : Nat) : Prop := (∀ k, S k → m k < n) ∧ ∀ k k', S k → S k' → (m k = m k' ↔ R k k')
def mark1 (m : Key → Nat) (a : Key) (n : Nat) : Key → Nat := fun k => if k = a then n else m k
theorem Marks.add {es : Eqs} {S : Key → Prop} {m : Key → Nat} {n : Nat} {a : Key} (h : Marks S (Al es) m n) (hs : ∀ k, k ∈ terms es → S k) (na : ¬ S a) : Marks (fun k => S k ∨ k = a) (Al es) (mark1 m a n) (n + 1) := by
  have ne : ∀ k, S k → k ≠ a := fun k hk e => na (e ▸ hk)
  have ap : ∀ k, S k → ¬ Al es a k := fun k hk r => by
    rcases r.inTerms with e | ⟨e, _⟩
    · exact ne k hk e.symm
    · exact na (hs _ e)
  have m1 : ∀ k, S k → mark1 m a n k = m k := fun k hk => if_neg (ne k hk)
  have m2 : mark1 m a n a = n := if_pos rfl
  refine ⟨fun k hk => ?_, fun k k' hk hk' => ?_⟩
  · rcases hk with hk | hk
    · rw [m1 k hk]; exact Nat.lt_succ_of_lt (h.1 k hk)
    · rw [hk, m2]; exact Nat.lt_succ_self n
  · rcases hk with hk | hk
    · rcases hk' with hk' | hk'
      · rw [m1 k hk, m1 k' hk']; exact h.2 k k' hk hk'
      · rw [hk', m1 k hk, m2]
        exact ⟨fun e => absurd e (Nat.ne_of_lt (h.1 k hk)), fun r => absurd r.symm (ap k hk)⟩
    · rcases hk' with hk' | hk'
      · rw [hk, m1 k' hk', m2]
        exact ⟨fun e => absurd e.symm (Nat.ne_of_lt (h.1 k' hk')), fun r => absurd r (ap k' hk')⟩
      · rw [hk, hk']; exact ⟨fun _ => .refl a, fun _ => rfl⟩
def merge (m : Key → Nat) (lo hi : Nat) : Key → Nat := fun k => if m k = hi then lo else m k
theorem Marks.merge {es : Eqs} {S : Key → Prop} {m : Key → Nat} {n : Nat} {a b : Key} (h : Marks S (Al es) m n) (ha : S a) (hb : S b) : Marks S (Al (es ++ [(a, b)])) (merge m (m a) (m b)) n := by
  refine ⟨fun k hk => ?_, fun k k' hk hk' => ?_⟩
  · unfold U6.merge
    by_cases e : m k = m b
    · rw [if_pos e]; exact h.1 a ha
    · rw [if_neg e]; exact h.1 k hk
  · rw [al_snoc, ← h.2 k k' hk hk', ← h.2 k a hk ha, ← h.2 b k' hb hk', ← h.2 k b hk hb, ← h.2 a k' ha hk']
    unfold U6.merge
    by_cases e : m k = m b
    · rw [if_pos e]
      by_cases e' : m k' = m b
      · rw [if_pos e']
        exact ⟨fun _ => .inl (e.trans e'.symm), fun _ => rfl⟩
      · rw [if_neg e']
        constructor
        · intro q; exact .inr (.inr ⟨e, q⟩)
        · rintro (q | ⟨q, q2⟩ | ⟨_, q⟩)
          · exact absurd (q.symm.trans e) e'
          · exact absurd q2.symm e'
          · exact q
    · rw [if_neg e]
      by_cases e' : m k' = m b
      · rw [if_pos e']
        constructor
        · intro q; exact .inr (.inl ⟨q, e'.symm⟩)
        · rintro (q | ⟨q, _⟩ | ⟨q, _⟩)
          · exact absurd (q.trans e') e
          · exact q
          · exact absurd q e
      · rw [if_neg e']
        constructor
        · intro q; exact .inl q
        · rintro (q | ⟨_, q⟩ | ⟨q, _⟩)
          · exact q
          · exact absurd q.symm e'
          · exact absurd q e
theorem Marks.congr {S S' : Key → Prop} {R : Key → Key → Prop} {m : Key → Nat} {n : Nat} (h : Marks S R m n) (e : ∀ k, S' k → S k) : Marks S' R m n :=
  ⟨fun k hk => h.1 k (e k hk), fun k k' hk hk' => h.2 k k' (e k hk) (e k' hk')⟩

/-! ### what the classes tell -/
theorem find_some_iff {α : Type} {p : α → Bool} : ∀ {l : List α} {x : α}, l.find? p = some x → p x = true ∧ x ∈ l := fun {l x} h => ⟨List.find?_some h, List.mem_of_find?_eq_some h⟩
/-- the first of an ascending list is least -/
theorem asc_first {p : Str → Bool} : ∀ {l : List Str} {x : Str}, Asc l → l.find? p = some x → ∀ z ∈ l, p z = true → slt z x = false
  | [], _, _, h => by cases h
  | y :: r, x, a, h => by
    obtain ⟨a1, a2⟩ := List.pairwise_cons.mp a
    intro z hz pz
    by_cases e : p y = true
    · rw [List.find?_cons_of_pos e] at h
      cases h
      rcases List.mem_cons.mp hz with q | q
      · rw [q]; exact slt_irrefl _
      · exact slt_asymm (a1 z q)
    · rw [List.find?_cons_of_neg e] at h
      rcases List.mem_cons.mp hz with q | q
      · rw [q] at pz; exact absurd pz e
      · exact asc_first a2 h z q pz
/-- the value of a name's class, or its first name -/
def classOf (m : Key → Nat) (cs : List Key) (vs : List Str) (v : Str) : Key :=
  (cs.find? fun c => m c == m (.inr v)).getD (((vs.find? fun z => m (.inr z) == m (.inr v)).map Sum.inr).getD (.inr v))
theorem classOf_is {es : Eqs} {f : Key → Key} (G : Good es f) {m : Key → Nat} {n : Nat} (h : Marks (fun k => k ∈ terms es) (Al es) m n) {cs : List Key} (hcs : ∀ c, c ∈ cs ↔ (c ∈ terms es ∧ isVar c = false)) {v : Str} (hv : v ∈ vars es) :
    classOf m cs (vars es) v = f (.inr v) := by
  have q := mem_vars.mp hv
  have vt : Sum.inr v ∈ terms es := q.1
  unfold classOf
  cases e : cs.find? fun c => m c == m (.inr v) with
  | some c =>
    obtain ⟨h1, h2⟩ := find_some_iff e
    obtain ⟨ct, cv⟩ := (hcs c).mp h2
    have r : Al es c (.inr v) := (h.2 c _ ct vt).mp (by simpa using h1)
    exact (G.val_of cv r.symm).symm
  | none =>
    have nc : ∀ c, isVar c = false → ¬ Al es (.inr v) c := fun c hc r => by
      rcases r.inTerms with z | ⟨_, z⟩
      · rw [← z, q.2] at hc; cases hc
      · have k := List.find?_eq_none.mp e c ((hcs c).mpr ⟨z, hc⟩)
        have k2 := (h.2 c _ z vt).mpr r.symm
        simp [k2] at k
    cases e2 : (vars es).find? fun z => m (.inr z) == m (.inr v) with
    | none =>
      have k := List.find?_eq_none.mp e2 v hv
      simp at k
    | some u =>
      obtain ⟨h1, h2⟩ := find_some_iff e2
      have qu := mem_vars.mp h2
      have r : Al es (.inr u) (.inr v) := (h.2 _ _ qu.1 vt).mp (by simpa using h1)
      refine (G.var_of qu.2 r.symm nc fun w hw rw' => ?_).symm
      obtain ⟨s, rfl⟩ := var_str hw
      refine asc_first (asc_vars _) e2 s ?_ ?_
      · rcases rw'.inTerms with z | ⟨_, z⟩
        · rw [← Sum.inr.inj z]; exact hv
        · exact mem_vars.mpr ⟨z, hw⟩
      · have st : Sum.inr s ∈ terms es := by
          rcases rw'.inTerms with z | ⟨_, z⟩
          · rw [← z]; exact vt
          · exact z
        simpa using (h.2 _ _ st vt).mpr rw'.symm
/-- no two values in one class: there is a unifier -/
theorem marks_good {es : Eqs} {m : Key → Nat} {n : Nat} (h : Marks (fun k => k ∈ terms es) (Al es) m n) {cs : List Key} (hcs : ∀ c, c ∈ cs ↔ (c ∈ terms es ∧ isVar c = false))
    (hn : ∀ c ∈ cs, ∀ d ∈ cs, m c = m d → c = d) : ∃ f, unif es = some f ∧ Good es f := by
  cases e : unif es with
  | some f => exact ⟨f, rfl, unif_good e⟩
  | none =>
    obtain ⟨u, v, hu, hv, ne, r⟩ := unif_clash e
    rcases r.inTerms with z | ⟨z, z2⟩
    · exact absurd z ne
    · exact absurd (hn u ((hcs u).mpr ⟨z, hu⟩) v ((hcs v).mpr ⟨z2, hv⟩) ((h.2 u v z z2).mpr r)) ne
theorem marks_clash {es : Eqs} {m : Key → Nat} {n : Nat} (h : Marks (fun k => k ∈ terms es) (Al es) m n) {c d : Key} (hc : c ∈ terms es) (hd : d ∈ terms es) (vc : isVar c = false) (vd : isVar d = false) (ne : c ≠ d) (e : m c = m d) : unif es = none := by
  cases q : unif es with
  | none => rfl
  | some f => exact absurd ⟨c, d, vc, vd, ne, (h.2 c d hc hd).mp e⟩ (unif_good q).noClash

/-! ### assignments -/
def asgn (own : List Str) (l : List Key) (t : Key) : Key := (((own.zip l).find? fun p => decide (Sum.inr p.1 = t)).map (·.2)).getD t
theorem asgn_at : ∀ {own : List Str} {l : List Key} {i : Nat} {s : Str} {x : Key}, own.Nodup → own[i]? = some s → l[i]? = some x → asgn own l (.inr s) = x
  | [], _, _, _, _, _, h, _ => by simp at h
  | _ :: _, [], _, _, _, _, _, h => by simp at h
  | o :: own, y :: l, 0, s, x, _, h1, h2 => by
    have e1 : o = s := Option.some.inj h1
    have e2 : y = x := Option.some.inj h2
    subst e1 e2
    simp [asgn]
  | o :: own, y :: l, i + 1, s, x, nd, h1, h2 => by
    obtain ⟨n1, n2⟩ := List.nodup_cons.mp nd
    have h1' : own[i]? = some s := h1
    have ne : o ≠ s := fun e => n1 (by rw [e]; exact List.mem_of_getElem? h1')
    have ih := asgn_at (l := l) (i := i) (x := x) n2 h1' h2
    unfold asgn at ih ⊢
    rw [List.zip_cons_cons, List.find?_cons_of_neg (by simpa using ne)]
    exact ih
theorem asgn_out {own : List Str} {l : List Key} {t : Key} (h : ∀ s ∈ own, t ≠ .inr s) : asgn own l t = t := by
  unfold asgn
  rw [List.find?_eq_none.mpr]
  · rfl
  · intro p hp
    have q := h p.1 (List.of_mem_zip (a := p.1) (b := p.2) hp).1
    simpa using fun e => q e.symm
def sat (es : Eqs) (a : Key → Key) : Bool := es.all fun e => decide (a e.1 = a e.2)
theorem sat_al {es : Eqs} {a : Key → Key} (h : sat es a = true) {x y : Key} (r : Al es x y) : a x = a y := by
  induction r with
  | @eq u v m =>
    have q := List.all_eq_true.mp h _ m
    simpa using q
  | refl _ => rfl
  | symm _ i => exact i.symm
  | trans _ _ i j => exact i.trans j
def lots (menu : List Key) : Nat → List (List Key)
  | 0 => [[]]
  | n + 1 => (lots menu n).flatMap fun b => menu.map fun o => b ++ [o]
theorem mem_lots {menu : List Key} : ∀ {n : Nat} {l : List Key}, l ∈ lots menu n ↔ (l.length = n ∧ ∀ x ∈ l, x ∈ menu)
  | 0, l => by
    unfold lots
    rw [List.mem_singleton]
    constructor
    · intro e; subst e; exact ⟨rfl, by simp⟩
    · intro h; exact List.length_eq_zero_iff.mp h.1
  | n + 1, l => by
    unfold lots
    rw [List.mem_flatMap]
    constructor
    · rintro ⟨b, hb, m⟩
      obtain ⟨o, ho, e⟩ := List.mem_map.mp m
      obtain ⟨h1, h2⟩ := (mem_lots (n := n)).mp hb
      subst e
      refine ⟨by simp [h1], fun x hx => ?_⟩
      rcases List.mem_append.mp hx with q | q
      · exact h2 x q
      · rw [List.mem_singleton.mp q]; exact ho
    · rintro ⟨h1, h2⟩
      have ne : l ≠ [] := fun e => by rw [e] at h1; cases h1
      refine ⟨l.dropLast, (mem_lots (n := n)).mpr ⟨by rw [List.length_dropLast, h1]; rfl, fun x hx => h2 x (List.dropLast_subset l hx)⟩, List.mem_map.mpr ⟨l.getLast ne, h2 _ (List.getLast_mem ne), List.dropLast_concat_getLast ne⟩⟩
theorem lots_len (menu : List Key) : ∀ n, (lots menu n).length = menu.length ^ n
  | 0 => rfl
  | n + 1 => by
    unfold lots
    have h : ∀ L : List (List Key), (L.flatMap fun b => menu.map fun o => b ++ [o]).length = L.length * menu.length := by
      intro L
      induction L with
      | nil => simp
      | cons b L ih => rw [List.flatMap_cons, List.length_append, List.length_map, ih, List.length_cons, Nat.succ_mul, Nat.add_comm]
    rw [h, lots_len menu n, Nat.pow_succ]
/-- the assignment that gives each class without a value what h says -/
def free (f h : Key → Key) (t : Key) : Key := if isVar (f t) = true then h (f t) else f t
section
variable {es : Eqs} {f : Key → Key}
theorem own_nodup (es : Eqs) : (vars es).Nodup := asc_nodup (asc_vars _)
theorem free_asgn (G : Good es f) (h : Key → Key) {t : Key} (ht : t ∈ terms es) : asgn (vars es) ((vars es).map fun v => free f h (.inr v)) t = free f h t := by
  cases v : isVar t with
  | true =>
    obtain ⟨s, rfl⟩ := var_str v
    have hs : s ∈ vars es := mem_vars.mpr ⟨ht, v⟩
    obtain ⟨i, hi⟩ := List.mem_iff_getElem?.mp hs
    exact asgn_at (own_nodup es) hi (by rw [List.getElem?_map, hi]; rfl)
  | false =>
    rw [asgn_out]
    · unfold free
      rw [G.val t v, if_neg (by rw [v]; exact Bool.false_ne_true)]
    · intro s hs e
      rw [e, (mem_vars.mp hs).2] at v
      cases v
theorem free_sat (G : Good es f) (h : Key → Key) : sat es (asgn (vars es) ((vars es).map fun v => free f h (.inr v))) = true := by
  refine List.all_eq_true.mpr fun e he => ?_
  have e1 := free_asgn G h (mem_terms.mpr ⟨e, he, .inl rfl⟩)
  have e2 := free_asgn G h (mem_terms.mpr ⟨e, he, .inr rfl⟩)
  have q : f e.1 = f e.2 := (G.al _ _).mpr (.eq he)
  rw [e1, e2]
  unfold free
  rw [q]
  simp
theorem free_lot (G : Good es f) {menu : List Key} (hm : ∀ c, c ∈ terms es → isVar c = false → c ∈ menu) (h : Key → Key) (hh : ∀ u, h u ∈ menu) : ((vars es).map fun v => free f h (.inr v)) ∈ lots menu (vars es).length := by
  refine mem_lots.mpr ⟨List.length_map _, fun x hx => ?_⟩
  obtain ⟨v, hv, rfl⟩ := List.mem_map.mp hx
  unfold free
  cases q : isVar (f (.inr v)) with
  | true => rw [if_pos rfl]; exact hh _
  | false =>
    rw [if_neg Bool.false_ne_true]
    refine hm _ ?_ q
    rcases (G.self (.inr v)).inTerms with z | ⟨_, z⟩
    · rw [← z]; exact (mem_vars.mp hv).1
    · exact z
end
def sols (es : Eqs) (menu : List Key) : List (List Key) := (lots menu (vars es).length).filter fun l => sat es (asgn (vars es) l)
theorem mem_sols {es : Eqs} {menu : List Key} {l : List Key} : l ∈ sols es menu ↔ (l ∈ lots menu (vars es).length ∧ sat es (asgn (vars es) l) = true) := List.mem_filter
/-- what the assignments tell of the name at a place -/
def col (ls : List (List Key)) (i : Nat) : List Key := ls.map fun l => l.getD i (.inl 0)
def dueAt (own : List Str) (ls : List (List Key)) (i : Nat) : Key :=
  if (col ls i).all (fun x => decide (x = (col ls i).headD (.inl 0))) = true then (col ls i).headD (.inl 0)
  else .inr (own.getD (((List.range own.length).find? fun j => decide (col ls j = col ls i)).getD 0) Str.empty)
theorem col_eq {ls : List (List Key)} {i j : Nat} : col ls j = col ls i ↔ ∀ l ∈ ls, l.getD j (.inl 0) = l.getD i (.inl 0) := by
  unfold col
  exact List.map_inj_left
theorem sat_none {es : Eqs} (h : unif es = none) (own : List Str) (ho : ∀ s ∈ own, isVar (.inr s) = true) (l : List Key) : sat es (asgn own l) = false := by
  cases e : sat es (asgn own l) with
  | false => rfl
  | true =>
    obtain ⟨u, v, hu, hv, n, r⟩ := unif_clash h
    have q := sat_al e r
    have out : ∀ {c : Key}, isVar c = false → asgn own l c = c := fun {c} hc => asgn_out fun s hs z => by
      rw [z, ho s hs] at hc
      cases hc
    rw [out hu, out hv] at q
    exact absurd q n
theorem sols_none {es : Eqs} (h : unif es = none) (menu : List Key) : sols es menu = [] := by
  refine List.filter_eq_nil_iff.mpr fun l _ => ?_
  rw [sat_none h (vars es) (fun s hs => (mem_vars.mp hs).2) l]
  exact Bool.false_ne_true
theorem sols_some {es : Eqs} {f : Key → Key} (G : Good es f) {menu : List Key} (hm : ∀ c, c ∈ terms es → isVar c = false → c ∈ menu) {m1 : Key} (h1 : m1 ∈ menu) : sols es menu ≠ [] := by
  have q : _ ∈ sols es menu := mem_sols.mpr ⟨free_lot G hm (fun _ => m1) fun _ => h1, free_sat G fun _ => m1⟩
  intro e
  rw [e] at q
  cases q
theorem sol_at {es : Eqs} {menu : List Key} {l : List Key} (h : l ∈ lots menu (vars es).length) {i : Nat} {s : Str} (hi : (vars es)[i]? = some s) : asgn (vars es) l (.inr s) = l.getD i (.inl 0) := by
  have hl : i < l.length := by rw [(mem_lots.mp h).1]; exact (List.getElem?_eq_some_iff.mp hi).1
  refine asgn_at (own_nodup es) hi ?_
  rw [List.getElem?_eq_getElem hl, List.getD_eq_getElem?_getD, List.getElem?_eq_getElem hl]
  rfl
theorem dueAt_is {es : Eqs} {f : Key → Key} (G : Good es f) {menu : List Key} (hm : ∀ c, c ∈ terms es → isVar c = false → c ∈ menu) {m1 m2 : Key} (h1 : m1 ∈ menu) (h2 : m2 ∈ menu) (ne : m1 ≠ m2)
    {i : Nat} {s : Str} (hi : (vars es)[i]? = some s) : dueAt (vars es) (sols es menu) i = f (.inr s) := by
  have hs : s ∈ vars es := List.mem_of_getElem? hi
  have hst : Sum.inr s ∈ terms es := (mem_vars.mp hs).1
  have sol : ∀ h : Key → Key, (∀ u, h u ∈ menu) → ((vars es).map fun v => free f h (.inr v)) ∈ sols es menu := fun h hh => mem_sols.mpr ⟨free_lot G hm h hh, free_sat G h⟩
  have solAt : ∀ (h : Key → Key) (j : Nat) (u : Str), (vars es)[j]? = some u → ((vars es).map fun v => free f h (.inr v)).getD j (.inl 0) = free f h (.inr u) := fun h j u hj => by
    rw [List.getD_eq_getElem?_getD, List.getElem?_map, hj]
    rfl
  have nonempty := sols_some G hm h1
  have any : ∀ l ∈ sols es menu, ∀ (j : Nat) (u : Str), (vars es)[j]? = some u → asgn (vars es) l (.inr u) = l.getD j (.inl 0) := fun l hl j u hj => sol_at (mem_sols.mp hl).1 hj
  cases v : isVar (f (.inr s)) with
  | false =>
    have all : ∀ l ∈ sols es menu, l.getD i (.inl 0) = f (.inr s) := fun l hl => by
      have q := sat_al (mem_sols.mp hl).2 (G.self (.inr s))
      rw [any l hl i s hi] at q
      rw [q]
      exact asgn_out fun z hz e => by
        rw [e, (mem_vars.mp hz).2] at v
        cases v
    have hd : (col (sols es menu) i).headD (.inl 0) = f (.inr s) := by
      unfold col
      cases e : sols es menu with
      | nil => exact absurd e nonempty
      | cons l r => exact all l (by rw [e]; exact List.mem_cons_self)
    unfold dueAt
    rw [hd, if_pos]
    refine List.all_eq_true.mpr fun x hx => ?_
    obtain ⟨l, hl, rfl⟩ := List.mem_map.mp hx
    exact decide_eq_true (all l hl)
  | true =>
    have nall : ¬ (col (sols es menu) i).all (fun x => decide (x = (col (sols es menu) i).headD (.inl 0))) = true := fun q => by
      have k := List.all_eq_true.mp q
      have at' : ∀ m : Key, m ∈ menu → m = (col (sols es menu) i).headD (.inl 0) := fun m hmm => by
        have q1 := k (((vars es).map fun v => free f (fun _ => m) (.inr v)).getD i (.inl 0)) (List.mem_map.mpr ⟨_, sol (fun _ => m) fun _ => hmm, rfl⟩)
        rw [solAt _ i s hi] at q1
        unfold free at q1
        rw [if_pos v] at q1
        exact of_decide_eq_true q1
      exact ne ((at' m1 h1).trans (at' m2 h2).symm)
    unfold dueAt
    rw [if_neg nall]
    -- the names that are always alike are those of the class
    have key : ∀ (j : Nat) (u : Str), (vars es)[j]? = some u → (col (sols es menu) j = col (sols es menu) i ↔ Al es (.inr u) (.inr s)) := fun j u hj => by
      rw [col_eq]
      constructor
      · intro al
        refine Classical.byContradiction fun nr => ?_
        have nf : f (.inr u) ≠ f (.inr s) := fun e => nr ((G.al _ _).mp e)
        cases vu : isVar (f (.inr u)) with
        | true =>
          have q := al _ (sol (fun t => if t = f (.inr s) then m1 else m2) fun t => by by_cases e : t = f (.inr s) <;> simp [e, h1, h2])
          rw [solAt _ j u hj, solAt _ i s hi] at q
          unfold free at q
          rw [if_pos vu, if_pos v] at q
          dsimp only at q
          rw [if_neg nf, if_pos rfl] at q
          exact ne q.symm
        | false =>
          have pick : ∃ m ∈ menu, m ≠ f (.inr u) := by
            by_cases e : m1 = f (.inr u)
            · exact ⟨m2, h2, fun z => ne (e.trans z.symm)⟩
            · exact ⟨m1, h1, e⟩
          obtain ⟨m, hmm, mn⟩ := pick
          have q := al _ (sol (fun _ => m) fun _ => hmm)
          rw [solAt _ j u hj, solAt _ i s hi] at q
          unfold free at q
          rw [if_neg (by rw [vu]; exact Bool.false_ne_true), if_pos v] at q
          exact mn q.symm
      · intro r l hl
        rw [← any l hl j u hj, ← any l hl i s hi]
        exact sat_al (mem_sols.mp hl).2 r
    have hil : i < (vars es).length := (List.getElem?_eq_some_iff.mp hi).1
    cases e : (List.range (vars es).length).find? fun j => decide (col (sols es menu) j = col (sols es menu) i) with
    | none =>
      have q := List.find?_eq_none.mp e i (List.mem_range.mpr hil)
      simp at q
    | some j =>
      obtain ⟨q1, q2⟩ := find_some_iff e
      have hj : j < (vars es).length := List.mem_range.mp q2
      have hju : (vars es)[j]? = some (vars es)[j] := List.getElem?_eq_getElem hj
      have r := (key j _ hju).mp (of_decide_eq_true q1)
      show Sum.inr ((vars es).getD j Str.empty) = f (.inr s)
      rw [List.getD_eq_getElem?_getD, hju]
      show Sum.inr (vars es)[j] = f (.inr s)
      have hjv := mem_vars.mp (List.mem_of_getElem? hju)
      refine (G.var_of hjv.2 r.symm (fun c hc rc => ?_) fun w hw rw' => ?_).symm
      · rw [G.val_of hc rc] at v
        rw [hc] at v
        cases v
      · obtain ⟨t, rfl⟩ := var_str hw
        have ht : t ∈ vars es := by
          rcases rw'.inTerms with z | ⟨_, z⟩
          · rw [← Sum.inr.inj z]; exact hs
          · exact mem_vars.mpr ⟨z, hw⟩
        obtain ⟨k, hk⟩ := List.mem_iff_getElem?.mp ht
        have ck := (key k t hk).mpr rw'.symm
        have hkl : k < (vars es).length := (List.getElem?_eq_some_iff.mp hk).1
        have jk : j ≤ k := by
          refine Nat.not_lt.mp fun lt => ?_
          have q3 := List.find?_eq_some_iff_append.mp e
          obtain ⟨_, as, bs, eq, na⟩ := q3
          have : k ∈ as := by
            have lj : as.length = j := by
              have z1 : (List.range (vars es).length)[as.length]? = some j := by rw [eq]; simp
              rw [List.getElem?_range] at z1
              · exact Option.some.inj z1
              · have z2 := (List.getElem?_eq_some_iff.mp z1).1
                simpa using z2
            have z1 : (List.range (vars es).length)[k]? = some k := List.getElem?_range hkl
            rw [eq, List.getElem?_append_left (by omega)] at z1
            exact List.mem_of_getElem? z1
          have q4 := na k this
          simp [ck] at q4
        show slt t (vars es)[j] = false
        by_cases ejk : j = k
        · subst ejk
          rw [hju] at hk
          rw [← Option.some.inj hk]
          exact slt_irrefl _
        · have pw := asc_vars (terms es)
          have q5 := List.pairwise_iff_getElem.mp pw j k hj hkl (by omega)
          have ek : (vars es)[k] = t := by
            rw [List.getElem?_eq_getElem hkl] at hk
            exact Option.some.inj hk
          rw [← ek]
          exact slt_asymm q5
/-- an assignment makes the equations true just if it gives each name what its term gets -/
theorem sat_iff {es : Eqs} {f : Key → Key} (G : Good es f) (a : Key → Key) (ha : ∀ c, isVar c = false → a c = c) : sat es a = true ↔ ∀ s ∈ vars es, a (f (.inr s)) = a (.inr s) := by
  constructor
  · intro h s _
    exact (sat_al h (G.self _)).symm
  · intro h
    have key : ∀ t ∈ terms es, a (f t) = a t := fun t ht => by
      cases v : isVar t with
      | false => rw [G.val t v]
      | true =>
        obtain ⟨s, rfl⟩ := var_str v
        exact h s (mem_vars.mpr ⟨ht, v⟩)
    refine List.all_eq_true.mpr fun e he => decide_eq_true ?_
    rw [← key _ (mem_terms.mpr ⟨e, he, .inl rfl⟩), ← key _ (mem_terms.mpr ⟨e, he, .inr rfl⟩), (G.al _ _).mpr (.eq he)]
end U6
set_option Elab.async false
set_option linter.all false
set_option maxRecDepth 100000
set_option maxHeartbeats 4000000
/-! The text by places, what the top has written, heaps. -/
namespace U6
open PySem PySem.Spec PyProof.Rows L2

def top (i : Nat) : Stmt := PySem.Challenge.pw_onlywith_k06_whole_unified_is_most_gener.main.body.getD i (.Pass ⟨0, 0, 0, 0⟩)
abbrev sInit : Stmt := inClass (top 2) 0
abbrev sFree : Stmt := top 4
abbrev sVars : Stmt := top 5
abbrev sFilled : Stmt := top 6
abbrev sKrow : Stmt := top 7
abbrev sLeader : Stmt := top 9
abbrev sOrder : Stmt := top 10
abbrev sUnified : Stmt := top 11
abbrev sPurse : Stmt := top 13
abbrev sDraw : Stmt := top 14
abbrev sPick : Stmt := top 15
abbrev sNames : Stmt := top 16
abbrev sStock : Stmt := top 17
abbrev sPairs : Stmt := top 18
abbrev sIsName : Stmt := top 19
abbrev sTerms : Stmt := top 20
abbrev sLots : Stmt := top 21
abbrev sIsTrue : Stmt := top 22
abbrev sDue : Stmt := top 23
abbrev sClasses : Stmt := top 24
abbrev sTold : Stmt := top 25
abbrev sSteady : Stmt := top 26
abbrev sIsFilled : Stmt := top 27
abbrev sLong : Stmt := top 28
abbrev sLaw : Stmt := top 29

/-- a def of the text, by its name -/
structure Df (K : PySem.W.Frag) (mg : Str → Option Value) (x : Str) (st : Stmt) (ps : List Str) (f : Addr) (fd : FuncData) : Prop where
  F : Fun K x x st f fd
  g : mg x = some (.ref f)
  b : Binds K fd ps []
theorem Df.k {K : PySem.W.Frag} {mg : Str → Option Value} {x : Str} {st : Stmt} {ps : List Str} {f : Addr} {fd : FuncData} (D : Df K mg x st ps f fd) : PySem.W.keepIn K (.ref f) = true := D.F.kp
/-- the names of built-ins that no name of the text hides -/
structure Bl (mg : Str → Option Value) : Prop where
  isi : mg "isinstance" = none
  str : mg "str" = none
  tup : mg "tuple" = none
  srt : mg "sorted" = none
  set : mg "set" = none
  dct : mg "dict" = none
  enm : mg "enumerate" = none
  len : mg "len" = none
  sum : mg "sum" = none
  int : mg "int" = none
  rng : mg "range" = none
  lst : mg "list" = none
  zip : mg "zip" = none
  rpr : mg "repr" = none

/-! ### values -/
theorem kV_inj {a b : Key} (h : kV a = kV b) : a = b := by
  cases a with
  | inl i =>
    cases b with
    | inl j => rw [V.int.inj h]
    | inr t => cases h
  | inr s =>
    cases b with
    | inl j => cases h
    | inr t => rw [V.str.inj h]
theorem kV_dec (a b : Key) : decide (kV a = kV b) = decide (a = b) := by
  by_cases e : a = b
  · subst e; simp
  · rw [decide_eq_false e, decide_eq_false fun z => e (kV_inj z)]
theorem kV_scal (a b : Key) : scal (kV a) (kV b) = true := by
  cases a <;> cases b <;> rfl
theorem kV_flat (a : Key) : flatV (kV a) = true := by
  cases a <;> rfl

/-! ### heaps -/
theorem same_upd {H : Hp} {p : Addr} {o : HO} (h : H p = none) : Same H (upd H p o) := fun b x e => by
  rw [upd_ne (ne_of_none e h)]
  exact e
/-- what did not stand at H may be laid or changed -/
theorem same_put {H H' : Hp} {x : Addr} {o : HO} (s : Same H H') (h : H x = none) : Same H (upd H' x o) := fun b u e => by
  rw [upd_ne (ne_of_none e h)]
  exact s b u e
theorem two_line : 2 ≤ sizeLine := by decide
/-- pairs of terms, each a tuple -/
def PairsAt (K : PySem.W.Frag) (H : Hp) (ps : List Addr) (es : Eqs) : Prop := Paired (fun (p : Addr) (e : Key × Key) => H p = some (.tup [kV e.1, kV e.2])) ps es
/-- a tuple of pairs of terms -/
def EqsAt (K : PySem.W.Frag) (H : Hp) (a : Addr) (es : Eqs) : Prop := ∃ ps : List Addr, H a = some (.tup (ps.map V.ref)) ∧ PairsAt K H ps es
/-- tuples stay -/
def Tups (H H' : Hp) : Prop := ∀ b xs, H b = some (.tup xs) → H' b = some (.tup xs)
theorem Tups.refl (H : Hp) : Tups H H := fun _ _ h => h
theorem Tups.trans {H H1 H2 : Hp} (a : Tups H H1) (b : Tups H1 H2) : Tups H H2 := fun c xs h => b c xs (a c xs h)
theorem sameTups {H H' : Hp} (h : Same H H') : Tups H H' := fun b xs e => h b _ e
theorem Tups.new {H : Hp} {p : Addr} {o : HO} (h : H p = none) : Tups H (upd H p o) := sameTups (same_upd h)
/-- a list, a dict changed -/
theorem Tups.put {H : Hp} {p : Addr} {u o : HO} (h : H p = some u) (hu : ∀ xs, u ≠ .tup xs) : Tups H (upd H p o) := fun b xs e => by
  rw [upd_ne (ne_of e h fun z => hu xs z.symm)]
  exact e
theorem paired_mono {α β : Type} {R R' : α → β → Prop} (h : ∀ a b, R a b → R' a b) : ∀ {l : List α} {m : List β}, Paired R l m → Paired R' l m
  | _, _, .nil => .nil
  | _, _, .cons r t => .cons (h _ _ r) (paired_mono h t)
theorem PairsAt.tups {K : PySem.W.Frag} {H H' : Hp} {ps : List Addr} {es : Eqs} (h : PairsAt K H ps es) (t : Tups H H') : PairsAt K H' ps es := paired_mono (fun _ _ e => t _ _ e) h
theorem EqsAt.tups {K : PySem.W.Frag} {H H' : Hp} {a : Addr} {es : Eqs} (h : EqsAt K H a es) (t : Tups H H') : EqsAt K H' a es :=
  let ⟨ps, h1, h2⟩ := h; ⟨ps, t _ _ h1, h2.tups t⟩
theorem paired_at {α β : Type} {R : α → β → Prop} : ∀ {l : List α} {m : List β} {i : Nat} {x : α}, Paired R l m → l[i]? = some x → ∃ y, m[i]? = some y ∧ R x y
  | _, _, _, _, .nil, h => by simp at h
  | _, _, 0, x, .cons r t, h => by
    have e := Option.some.inj h
    subst e
    exact ⟨_, rfl, r⟩
  | _, _, i + 1, x, .cons r t, h => paired_at (i := i) t h
theorem paired_at' {α β : Type} {R : α → β → Prop} : ∀ {l : List α} {m : List β} {i : Nat} {y : β}, Paired R l m → m[i]? = some y → ∃ x, l[i]? = some x ∧ R x y
  | _, _, _, _, .nil, h => by simp at h
  | _, _, 0, x, .cons r t, h => by
    have e := Option.some.inj h
    subst e
    exact ⟨_, rfl, r⟩
  | _, _, i + 1, x, .cons r t, h => paired_at' (i := i) t h
theorem paired_snoc {α β : Type} {R : α → β → Prop} {x : α} {y : β} (r : R x y) : ∀ {l : List α} {m : List β}, Paired R l m → Paired R (l ++ [x]) (m ++ [y])
  | _, _, .nil => .cons r .nil
  | _, _, .cons q t => .cons q (paired_snoc r t)
theorem paired_app {α β : Type} {R : α → β → Prop} : ∀ {l l2 : List α} {m m2 : List β}, Paired R l m → Paired R l2 m2 → Paired R (l ++ l2) (m ++ m2)
  | _, _, _, _, .nil, h => h
  | _, _, _, _, .cons q t, h => .cons q (paired_app t h)
end U6
set_option Elab.async false
set_option linter.all false
set_option maxRecDepth 100000
set_option maxHeartbeats 4000000
/-! is_free, leaders_in_order, _law_is_name. -/
namespace U6
open PySem PySem.Spec PyProof.Rows L2
section
variable {P : Program} {w : World} {K : PySem.W.Frag} {mg : Str → Option Value} {base : Heap}

/-- the sign ahead -/
theorem first_sign (z : Str) : (cutS z none (some 1) = ("?" : Str)) ↔ isVar (.inr z) = true := by
  obtain ⟨⟨l⟩⟩ := z
  have hq : ("?" : Str) = ⟨#[63]⟩ := by decide +kernel
  rw [hq]
  unfold cutS isVar
  cases l with
  | nil =>
    show ((⟨(List.take _ (List.drop _ [])).toArray⟩ : Str) = ⟨#[63]⟩) ↔ _
    simp
  | cons c r =>
    have e1 : HT.sIx (Str.length ⟨(c :: r).toArray⟩) 0 none = 0 := HT.sIx_none _ _
    have e2 : HT.sIx (Str.length ⟨(c :: r).toArray⟩) (Str.length ⟨(c :: r).toArray⟩) (some 1) = 1 := by
      rw [show HT.sIx (Str.length ⟨(c :: r).toArray⟩) (Str.length ⟨(c :: r).toArray⟩) (some 1) = min 1 (Str.length ⟨(c :: r).toArray⟩) from HT.sIx_nat _ _ 1]
      show min 1 ((c :: r).toArray.size) = 1
      rw [List.size_toArray, List.length_cons]
      omega
    rw [e1, e2]
    show ((⟨(List.take (1 - 0) (List.drop 0 (c :: r))).toArray⟩ : Str) = ⟨#[63]⟩) ↔ _
    simp

/-- is_free(term) -/
def spFree : Sp := fun vs H Q _ => ∃ t : Key, vs = [kV t] ∧ (∀ z, t = .inr z → z.length ≤ 1000) ∧ Q (.bl (isVar t)) H
theorem scF : FnScope ["term"] ["term"] (defScope sFree) := ⟨rfl, rfl, rfl, by decide +kernel, rfl, by decide +kernel, by decide +kernel⟩
theorem ok_free {f : Addr} {fd : FuncData} (D : Df K mg "is_free" sFree ["term"] f fd) (B : Bl mg) : FnOk P w K mg base CX0 1 f fd ["term"] spFree := by
  refine D.F.ok scF (fun vs H Q E h => ?_) (fun cdv A outer s H vs Q E hr h => ?_)
  · obtain ⟨t, rfl, _⟩ := h
    rfl
  · obtain ⟨t, rfl, hz, q⟩ := h
    refine ⟨_, pss_one (ps_ret (pe_and (pe_callB call_isi (by rfl) B.isi (by decide +kernel) (pa_cons (pv 0) (pa_cons (pe_bltn (v := .ty "str") (by rfl) B.str (by decide +kernel) rfl) pa_nil)))
      (pe_one (pe_cmpR op_eq (pe_slice sl_str (pv 0) po_none (po_some pe_int)) pe_str (nomark _))))), ?_⟩
    cases t with
    | inl i =>
      refine ⟨_, rfl, _, _, _, _, _, rfl, .ty "str", .base (.int i), kit_ty (r := false) (by decide +kernel), _, rfl, ?_⟩
      refine iteF ?_
      exact q
    | inr z =>
      refine ⟨_, rfl, _, _, _, _, _, rfl, .ty "str", .base (.str z), kit_ty (r := true) (by decide +kernel), _, rfl, ?_⟩
      refine iteT ?_
      refine ⟨_, rfl, _, rfl, z, rfl, Nat.le_of_lt (small1000 (hz z rfl)), rfl, ?_⟩
      have e : decide (V.str (cutS z none (some 1)) = V.str "?") = isVar (.inr z) := by
        rw [Bool.eq_iff_iff, decide_eq_true_iff, ← first_sign]
        exact ⟨fun h => V.str.inj h, fun h => by rw [h]⟩
      show Q (V.bl (decide (V.str (cutS z none (some 1)) = V.str "?"))) H
      rw [e]
      exact q
end
end U6
set_option Elab.async false
set_option linter.all false
set_option maxRecDepth 100000
set_option maxHeartbeats 4000000
/-! leaders_in_order, leader_of, _law_is_name. -/
namespace U6
open PySem PySem.Spec PyProof.Rows L2
/-- a text that is not long -/
def Sh (t : Key) : Prop := ∀ z, t = .inr z → z.length ≤ 1000
/-! ### the table -/
structure Tab (kvs : List (Key × V)) (f : Key → Key) (d : Key → Nat) : Prop where
  out : ∀ k, valV kvs k = none → f k = k
  at_ : ∀ k v, valV kvs k = some v → ∃ k', v = kV k' ∧ f k' = f k ∧ d k' < d k
theorem Tab.low {kvs : List (Key × V)} {f : Key → Key} {d : Key → Nat} (T : Tab kvs f d) : ∀ (n : Nat) (k : Key), d k ≤ n → valV kvs (f k) = none ∧ (valV kvs k ≠ none → d (f k) < d k) := by
  intro n
  induction n with
  | zero =>
    intro k hk
    cases e : valV kvs k with
    | none => rw [T.out k e]; exact ⟨e, fun h => absurd rfl h⟩
    | some v =>
      obtain ⟨k', _, _, lt⟩ := T.at_ k v e
      omega
  | succ n ih =>
    intro k hk
    cases e : valV kvs k with
    | none => rw [T.out k e]; exact ⟨e, fun h => absurd rfl h⟩
    | some v =>
      obtain ⟨k', _, ef, lt⟩ := T.at_ k v e
      obtain ⟨h1, h2⟩ := ih k' (by omega)
      rw [← ef]
      refine ⟨h1, fun _ => ?_⟩
      cases e' : valV kvs k' with
      | none => rw [T.out k' e']; exact lt
      | some v' =>
        have q := h2 (by rw [e']; exact fun z => nomatch z)
        omega
theorem Tab.root {kvs : List (Key × V)} {f : Key → Key} {d : Key → Nat} (T : Tab kvs f d) (k : Key) : valV kvs (f k) = none := (T.low (d k) k (Nat.le_refl _)).1
theorem Tab.less {kvs : List (Key × V)} {f : Key → Key} {d : Key → Nat} (T : Tab kvs f d) {k : Key} {v : V} (h : valV kvs k = some v) : d (f k) < d k := (T.low (d k) k (Nat.le_refl _)).2 (by rw [h]; exact fun z => nomatch z)
theorem Tab.idem {kvs : List (Key × V)} {f : Key → Key} {d : Key → Nat} (T : Tab kvs f d) (k : Key) : f (f k) = f k := T.out _ (T.root k)
theorem Tab.short {kvs : List (Key × V)} {f : Key → Key} {d : Key → Nat} (T : Tab kvs f d) {k : Key} {v : V} (h : valV kvs k = some v) : Tab (putK kvs k (kV (f k))) f d where
  out := fun j e => by
    rw [valV_put] at e
    by_cases q : j = k
    · rw [if_pos q] at e; cases e
    · rw [if_neg q] at e; exact T.out j e
  at_ := fun j u e => by
    rw [valV_put] at e
    by_cases q : j = k
    · rw [if_pos q] at e
      cases e
      rw [q]
      exact ⟨f k, rfl, T.idem k, T.less h⟩
    · rw [if_neg q] at e; exact T.at_ j u e
theorem putK_len {kvs : List (Key × V)} {k : Key} {v u : V} (h : valV kvs k = some v) : (putK kvs k u).length = kvs.length := by
  have a : (kvs.any fun kv => decide (kv.1 = k)) = true := by
    cases e : kvs.any fun kv => decide (kv.1 = k) with
    | true => rfl
    | false =>
      have q : kvs.find? (fun kv => decide (kv.1 = k)) = none := List.find?_eq_none.mpr fun x hx => by
        have z := List.any_eq_false.mp e x hx
        exact z
      unfold valV at h
      rw [q] at h
      cases h
  unfold putK
  rw [if_pos a, List.length_map]
/-- two roots are joined -/
theorem Tab.join {kvs : List (Key × V)} {f : Key → Key} {d : Key → Nat} (T : Tab kvs f d) {p q : Key} (hp : f p = p) (hq : f q = q) (ne : p ≠ q) :
    Tab (putK kvs q (kV p)) (U6.join f p q) (fun k => if f k = q then d k + d p + 1 else d k) where
  out := fun j e => by
    rw [valV_put] at e
    by_cases z : j = q
    · rw [if_pos z] at e; cases e
    · rw [if_neg z] at e
      have fj := T.out j e
      unfold U6.join
      rw [if_neg (by rw [fj]; exact z), fj]
  at_ := fun j u e => by
    rw [valV_put] at e
    by_cases z : j = q
    · rw [if_pos z] at e
      cases e
      subst z
      refine ⟨p, rfl, ?_, ?_⟩
      · unfold U6.join
        rw [hp, if_neg ne, hq, if_pos rfl]
      · show (if f p = j then _ else _) < (if f j = j then _ else _)
        rw [hp, if_neg ne, hq, if_pos rfl]
        omega
    · rw [if_neg z] at e
      obtain ⟨k', e1, e2, lt⟩ := T.at_ j u e
      refine ⟨k', e1, ?_, ?_⟩
      · unfold U6.join
        rw [e2]
      · show (if f k' = q then _ else _) < (if f j = q then _ else _)
        rw [e2]
        by_cases y : f j = q
        · rw [if_pos y, if_pos y]; omega
        · rw [if_neg y, if_neg y]; exact lt
section
variable {P : Program} {w : World} {K : PySem.W.Frag} {mg : Str → Option Value} {base : Heap}
/-! ### _law_is_name -/
theorem scIN : FnScope ["_law_term"] ["_law_term"] (defScope sIsName) := ⟨rfl, rfl, rfl, by decide +kernel, rfl, by decide +kernel, by decide +kernel⟩
theorem ok_isname {f : Addr} {fd : FuncData} (D : Df K mg "_law_is_name" sIsName ["_law_term"] f fd) (B : Bl mg) : FnOk P w K mg base CX0 1 f fd ["_law_term"] spFree := by
  refine D.F.ok scIN (fun vs H Q E h => ?_) (fun cdv A outer s H vs Q E hr h => ?_)
  · obtain ⟨t, rfl, _⟩ := h
    rfl
  · obtain ⟨t, rfl, hz, q⟩ := h
    refine ⟨_, pss_one (ps_ret (pe_and (pe_callB call_isi (by rfl) B.isi (by decide +kernel) (pa_cons (pv 0) (pa_cons (pe_bltn (v := .ty "str") (by rfl) B.str (by decide +kernel) rfl) pa_nil)))
      (pe_one (pe_cmpR op_eq (pe_slice sl_str (pv 0) po_none (po_some pe_int)) pe_str (nomark _))))), ?_⟩
    cases t with
    | inl i =>
      refine ⟨_, rfl, _, _, _, _, _, rfl, .ty "str", .base (.int i), kit_ty (r := false) (by decide +kernel), _, rfl, ?_⟩
      refine iteF ?_
      exact q
    | inr z =>
      refine ⟨_, rfl, _, _, _, _, _, rfl, .ty "str", .base (.str z), kit_ty (r := true) (by decide +kernel), _, rfl, ?_⟩
      refine iteT ?_
      refine ⟨_, rfl, _, rfl, z, rfl, Nat.le_of_lt (small1000 (hz z rfl)), rfl, ?_⟩
      have e : decide (V.str (cutS z none (some 1)) = V.str "?") = isVar (.inr z) := by
        rw [Bool.eq_iff_iff, decide_eq_true_iff, ← first_sign]
        exact ⟨fun h => V.str.inj h, fun h => by rw [h]⟩
      show Q (V.bl (decide (V.str (cutS z none (some 1)) = V.str "?"))) H
      rw [e]
      exact q
/-! ### leaders_in_order(one, other) -/
def spOrder : Sp := fun vs H Q _ => ∃ a b : Key, vs = [kV a, kV b] ∧ Sh a ∧ Sh b ∧ ∀ p, H p = none → Q (.ref p) (upd H p (.tup [kV (ord2 a b).1, kV (ord2 a b).2]))
theorem scO : FnScope ["one", "other"] ["one", "other"] (defScope sOrder) := ⟨rfl, rfl, rfl, by decide +kernel, rfl, by decide +kernel, by decide +kernel⟩
theorem ok_order {f fF : Addr} {fd fdF : FuncData} (D : Df K mg "leaders_in_order" sOrder ["one", "other"] f fd) (B : Bl mg) (DF : Df K mg "is_free" sFree ["term"] fF fdF) : FnOk P w K mg base CX0 2 f fd ["one", "other"] spOrder := by
  have GF : FnOk P w K mg base CX0 1 fF fdF ["term"] spFree := ok_free DF B
  refine D.F.ok scO (fun vs H Q E h => ?_) (fun cdv A outer s H vs Q E hr h => ?_)
  · obtain ⟨a, b, rfl, _⟩ := h
    rfl
  · obtain ⟨a, b, rfl, ha, hb, q⟩ := h
    refine ⟨_, pss_cons (ps_if (PW.pt (pw_and (pt_val (pe_call GF hr rfl DF.g DF.k DF.b .nil pass0 (pa_cons (pv 0) pa_nil)))
        (pw_and1 (PW.pt (pw_or (pt_not (pt_val (pe_call GF hr rfl DF.g DF.k DF.b .nil pass0 (pa_cons (pv 1) pa_nil)))) (pw_or1 (pt_cmpR op_lt_str (pv 1) (pv 0) (nomark _))))))))
        (pss_one (ps_ret (pe_tup (pa_cons (pv 1) (pa_cons (pv 0) pa_nil))))) pss_nil)
      (pss_one (ps_ret (pe_tup (pa_cons (pv 0) (pa_cons (pv 1) pa_nil))))), ?_⟩
    have yes : (isVar a && (!isVar b || klt b a)) = true → (ord2 a b) = (b, a) := fun h => by unfold ord2; rw [h]; rfl
    have no : (isVar a && (!isVar b || klt b a)) = false → (ord2 a b) = (a, b) := fun h => by unfold ord2; rw [h]; rfl
    have q1 : (isVar a && (!isVar b || klt b a)) = true → ∀ p, H p = none → Q (.ref p) (upd H p (.tup [kV b, kV a])) := fun h p hp => by
      have z := q p hp
      rw [yes h] at z
      exact z
    have q2 : (isVar a && (!isVar b || klt b a)) = false → ∀ p, H p = none → Q (.ref p) (upd H p (.tup [kV a, kV b])) := fun h p hp => by
      have z := q p hp
      rw [no h] at z
      exact z
    have two : 2 ≤ sizeLine := by decide
    refine ⟨_, rfl, a, rfl, ha, _, rfl, ?_⟩
    cases va : isVar a with
    | false =>
      rw [va] at q2
      refine iteF (iteF ?_)
      exact ⟨_, rfl, _, rfl, two, q2 rfl⟩
    | true =>
      rw [va] at q1 q2
      refine iteT ?_
      refine ⟨_, rfl, b, rfl, hb, _, rfl, ?_⟩
      cases vb : isVar b with
      | false =>
        rw [vb] at q1
        refine iteT (iteT ?_)
        exact ⟨_, rfl, _, rfl, two, q1 rfl⟩
      | true =>
        rw [vb] at q1 q2
        obtain ⟨x, rfl⟩ := var_str va
        obtain ⟨y, rfl⟩ := var_str vb
        refine iteF ?_
        refine ⟨_, rfl, _, rfl, y, x, rfl, rfl, _, rfl, ?_⟩
        cases e : slt y x with
        | true =>
          have e' : decide (y.cps.toList < x.cps.toList) = true := e
          rw [e']
          refine iteT ?_
          exact ⟨_, rfl, _, rfl, two, q1 (by show (true && (!true || slt y x)) = true; rw [e]; rfl)⟩
        | false =>
          have e' : decide (y.cps.toList < x.cps.toList) = false := e
          rw [e']
          refine iteF ?_
          exact ⟨_, rfl, _, rfl, two, q2 (by show (true && (!true || slt y x)) = false; rw [e]; rfl)⟩
/-! ### leader_of(table, term) -/
def spLeader : Sp := fun vs H Q _ => ∃ (t : Addr) (x : Key) (kvs : List (Key × V)) (f : Key → Key) (d : Key → Nat), vs = [.ref t, kV x] ∧ H t = some (.dK kvs) ∧ Tab kvs f d ∧ kvs.length ≤ 10000 ∧
  ∀ kvs', Tab kvs' f d → kvs'.length = kvs.length → Q (kV (f x)) (upd H t (.dK kvs'))
theorem scL : FnScope ["table", "term", "leader", "onward"] ["table", "term"] (defScope sLeader) := ⟨rfl, rfl, rfl, by decide +kernel, rfl, by decide +kernel, by decide +kernel⟩
theorem ok_leader {f : Addr} {fd : FuncData} (D : Df K mg "leader_of" sLeader ["table", "term"] f fd) : FnOk P w K mg base CX0 1 f fd ["table", "term"] spLeader := by
  refine D.F.ok scL (fun vs H Q E h => ?_) (fun cdv A outer s H vs Q E hr h => ?_)
  · obtain ⟨t, x, kvs, f, d, rfl, _⟩ := h
    rfl
  · obtain ⟨t, x, kvs, f, d, rfl, ht, T, hl, q⟩ := h
    have hu := hu_of hr
    refine ⟨_, pss_cons (ps_set (i := 2) scL.nd rfl (Or.inl rfl) (pv 1))
      (pss_cons (ps_while PassesOwn.never (pt_cmp (pc_din hu (pv 2) (pv 0))) (pss_one (ps_set (i := 2) scL.nd rfl (Or.inl rfl) (pe_dget hu (pv 0) (pv 2) (fun _ _ => rfl)))))
      (pss_cons (ps_while PassesOwn.never (pt_cmp (pc_din hu (pv 1) (pv 0)))
        (pss_cons (ps_set (i := 3) scL.nd rfl (Or.inl rfl) (pe_dget hu (pv 0) (pv 1) (fun _ _ => rfl)))
        (pss_cons (ps_dput hu (pv 0) (pv 1) (pv 2) rfl) (pss_one (ps_set (i := 1) scL.nd rfl (Or.inl rfl) (pv 3))))))
      (pss_one (ps_ret (pv 2))))), ?_⟩
    refine ⟨_, rfl, ?_⟩
    refine ⟨fun m σ H' => ∃ l, σ = [some (.ref t), some (kV x), some (kV l), none] ∧ H' = H ∧ f l = f x ∧ m = d l, ⟨d x, x, rfl, rfl, rfl, rfl⟩, ?_⟩
    rintro m σ H0 ⟨l, rfl, rfl, el, rfl⟩
    refine ⟨_, rfl, _, rfl, t, _, rfl, DGet.k (k := l) ht, ?_⟩
    cases e : valV kvs l with
    | some v =>
      refine ⟨true, rfl, iteT ?_⟩
      obtain ⟨k', rfl, ek, lt⟩ := T.at_ l v e
      refine ⟨fun σ' H' => σ' = [some (.ref t), some (kV x), some (kV k'), none] ∧ H' = H0, ?_, ?_⟩
      · rintro σ' H' ⟨rfl, rfl⟩
        exact ⟨d k', lt, k', rfl, rfl, ek.trans el, rfl⟩
      · refine ⟨_, rfl, _, rfl, t, kV k', rfl, ?_, rfl, rfl⟩
        rw [← e]
        exact DGet.k (k := l) ht
    | none =>
      refine ⟨false, rfl, iteF ?_⟩
      have ef : f x = l := by rw [← el]; exact T.out l e
      refine ⟨fun m σ H' => ∃ (y : Key) (kvs' : List (Key × V)) (z : Option V), σ = [some (.ref t), some (kV y), some (kV l), z] ∧ H' = upd H0 t (.dK kvs') ∧ Tab kvs' f d ∧ kvs'.length = kvs.length ∧ f y = l ∧ m = d y,
        ⟨d x, x, kvs, none, rfl, ?_, T, rfl, ef, rfl⟩, ?_⟩
      · funext b
        by_cases hb : b = t
        · rw [hb, upd_same, ht]
        · rw [upd_ne hb]
      · rintro m σ H' ⟨y, kvs', z, rfl, rfl, T', el', ey, rfl⟩
        refine ⟨_, rfl, _, rfl, t, _, rfl, DGet.k (k := y) upd_same, ?_⟩
        cases e2 : valV kvs' y with
        | some v =>
          refine ⟨true, rfl, iteT ?_⟩
          obtain ⟨k', rfl, ek, lt⟩ := T'.at_ y v e2
          refine ⟨fun σ' H' => σ' = [some (.ref t), some (kV k'), some (kV l), some (kV k')] ∧ H' = upd H0 t (.dK (putK kvs' y (kV l))), ?_, ?_⟩
          · rintro σ' H' ⟨rfl, rfl⟩
            refine ⟨d k', lt, k', _, _, rfl, rfl, ?_, (putK_len e2).trans el', ek.trans ey, rfl⟩
            have q := T'.short e2
            rw [ey] at q
            exact q
          · refine ⟨_, rfl, _, rfl, t, kV k', rfl, ?_, ?_⟩
            · rw [← e2]
              exact DGet.k (k := y) upd_same
            · refine ⟨_, rfl, _, rfl, _, rfl, t, _, rfl, DPut.k (k := y) upd_same (by rw [el']; exact Nat.lt_of_le_of_lt hl (by decide)), ?_⟩
              refine ⟨_, rfl, rfl, ?_⟩
              rw [upd_upd]
        | none =>
          refine ⟨false, rfl, iteF ?_⟩
          refine ⟨_, rfl, ?_⟩
          have z := q kvs' T' el'
          rw [ef] at z
          exact z
end
end U6
set_option Elab.async false
set_option linter.all false
set_option maxRecDepth 100000
set_option maxHeartbeats 4000000
/-! Rules that the layer lacks: enumerate over a tuple; C.__init__(self, ..) of an own class without one. -/
namespace U6R
open PySem PySem.Spec PyProof.Rows L2
open AutoSeq1 (wpAny_loadPart')

/-! ### enumerate(tuple) -/
theorem enumNewT (l : Addr) (items : Array Value) (n : Nat) (dct : Option Addr) (sl : Array (Option Value)) :
    Meets (Builtin.«enumerate.__new__» ⟨[.type "enumerate", .ref l], []⟩) (fun _ R s => s.heap.get? l = some { cls := .type "tuple", dict := dct, data := .seq items n, slots := sl } ∧
      R (.ok (.ret (.ref (s.heap.push { cls := .type "tuple_iterator", data := .fields #[.ref l, .int 0 0] }).objs.size)))
        { s with heap := (s.heap.push { cls := .type "tuple_iterator", data := .fields #[.ref l, .int 0 0] }).push { cls := .type "enumerate", data := .fields #[.none, .bool false, .ref s.heap.objs.size, rawInt 0, .none, .none] } }) :=
  .of_wp fun prog w A R s h => by
    obtain ⟨hp, g, d, tk, os⟩ := s
    obtain ⟨hl, h⟩ := h
    have hsub := sub_enumerate
    have hT : Heap.IsTuple (Shared.heap ⟨hp, g, d, tk, os⟩) l items := ⟨_, hl, rfl, n, rfl⟩
    wp_walk using wpAny_loadPart' hl
    refine wpAny_stack_any fun st => wpAny_pure ?_
    split
    · rename_i c _ _ _ _ _
      cases (c == Value.type "enumerate") <;> (wp_walk using wpAny_loadPart' hl, wpAny_pyIter_tuple hT; exact ⟨_, rfl, h⟩)
    · wp_walk using wpAny_loadPart' hl, wpAny_pyIter_tuple hT
      exact ⟨_, rfl, h⟩
section
variable {prog : Program} {w : World} {A : Around} {E : Value → Shared → Prop} {s : Shared}
theorem callEnumT {l : Addr} {items : Array Value} {Q : Value → Shared → Prop} (hL : s.heap.IsTuple l items)
    (h : ∀ h', IsEnum h' (s.heap.objs.size + 1) s.heap.objs.size 0 .none → h'.IsTupleIter s.heap.objs.size l 0 →
      (∀ b o, s.heap.get? b = some o → h'.get? b = some o) → Q (.ref (s.heap.objs.size + 1)) { s with heap := h' }) :
    wpAny (model prog w) A (call (.type "enumerate") [.ref l]) Q E s := by
  obtain ⟨⟨c, dct, dt, sl⟩, hl, hc, n, hd⟩ := hL
  dsimp only at hc hd
  subst hc hd
  refine callType_new F.called_enumerate (by decide) (F.typeCall_enumerate_1 _) (F.newCall_enumerate_1 _) (fun obj => F.args_object_init_2 obj _) F.entry_enumerate_new (enumNewT l items n dct sl) ⟨hl, ?_⟩
  have hz : (s.heap.push { cls := .type "tuple_iterator", data := .fields #[.ref l, .int 0 0] }).objs.size = s.heap.objs.size + 1 := Heap.size_push ..
  show _ ∧ _
  rw [hz]
  have he : IsEnum ((s.heap.push { cls := .type "tuple_iterator", data := .fields #[.ref l, .int 0 0] }).push
      { cls := .type "enumerate", data := .fields #[.none, .bool false, .ref s.heap.objs.size, rawInt 0, .none, .none] }) (s.heap.objs.size + 1) s.heap.objs.size 0 .none := by
    rw [← hz]
    exact Heap.get?_push_size _ rfl
  exact ⟨⟨_, he, rfl⟩, h _ he ⟨_, Heap.get?_push_of_some _ (Heap.get?_push_size _ rfl), rfl, rfl⟩ fun b o x => Heap.get?_push_of_some _ (Heap.get?_push_of_some _ x)⟩
end
/-- the tuple at a, its items with their places, in new pairs -/
def IteT (K : PySem.W.Frag) (a : Addr) : It :=
  ⟨fun i H => ∃ (xs : List V) (x : V), SqT K H a xs ∧ xs[i]? = some x,
    fun i H v H' => ∃ T x, v = .ref T ∧ H T = none ∧ H' = upd H T (.tup [.int (i : Nat), x]) ∧ ∀ xs, SqT K H a xs → xs[i]? = some x,
    fun i H => ∃ xs : List V, SqT K H a xs ∧ xs.length = i⟩
theorem enum_ne {h : Heap} {e it a : Addr} {c : Int} {old : Value} {items : Array Value} (he : IsEnum h e it c old) (p : h.IsTuple a items) : e ≠ a := fun z => by
  obtain ⟨o, ho, hc, _⟩ := p
  have q : h.get? e = some _ := he
  rw [z, ho] at q
  have q2 := Option.some.inj q
  rw [q2] at hc
  exact absurd (Value.type.inj hc) (by decide)
theorem turn_enumT {P : Program} {w : World} {K : PySem.W.Frag} {elts : List Expr} {kk : Nat} {tpos : Pos} (a e it : Addr) :
    Turn P w K (.Tuple elts kk tpos) (IteT K a) [e, it] e (fun i h => (∃ old, IsEnum h e it ((i : Nat) : Int) old) ∧ h.IsTupleIter it a i ∧ e ≠ it) where
  mem := by simp
  obj := fun i h st b hb => by
    obtain ⟨⟨old, he⟩, ⟨o, ho, hc, hd⟩, _⟩ := st
    rcases List.mem_cons.mp hb with z | z
    · rw [z]; exact ⟨_, he, fun v q => nomatch q⟩
    · rw [List.mem_singleton.mp z]; exact ⟨o, ho, fun v q => by rw [hd] at q; cases q⟩
  keep := fun i h h' st k => by
    obtain ⟨⟨old, he⟩, hi, hne⟩ := st
    exact ⟨⟨old, k e (by simp) _ he⟩, hi.at fun o q => k it (by simp) o q, hne⟩
  item := by
    intro X hP hw hK hc i pins s σ H E I hf st hg
    subst hP hw hK
    obtain ⟨⟨old, he⟩, hit, hne⟩ := st
    obtain ⟨xs, x, hq, hx⟩ := hg
    obtain ⟨its, rv, p, hz⟩ := I.tuple hq
    have pt : s.heap.IsTuple a its.toArray := p
    obtain ⟨u, hu, ru⟩ := rv.get hx
    have hel : e < s.heap.objs.size := Heap.lt_size he
    have hil : it < s.heap.objs.size := by obtain ⟨_, q, _⟩ := hit; exact Heap.lt_size q
    have hlt : i < its.toArray.size := by rw [List.size_toArray]; exact (List.getElem?_eq_some_iff.mp hu).1
    have hia : a ≠ it := fun z => by
      obtain ⟨o, ho, hc1, _⟩ := pt
      obtain ⟨o2, ho2, hc2, _⟩ := hit
      rw [z, ho2] at ho
      cases ho
      rw [hc1] at hc2
      exact absurd (Value.type.inj hc2) (by decide)
    have hea := enum_ne he pt
    refine wpAny_pyNext_enum_itemD (Draws.tuple (A := X.A.in1) (I.ok.hd hc) it a hia its.toArray) he ⟨hit, pt⟩ hlt hne (by simp [hne, hea]) fun y h' tk hy ho hst hT hsz hk => ?_
    have ey : y = u := by
      have e1 : its.toArray[i]? = some u := by simpa using hu
      rw [e1] at hy
      exact (Option.some.inj hy).symm
    subst ey
    refine ⟨_, rfl, wpAny_letOwnedTupleGo_enum (s := { s with heap := h', toks := tk + 1 }) ho fun h'' he' sb => ?_⟩
    have hT2 : h''.get? s.heap.objs.size = some { cls := .type "tuple", data := .seq #[.int i tk, y] } := (sb.2 _ (Nat.ne_of_gt hel)).trans hT
    have new : ObjOk X.prog X.w (upd H s.heap.objs.size (.tup [.int (i : Nat), x])) h'' s.heap.objs.size (.tup [.int (i : Nat), x]) :=
      ⟨by show 2 ≤ sizeLine; decide, [.int i tk, y], .cons ⟨_, rfl⟩ (.cons ru .nil), ⟨_, hT2, rfl, _, rfl⟩⟩
    have kp : ∀ b ob, b ∉ [e, it] → s.heap.get? b = some ob → h''.get? b = some ob := fun b ob hb q => (sb.2 b fun z => hb (by simp [z])).trans (hk b ob (fun z => hb (by simp [z])) (fun z => hb (by simp [z])) q)
    have I1 : Inv X pins σ (upd H s.heap.objs.size (.tup [.int (i : Nat), x])) { s with heap := h'', toks := tk + 1 } := I.turnedNew (ch := [e, it]) kp hf (Nat.le_refl _) new
    refine ⟨.ref s.heap.objs.size, _, I1, rfl, ⟨_, x, rfl, I.hok.fresh (Nat.le_refl _), rfl, fun ys hy => by rw [I.tuple_inj hy hq]; exact hx⟩, ⟨⟨y, ?_⟩, hst.1.at fun o q => (sb.2 it (Ne.symm hne)).trans q, hne⟩, fun b hb => ?_⟩
    · rw [show ((i + 1 : Nat) : Int) = (i : Int) + 1 by omega]
      exact he'
    · have hb' : b < s.heap.objs.size := by
        rcases List.mem_cons.mp hb with z | z
        · rw [z]; exact hel
        · rw [List.mem_singleton.mp z]; exact hil
      rw [upd_ne (Nat.ne_of_lt hb')]
      exact (hf b hb).1
  done := by
    intro X hP hw hK hc i pins s σ H E I hf st hg
    subst hP hw hK
    obtain ⟨⟨old, he⟩, hit, hne⟩ := st
    obtain ⟨xs, hq, hx⟩ := hg
    obtain ⟨its, rv, p, hz⟩ := I.tuple hq
    have pt : s.heap.IsTuple a its.toArray := p
    obtain ⟨f0, f1, f2, f3, f4, f5⟩ := hf it (by simp)
    have hl : its.toArray.size = i := by rw [List.size_toArray, ← rv.length]; exact hx
    have hia : a ≠ it := fun z => by
      obtain ⟨o, ho, hc1, _⟩ := pt
      obtain ⟨o2, ho2, hc2, _⟩ := hit
      rw [z, ho2] at ho
      cases ho
      rw [hc1] at hc2
      exact absurd (Value.type.inj hc2) (by decide)
    have hst : s.heap.IsTupleIter it a its.toArray.size ∧ s.heap.IsTuple a its.toArray := ⟨by rw [hl]; exact hit, pt⟩
    exact wpAny_pyNext_enum_endD (Draws.tuple (A := X.A.in1) (I.ok.hd hc) it a hia its.toArray) he hst fun h' eb => ⟨rfl, I.turned (t' := s.toks) (fun b o hb q => eb b o hb q) f0 f1 f3 f4 f5⟩
  self := fun A i s Q E st h => by
    obtain ⟨⟨_, he⟩, _⟩ := st
    exact wpAny_pyIter_enum he h
def iEnumT (K : PySem.W.Frag) (ta : TA) : TI := fun σ H R => ta σ H fun vs H1 => ∃ (a : Addr) (xs : List V), vs = [.ref a] ∧ SqT K H1 a xs ∧ R (IteT K a) H1
theorem pi_enumT {X : Cx} {e : Expr} {ta : TA} {p pos tpos : Pos} {elts : List Expr} {kk : Nat} (hg : Gl X "enumerate") (hm : X.mg "enumerate" = none) (ha : PA X [e] ta) (hs : starEach [e] X.env = [(false, eval e X.env)] := by rfl) :
    PI X (.Tuple elts kk tpos) (.Call (.Name "enumerate" p) [e] [] pos) (iEnumT X.K ta) := by
  refine ⟨fun pins s σ H R I h => ?_⟩
  refine Call_ (ld_blt I hg hm boot_enumerate (PyProof.Rows.callWith_type1 (thn (ha.run pos pins s σ H _ I h) fun us s1 ⟨vs, H1, I1, r1, q1⟩ => ?_) hs rfl))
  obtain ⟨a, xs, ex, hq, q⟩ := q1
  subst ex
  cases r1 with
  | cons r rr =>
    cases rr
    cases r
    obtain ⟨its, rv, p', hz⟩ := I1.tuple hq
    refine callEnumT (show s1.heap.IsTuple a its.toArray from p') fun h' he hit hk => wpAny_pyIter_enum he ?_
    have I2 : Inv X pins σ H1 { s1 with heap := h' } := I1.kept (t' := s1.toks) hk
    refine ⟨s1.heap.objs.size + 1, [s1.heap.objs.size + 1, s1.heap.objs.size], _, _, H1, rfl, I2, turn_enumT a (s1.heap.objs.size + 1) s1.heap.objs.size, ⟨⟨.none, he⟩, hit, Nat.succ_ne_self _⟩, fun b hb => ?_, q⟩
    have hle : s1.heap.objs.size ≤ b := by
      rcases List.mem_cons.mp hb with z | z
      · rw [z]; exact Nat.le_succ _
      · rw [List.mem_singleton.mp z]; exact Nat.le_refl _
    exact I1.fpOk hle (I1.hok.fresh hle)
/-- such a loop: Pv by the turn -/
theorem for_enumT {K : PySem.W.Frag} {a : Addr} {xs : List V} {g : TG} {tb : TS} {D : Ends} {σ : L2.St} {H : Hp} (Pv : Nat → L2.St → Hp → Prop) (h0 : Pv 0 σ H) (hl : ∀ i σ H, i ≤ xs.length → Pv i σ H → SqT K H a xs)
    (hs : ∀ (i : Nat) (x : V) (T : Addr) (σ : L2.St) (H : Hp), xs[i]? = some x → Pv i σ H → H T = none → g (.ref T) σ (upd H T (.tup [.int (i : Nat), x])) fun σ2 H2 => tb { D with nx := Pv (i + 1), ct := Pv (i + 1), bk := D.nx } σ2 H2) (hd : ∀ σ H, Pv xs.length σ H → D.nx σ H) :
    ∃ W : Nat → Nat → L2.St → Hp → Prop, (∃ m, W 0 m σ H) ∧ ∀ i m σ H, W i m σ H →
      ((IteT K a).stop i H ∧ D.nx σ H) ∨ ((IteT K a).go i H ∧ ∃ N : L2.St → Hp → Prop, (∀ σ' H', N σ' H' → ∃ m', m' < m ∧ W (i + 1) m' σ' H') ∧ ∀ v H', (IteT K a).yld i H v H' → g v σ H' fun σ2 H2 => tb { D with nx := N, ct := N, bk := D.nx } σ2 H2) := by
  refine ⟨fun i m σ H => m = xs.length - i ∧ i ≤ xs.length ∧ Pv i σ H, ⟨xs.length, rfl, Nat.zero_le _, h0⟩, ?_⟩
  rintro i m σ H ⟨rfl, hi, p⟩
  have q := hl i σ H hi p
  by_cases hlt : i < xs.length
  · refine .inr ⟨⟨xs, xs[i], q, List.getElem?_eq_getElem hlt⟩, Pv (i + 1), fun σ' H' p' => ⟨xs.length - (i + 1), by omega, rfl, hlt, p'⟩, fun v H' y => ?_⟩
    obtain ⟨T, x', rfl, hT, rfl, f1⟩ := y
    exact hs i x' T σ H (f1 xs q) p hT
  · obtain rfl : i = xs.length := by omega
    exact .inl ⟨⟨xs, q, rfl⟩, hd σ H p⟩

/-! ### C.__init__(self, ..), C an own class that takes ValueError's -/
/-- what the written part says of the class -/
structure CIn (K : PySem.W.Frag) (C : Addr) : Prop where
  rd : PySem.W.readsIn K C (.type "type") = true
  ga : PySem.W.specialIn K (.ref C) "__getattribute__" = some (some (.builtin "type.__getattribute__"))
  fd : PySem.W.findCls K (.ref C) (.type "type") "__init__" = some (.val (.builtin "ValueError.__init__"))
section
variable {X : Cx} {e : Expr} {es : List Expr} {ta : TA} {p1 p2 pos : Pos} {C0 : Addr} {x : Str}
theorem pe_cinit {pl : Sem Bool} (hg : Gl X x) (hm : X.mg x = some (.ref C0)) (c : CIn X.K C0) (ha : PA X (e :: es) ta)
    (hc : eval (.Call (.Attribute (.Name x p1) "__init__" p2) (e :: es) [] pos) X.env = (do
      let ov ← eval (.Name x p1) X.env
      standAt p2.atName
      let (f, first) ← holding [ov] (getMethod ov "__init__" pl)
      callWith pos f first (backTo pos (starEach (e :: es) X.env)) (backToKw pos (keywordEach [] X.env))) := by rfl)
    (hdb : (x == ("__debug__" : Str)) = false := by decide)
    (he : starEach (e :: es) X.env = (false, eval e X.env) :: starEach es X.env := by rfl) (hpl : (backTo pos (starEach es X.env)).any (·.1) = false := by rfl) :
    PE X (.Call (.Attribute (.Name x p1) "__init__" p2) (e :: es) [] pos) (tVeI X.K ta) := by
  refine ⟨fun pins s σ H Q I h => ?_⟩
  refine PySem.W.methodCall_KW (ld_glob I hg hm ?_ hdb) hc
  refine PySem.W.method_cls I.kIn c.ga (PySem.W.cls_value I.kIn c.rd c.fd (by decide +kernel) ?_)
  refine PyProof.Rows.callWith_method1 (first := []) (thn (ha.run pos pins _ σ H _ (I.tok _) h) fun us s1 ⟨vs, H1, I1, r1, a, C, ws, ev, hl, T, ea, q⟩ => ?_) he hpl
  subst ev
  cases r1 with
  | @cons _ u0 _ ur ra rw' =>
    obtain rfl : u0 = Value.ref a := ra
    have hlen : ur.length ≤ sizeLine := by
      rw [← Paired.length rw', sizeLine_eq]
      omega
    exact oinit_ok T I1 ea hlen fun s' J => ⟨.non, H1, J, rfl, q⟩
end
end U6R
set_option Elab.async false
set_option linter.all false
set_option maxRecDepth 100000
set_option maxHeartbeats 8000000
/-! Rules that the layer lacks: set(list of texts), sorted(set of texts), any number below 4,000. -/
namespace U6R
open PySem PySem.Spec PyProof.Rows L2

/-! ### what a set of texts is -/
def txOf (e : Int × Value) : Str := match e.2 with
  | .str k _ => k
  | _ => Str.empty
def TxE (w : World) (e : Int × Value) : Prop := ∃ tk, e = (hashStr w (txOf e), Value.str (txOf e) tk)
/-- at a stands a set whose members are those of L, n of them; it can be walked -/
def SetS (w : World) (h : Heap) (a : Addr) (L : List Str) (n : Nat) : Prop :=
  ∃ o es ep t, (h.get? a = some o ∧ o.ExactSet ∧ o.data = .set es ep t) ∧ ((∀ e ∈ es.toList, TxE w e) ∧ (es.toList.map txOf).Nodup ∧ ∀ k, k ∈ es.toList.map txOf ↔ k ∈ L) ∧
    (es.size = n ∧ n < scanBound ∧ t.fits es.size = true) ∧ Ris t.place.toList ∧ (w.params.followText "set-order" = true ∨ t.led = true)
section
variable {P : Program} {w : World} {h h' : Heap} {a : Addr} {L : List Str} {n : Nat}
theorem SetS.at (R : SetS w h a L n) (k : ∀ o, h.get? a = some o → h'.get? a = some o) : SetS w h' a L n := by
  obtain ⟨o, es, ep, t, ⟨ho, r1⟩, r2⟩ := R
  exact ⟨o, es, ep, t, ⟨k o ho, r1⟩, r2⟩
theorem SetS.congr {L' : List Str} (R : SetS w h a L n) (e : ∀ k, k ∈ L ↔ k ∈ L') : SetS w h a L' n := by
  obtain ⟨o, es, ep, t, r1, ⟨g, nd, m⟩, r2⟩ := R
  exact ⟨o, es, ep, t, r1, ⟨g, nd, fun k => (m k).trans (e k)⟩, r2⟩
theorem txE_is {e : Int × Value} (g : TxE w e) (k : Str) : (PySem.strKind P w).is k e.2 = true ↔ txOf e = k := by
  obtain ⟨tk, q⟩ := g
  generalize txOf e = z at q ⊢
  subst q
  show ((z == k) = true) ↔ z = k
  exact beq_iff_eq
theorem txE_elems {l : List (Int × Value)} (g : ∀ e ∈ l, TxE w e) : ElemsOf (PySem.strKind P w) l := fun e he => by
  obtain ⟨tk, q⟩ := g e he
  generalize txOf e = z at q
  subst q
  exact ⟨⟨z, strKind_is P w z tk, rfl⟩, rfl⟩
theorem txE_mk (k : Str) (tk : Tok) : txOf (hashStr w k, Value.str k tk) = k ∧ TxE w (hashStr w k, Value.str k tk) := ⟨rfl, tk, rfl⟩
theorem SetS.fresh (ho : h.get? a = some { cls := .type "set", dict := none, data := .set #[] 0 (.fresh 0 0 (!w.params.followText "set-order")) }) : SetS w h a [] 0 := by
  refine ⟨_, #[], 0, _, ⟨ho, ⟨rfl, rfl, rfl⟩, rfl⟩, ⟨fun e he => by simp at he, List.nodup_nil, fun k => by simp⟩, ⟨rfl, by decide, by rfl⟩, List.Pairwise.nil, ?_⟩
  show _ ∨ (!w.params.followText "set-order") = true
  cases w.params.followText "set-order" <;> simp
end
section
variable {P : Program} {w : World} {A : Around} {E : Value → Shared → Prop} {s : Shared} {a : Addr} {L : List Str} {n : Nat}
/-- behind the new entry: the table is stored, perhaps laid anew -/
theorem sets_store {g : Bool → Sem Unit} (hg : ∀ (b : Bool) (s₁ : Shared) (Q' : Unit → Shared → Prop), Q' () s₁ → wpAny (model P w) A (g b) Q' E s₁)
    {o : Obj} {es es1 : Array (Int × Value)} {ep : Nat} {t t2 : SetTable} {L' : List Str} (ho : s.heap.get? a = some o ∧ o.ExactSet ∧ o.data = .set es ep t)
    (mem : (∀ e ∈ es1.toList, TxE w e) ∧ (es1.toList.map txOf).Nodup ∧ ∀ k, k ∈ es1.toList.map txOf ↔ k ∈ L') (hn : es1.size < scanBound) (hf : t2.fits es1.size = true) (hr : Ris t2.place.toList)
    (hl : w.params.followText "set-order" = true ∨ t2.led = true) {wasDummy : Bool} {R : Option Bool → Shared → Prop} (hR : ∀ h', Heap.SameBut a s.heap h' → SetS w h' a L' es1.size → R (some true) { s with heap := h' }) :
    wpAny (model P w) A (do
        storeSet a es1 t2
        if (!wasDummy && t2.tooFull) = true then do
            g (relayAll t2 es1 (SetTable.grown es1.size)).2.2
            storeSet a (relayAll t2 es1 (SetTable.grown es1.size)).1 (relayAll t2 es1 (SetTable.grown es1.size)).2.1
            pure (some true)
          else pure (some true)) R E s := by
  obtain ⟨ho, hex, hd⟩ := ho
  have one := store_at (es' := es1) (t' := t2) ho hd
  have sb := Heap.SameBut.update s.heap a (Obj.putSet es1 t2)
  refine wpAny_bind (wpAny_storeSet_of ho hd ?_ (fits_of_scanBound hn))
  split
  case isFalse => exact wpAny_pure (hR _ sb ⟨_, es1, _, t2, ⟨one, hex, rfl⟩, mem, ⟨rfl, hn, hf⟩, hr, hl⟩)
  case isTrue =>
    have q1 := relayAll_perm t2 es1 (SetTable.grown es1.size)
    have q2 := relayAll_fits t2 es1 (SetTable.grown es1.size)
    have q3 := relayAll_ris t2 es1 (SetTable.grown es1.size)
    have q4 := relayAll_led t2 es1 (SetTable.grown es1.size)
    revert q1 q2 q3 q4
    generalize relayAll t2 es1 (SetTable.grown es1.size) = Z
    obtain ⟨es2, t3, gave⟩ := Z
    intro q1 q2 q3 q4
    have hz : es2.size = es1.size := by simpa using q1.length_eq
    refine wpAny_bind (hg _ _ _ (wpAny_bind (wpAny_storeSet_of one rfl ?_ (fits_of_scanBound (by rw [hz]; exact hn)))))
    have two := store_at (es' := es2) (t' := t3) one rfl
    refine wpAny_pure (hR _ (sb.trans (Heap.SameBut.update _ a _)) ⟨_, es2, _, t3, ⟨two, hex, rfl⟩, ⟨fun e he => mem.1 e (q1.mem_iff.mp he), (q1.map txOf).nodup_iff.mpr mem.2.1, fun k => (q1.map txOf).mem_iff.trans (mem.2.2 k)⟩, ⟨hz, hn, q2⟩, q3, ?_⟩)
    rcases hl with z | z
    · exact .inl z
    · exact .inr (q4.trans z)
theorem sets_add {k : Str} {tk : Tok} {Q : Bool → Shared → Prop} (R : SetS w s.heap a L n) (room : n + 1 < scanBound)
    (hQ : ∀ h' m b, Heap.SameBut a s.heap h' → SetS w h' a (k :: L) m → m ≤ n + 1 → Q b { s with heap := h' }) : wpAny (model P w) A (setAddHashed a (.str k tk) ((PySem.strKind P w).hash k)) Q E s := by
  obtain ⟨o, es, ep, t, ⟨ho, hex, hd⟩, ⟨g, nd, hm⟩, ⟨hn, hb, hf⟩, hr, hl⟩ := R
  have hb' : es.size < scanBound := by rw [hn]; exact hb
  have hel : ElemsOf (PySem.strKind P w) es.toList := txE_elems g
  unfold setAddHashed setAddHashedIn
  refine wpAny_holding (wpAny_bind (wpAny_setState_of ho hd hf ?_))
  dsimp only
  rw [byScan_of (show (Value.str k tk).scannable = true from rfl) hb' hel]
  simp only [↓reduceIte]
  unfold setAddByScan
  refine wpAny_bind (wpAny_bind (wpAny_rule (wpAny_bind (wpAny_setScan_of (strKind_is P w k tk) ho hd hf hel ?_))))
  have hfi := @List.findIdx?_eq_some_iff_getElem _ es.toList (fun e => (PySem.strKind P w).is k e.2)
  cases e : List.findIdx? (fun e => (PySem.strKind P w).is k e.2) es.toList with
  | some j =>
    obtain ⟨hj, pj, _⟩ := hfi.mp e
    have kin : k ∈ L := (hm k).mp (List.mem_map.mpr ⟨_, List.getElem_mem hj, (txE_is (P := P) (g _ (List.getElem_mem hj)) k).mp pj⟩)
    refine wpAny_pure (wpAny_pure (hQ s.heap n _ (Heap.SameBut.refl a s.heap) ⟨o, es, ep, t, ⟨ho, hex, hd⟩, ⟨g, nd, fun i => ?_⟩, ⟨hn, hb, hf⟩, hr, hl⟩ (Nat.le_succ n)))
    rw [hm i, List.mem_cons]
    exact ⟨.inr, fun z => z.elim (fun z => z ▸ kin) id⟩
  | none =>
    have knot : k ∉ es.toList.map txOf := fun z => by
      obtain ⟨x, hx, q⟩ := List.mem_map.mp z
      have c := List.findIdx?_eq_none_iff.mp e x hx
      rw [(txE_is (P := P) (g x hx) k).mpr q] at c
      cases c
    have hgw : ∀ (b : Bool) {s₁ : Shared} {Q' : Unit → Shared → Prop}, Q' () s₁ → wpAny (model P w) A (match b with | true => rule "set.scan.the-table-gave-way" | false => pure ()) Q' E s₁ :=
      fun b s₁ Q' q => by cases b <;> first | exact wpAny_pure q | exact wpAny_rule q
    have p1 := layNew_perm t es ((PySem.strKind P w).hash k) (.str k tk)
    have p2 := layNew_fits t es ((PySem.strKind P w).hash k) (.str k tk)
    have p3 := layNew_ris t es ((PySem.strKind P w).hash k) (.str k tk) hr
    have p4 := layNew_led t es ((PySem.strKind P w).hash k) (.str k tk)
    revert p1 p2 p3 p4
    generalize layNew t es ((PySem.strKind P w).hash k) (.str k tk) = Z
    obtain ⟨es1, t1, wasDummy, gave⟩ := Z
    intro p1 p2 p3 p4
    dsimp only at p1 p2 p3 p4 ⊢
    have pc : es1.toList.Perm ((hashStr w k, Value.str k tk) :: es.toList) := by
      refine p1.trans ?_
      rw [Array.toList_push]
      exact List.perm_append_singleton _ _
    have pk : (es1.toList.map txOf).Perm (k :: es.toList.map txOf) := pc.map txOf
    have mem : (∀ e ∈ es1.toList, TxE w e) ∧ (es1.toList.map txOf).Nodup ∧ ∀ i, i ∈ es1.toList.map txOf ↔ i ∈ k :: L := by
      refine ⟨fun x hx => ?_, pk.nodup_iff.mpr (List.nodup_cons.mpr ⟨knot, nd⟩), fun i => ?_⟩
      · rcases List.mem_cons.mp (pc.mem_iff.mp hx) with z | z
        · rw [z]; exact (txE_mk k tk).2
        · exact g x z
      · rw [pk.mem_iff, List.mem_cons, List.mem_cons, hm i]
    have hz : es1.size = n + 1 := by
      have q := pc.length_eq
      rw [List.length_cons, Array.length_toList, Array.length_toList, hn] at q
      exact q
    have hb1 : es1.size < scanBound := by rw [hz]; exact room
    have hled : w.params.followText "set-order" = true ∨ t1.led = true := hl.imp id fun z => by rw [p4]; exact z
    have fin : ∀ h', Heap.SameBut a s.heap h' → SetS w h' a (k :: L) es1.size → Q true { s with heap := h' } := fun h' sb r => hQ h' es1.size true sb r (Nat.le_of_eq hz)
    refine wpAny_bind (hgw _ ?_)
    split
    · refine wpAny_bind ?_
      rw [hashByValue_scannable 8 (show (Value.str k tk).scannable = true from rfl)]
      refine wpAny_pure (sets_store ?_ ⟨ho, hex, hd⟩ mem hb1 ?_ ?_ ?_ ?_)
      · intro b s₁ Q' q; cases b <;> first | exact wpAny_pure q | exact wpAny_rule q
      · first | (split <;> first | exact p2 | exact SetTable.fits_plain_off p2) | exact p2
      · first | (split <;> exact p3) | exact p3
      · first | (split <;> exact hled) | exact hled
      · intro h' sb r; dsimp only; exact wpAny_pure (fin h' sb r)
    · refine wpAny_bind (wpAny_pure ?_)
      simp only [↓reduceIte]
      refine sets_store ?_ ⟨ho, hex, hd⟩ mem hb1 p2 p3 hled ?_
      · intro b s₁ Q' q; cases b <;> first | exact wpAny_pure q | exact wpAny_rule q
      · intro h' sb r; dsimp only; exact wpAny_pure (fin h' sb r)
/-- the loop of set(xs) -/
theorem sets_loop {I : Addr} {fp wr : List Addr} {G : Array GenState → Array GenState → Prop} {m : Nat} {Pv : Nat → Value → Prop} {St : Nat → Shared → Prop} {R : Result → Shared → Prop}
    (W : WalksS P w A.in1 I fp wr G m Pv St) (S : Addr) (hSf : S ∉ fp) (xs : List Str) (hm : xs.length = m) (hb : m + 1 < scanBound) (hval : ∀ i v, Pv i v → ∃ k t, xs[i]? = some k ∧ v = .str k t)
    (hR : ∀ s' c, Moved (S :: wr) G s s' → SetS w s'.heap S xs c → c ≤ m → R (.ok (.ret .none)) s') (h0 : St 0 s) (hs : SetS w s.heap S [] 0) :
    codeAny (model P w) A (.builtin "set.update.loop" ⟨[.ref S, .ref I], []⟩) R s := by
  have hSw : S ∉ wr := fun h => hSf (W.sub _ h)
  have hsub : ∀ b ∈ wr, b ∈ S :: wr := fun b hb => List.mem_cons_of_mem _ hb
  suffices key : ∀ (j i : Nat) (s : Shared) (c : Nat), m - i = j → i ≤ m → St i s → SetS w s.heap S (xs.take i) c → c ≤ i → (∀ s' c, Moved (S :: wr) G s s' → SetS w s'.heap S xs c → c ≤ m → R (.ok (.ret .none)) s') →
      codeAny (model P w) A (.builtin "set.update.loop" ⟨[.ref S, .ref I], []⟩) R s from key m 0 s 0 (by omega) (Nat.zero_le _) h0 hs (Nat.le_refl _) hR
  intro j
  induction j with
  | zero =>
    intro i s c ej hi st hS hc hR
    obtain rfl : i = m := by omega
    refine codeAny_builtin F.entry_set_update_loop ?_
    rw [Around.under_plainId F.plain_set_update_loop _]
    show wpAny _ A.in1 (pyNext (.ref I) >>= _) _ _ s
    refine wpAny_bind (W.done s _ _ st fun s' mv => ?_)
    rw [List.take_of_length_le (Nat.le_of_eq hm)] at hS
    exact wpAny_pure (hR s' c (mv.mono hsub) (hS.at fun o e => mv.heap S o hSw e) hc)
  | succ j ih =>
    intro i s c ej hi st hS hc hR
    have lt : i < m := by omega
    refine codeAny_builtin F.entry_set_update_loop ?_
    rw [Around.under_plainId F.plain_set_update_loop _]
    show wpAny _ A.in1 (pyNext (.ref I) >>= _) _ _ s
    refine wpAny_bind (W.item i s _ _ lt st fun v s' hP st' mv => ?_)
    obtain ⟨k, t, hk, rfl⟩ := hval i v hP
    have hS' : SetS w s'.heap S (xs.take i) c := hS.at fun o e => mv.heap S o hSw e
    show wpAny _ A.in1 (holding [Value.str k t] (setAdd S (.str k t)) >>= _) _ _ s'
    refine wpAny_bind (wpAny_holding ?_)
    unfold setAdd
    refine wpAny_holding (wpAny_bind ((PySem.strKind P w).pyHash (k := k) (strKind_is _ _ _ _) ?_))
    refine sets_add (s := { s' with toks := s'.toks + 1 }) hS' (by omega) fun h' c2 b sb hS2 hc2 => ?_
    have other : ∀ b o, b ≠ S → s'.heap.get? b = some o → h'.get? b = some o := fun b o hb e => (sb.2 b hb).trans e
    refine wpAny_pure ⟨plainId_quiet F.plain_set_update_loop _, ih (i + 1) _ c2 (by omega) lt (W.frame _ s' _ _ st' (Nat.le_succ _) fun b hb o e => other b o (fun z => hSf (z ▸ hb)) e) (hS2.congr fun z => ?_) (by omega) fun s'' c3 mv2 hS3 hc3 => hR s'' c3 ?_ hS3 hc3⟩
    · rw [List.take_add_one, hk, List.mem_cons, List.mem_append]
      simp [or_comm]
    · exact Moved.trans W.gtrans ((mv.mono hsub).then_heap (Nat.le_succ _) fun b o hb e => other b o (fun z => hb (z ▸ List.mem_cons_self)) e) mv2
/-- set(xs), xs a list of texts -/
theorem call_setS {l : Addr} {items : Array Value} (xs : List Str) {Q : Value → Shared → Prop} (hh : A.handled = none) (hl : s.heap.IsList l items) (hi : StrsAre items.toList xs) (hb : xs.length + 1 < scanBound)
    (h : ∀ (h' : Heap) (tk c : Nat), SetS w h' s.heap.objs.size xs c → c ≤ xs.length → (∀ b o, s.heap.get? b = some o → h'.get? b = some o) → Q (.ref s.heap.objs.size) { s with heap := h', toks := tk }) :
    wpAny (model P w) A (call (.type "set") [.ref l]) Q E s := by
  have hsz : xs.length = items.size := by rw [← StrsAre.len_eq hi, Array.length_toList]
  generalize hnew : ({ cls := .type "set", dict := none, data := .set #[] 0 (.fresh 0 0 (!w.params.followText "set-order")) } : Obj) = ob
  have hfr : ob.isFreed = false := by rw [← hnew]; rfl
  have hcls : ob.cls = .type "set" := by rw [← hnew]
  obtain ⟨c, tl, hmro⟩ := F.called_set.mro
  have hmade := F.called_set.made
  have hsub := F.called_set.sub
  refine wpAny_call (codeAny_of_tree ?_)
  show wpAny _ _ (callAny (.type "set") _) _ _ _
  refine wpAny_pure ⟨Code.quiet_builtin _ (by decide +kernel), codeAny_builtin F.entry_type_call ?_⟩
  rw [Around.under_plain (weight_type_call_type "set" [.ref l] []) rfl]
  have h1 := F.called_set.notType
  have h2 := F.called_set.canCreate
  have hct := F.typeCall_set_1 (.ref l)
  repeat (any_goals (first | assumption | wp_step))
  refine codeAny_mono (code_set_led1 (.ref l) (E := E) (Q₁ := fun obj s₁ => obj = .ref s.heap.objs.size ∧ s₁ = { s with heap := s.heap.push ob }) ⟨rfl, by rw [hnew]⟩) fun r s₁ hr => ?_
  cases r with
  | error e => exact hr
  | ok fl =>
    cases fl with
    | ret obj =>
      obtain ⟨rfl, rfl⟩ := hr
      have hS : (s.heap.push ob).get? s.heap.objs.size = some ob := Heap.get?_push_size _ hfr
      have hT : Shared.TypeIs { s with heap := s.heap.push ob } (.ref s.heap.objs.size) "set" := ⟨_, hS, hcls⟩
      have hli := F.called_set.init.lookup
      have hbi := F.called_set.init.bind (.ref s.heap.objs.size)
      repeat (any_goals (first | assumption | wp_step))
      refine codeAny_mono (codeAny_call_builtin (R := wants (fun r s₂ => r = .none ∧ ∃ h' tk c, s₂ = { s with heap := h', toks := tk } ∧ SetS w h' s.heap.objs.size xs c ∧ c ≤ xs.length ∧
          (∀ b o, s.heap.get? b = some o → h'.get? b = some o)) E) F.called_set.init.plain F.entry_set_init (check_set_init_1 hT ?_)) fun r₂ s₂ hr₂ => ?_
      · obtain ⟨⟨ocls, odict, odata, oslots⟩, hol, hcl, nl, hdl⟩ := hl
        dsimp only at hcl hdl
        subst hcl hdl
        have hlS : l < s.heap.objs.size := Heap.lt_size hol
        have hol' : (s.heap.push ob).get? l = some { cls := .type "list", dict := odict, data := .seq items nl, slots := oslots } := Heap.get?_push_of_some _ hol
        have hl1 : (s.heap.push ob).IsList l items := ⟨_, hol', rfl, nl, rfl⟩
        have hsls := F.sub_list_set
        have hslf := F.sub_list_frozenset
        have hne : (Value.type "list" == Value.type "dict") = false := by decide
        subst hnew
        unfold Builtin.«set.__init__» noKeywords Builtin.Frozenset.updateFrom
        generalize hPI : pyIter = PI
        wp_walk
        subst hPI
        have hz : (s.heap.push ({ cls := .type "set", dict := none, data := .set #[] 0 (.fresh 0 0 (!w.params.followText "set-order")) } : Obj)).objs.size = s.heap.objs.size + 1 := Heap.size_push ..
        have hneI : l ≠ (s.heap.push ({ cls := .type "set", dict := none, data := .set #[] 0 (.fresh 0 0 (!w.params.followText "set-order")) } : Obj)).objs.size := by rw [hz]; exact Nat.ne_of_lt (Nat.lt_succ_of_lt hlS)
        have hSf : s.heap.objs.size ∉ [(s.heap.push ({ cls := .type "set", dict := none, data := .set #[] 0 (.fresh 0 0 (!w.params.followText "set-order")) } : Obj)).objs.size, l] := by
          rw [hz]
          simp only [List.mem_cons, List.not_mem_nil, or_false, not_or]
          exact ⟨Nat.ne_of_lt (Nat.lt_succ_self _), Nat.ne_of_gt hlS⟩
        have hval : ∀ (i : Nat) (v : Value), items[i]? = some v → ∃ k t, xs[i]? = some k ∧ v = .str k t := fun i v hv => by
          have hi' : i < xs.length := by rw [hsz]; exact (Array.getElem?_eq_some_iff.mp hv).1
          obtain ⟨t, e⟩ := SS.strs_at hi i v (by rw [Array.getElem?_toList]; exact hv)
          refine ⟨xs[i], t, List.getElem?_eq_getElem hi', ?_⟩
          rw [e, List.getD_eq_getElem?_getD, List.getElem?_eq_getElem hi']
          rfl
        refine wpAny_pyIter_list hl1 ?_
        refine wpAny_bind (wpAny_runValue ?_)
        refine sets_loop ((Walks.list (by simp [hh]) _ l hneI items).toS) s.heap.objs.size hSf xs hsz (by rw [← hsz]; exact hb) hval (fun s' c' mv hS' hc' => ?_) ⟨⟨_, Heap.get?_push_size _ rfl, rfl, rfl⟩, hl1.push _⟩
          (SetS.fresh (Heap.get?_push_of_some _ hS))
        obtain ⟨h', g2, d', tk', os'⟩ := s'
        have eg : g2 = s.gens := mv.gens
        have ed : d' = s.drawn := mv.drawn
        have eo : os' = s.os := mv.os
        subst eg ed eo
        show wpAny _ _ _ _ _ _
        refine wpAny_pure ?_
        show wpAny _ _ (ret Value.none) _ _ _
        rw [← hsz] at hc'
        refine wpAny_pure ⟨rfl, h', tk', c', rfl, hS', hc', fun b o e => ?_⟩
        have hb0 : b < s.heap.objs.size := Heap.lt_size e
        refine mv.heap b o ?_ (Heap.get?_push_of_some _ (Heap.get?_push_of_some _ e))
        simp only [List.mem_cons, List.not_mem_nil, or_false, not_or]
        exact ⟨Nat.ne_of_lt hb0, by rw [hz]; exact Nat.ne_of_lt (Nat.lt_succ_of_lt hb0)⟩
      · cases r₂ with
        | error e => exact hr₂
        | ok fl₂ =>
          cases fl₂ with
          | ret r =>
            obtain ⟨rfl, h', tk, c', rfl, hS', hc', hk'⟩ := hr₂
            repeat (any_goals (first | assumption | wp_step))
            exact h _ _ _ hS' hc' hk'
          | _ => exact hr₂.elim
    | _ => exact hr.elim
/-- sorted of such a set -/
theorem sorted_setS {Q : Value → Shared → Prop} (R : SetS w s.heap a L n) (hh : A.handled = none)
    (hQ : ∀ s' p (out : Array Value) (c : Nat) (ys : List Str), (∀ b o, s.heap.get? b = some o → s'.heap.get? b = some o) → s'.gens = s.gens → s'.os = s.os → s.heap.objs.size ≤ p →
      s'.heap.get? p = some (seqObj "list" out c) → StrsAre out.toList ys → sortedS ys = true → ys.Nodup → (∀ k, k ∈ ys ↔ k ∈ L) → ys.length = n → Q (.ref p) s') :
    wpAny (model P w) A (call (.builtin "sorted") [.ref a]) Q E s := by
  obtain ⟨o, es, ep, t, ⟨ho, hex, hd⟩, ⟨g, nd, hm⟩, ⟨hn, hb, hf⟩, hr, hl⟩ := R
  refine Calls.call_function_entry kind_sorted plain_sorted entry_sorted (args_sorted1 _) ?_
  unfold Builtin.«sorted»
  refine wpAny_bind (m := checkCount "sorted" 1 1 _) (wpAny_pure ?_)
  refine wpAny_bind (collect_set (A := A.in1) hh ⟨o, ho, hex.1, hd⟩ hf (by rw [hn]; exact hb) hr hl fun s1 vs k1 hz g1 o1 pm => ?_)
  have hvl : vs.length = n := by rw [pm.length_eq, List.length_map, Array.length_toList]; exact hn
  have hlow : vs.length ≤ sizeLine := by rw [hvl]; exact Nat.le_trans (Nat.le_of_lt hb) (by decide)
  obtain ⟨xs, hx, px⟩ : ∃ xs, StrsAre vs xs ∧ xs.Perm (es.toList.map txOf) := by
    have all : ∀ v ∈ vs, ∃ k tk, v = Value.str k tk := fun v hv => by
      obtain ⟨e, he, q⟩ := List.mem_map.mp (pm.mem_iff.mp hv)
      obtain ⟨tk, z⟩ := g e he
      exact ⟨txOf e, tk, by rw [← q, congrArg Prod.snd z]⟩
    have mk : ∀ l : List Value, (∀ v ∈ l, ∃ k tk, v = Value.str k tk) → StrsAre l (l.map fun v => txOf (0, v)) := by
      intro l
      induction l with
      | nil => intro _; exact .nil
      | cons v l ih =>
        intro h
        obtain ⟨k, tk, rfl⟩ := h v List.mem_cons_self
        exact .cons k tk (ih fun u hu => h u (List.mem_cons_of_mem _ hu))
    refine ⟨_, mk vs all, ?_⟩
    have q := pm.map fun v => txOf (0, v)
    rw [List.map_map] at q
    exact q
  refine wpAny_bind (wpAny_newList ?_ hlow)
  have hoL : (s1.heap.push (seqObj "list" vs.toArray 0)).get? s1.heap.objs.size = some (seqObj "list" vs.toArray 0) := Heap.get?_push_size _ rfl
  refine wpAny_bind (wpAny_holding (wpAny_call_entry slot_list_sort ⟨_, hoL, rfl⟩ entry_list_sort
    (list_sort_treeKAny strKind_oneLt hoL hx.keysOf (fun v1 v2 rest e => keyKind_strs (by rw [← e]; exact hx)) hlow fun st' hp hs => ⟨_, rfl, ?_⟩) (args_list_sort _)))
  obtain ⟨ys, y1, y2, y3⟩ := sorted_out_str hx hp hs
  obtain ⟨c, hc⟩ := sortedHeap_at (vs := vs) (out := (arrOf st').map (·.2)) hoL
  have pn : ys.Perm (es.toList.map txOf) := y2.trans px
  refine wpAny_pure ⟨_, rfl, hQ _ s1.heap.objs.size _ c ys (fun b u e => ?_) g1 o1 hz hc y1 y3 (pn.nodup_iff.mpr nd) (fun k => pn.mem_iff.trans (hm k)) ?_⟩
  · have q := k1 b u e
    have hlt := Heap.lt_size q
    show (sortedHeap (s1.heap.push (seqObj "list" vs.toArray 0)) s1.heap.objs.size vs _).get? b = some u
    rw [sortedHeap_old (Nat.ne_of_lt hlt) (by rw [size_push']; exact Nat.lt_succ_of_lt hlt)]
    exact Heap.get?_push_of_some _ q
  · rw [pn.length_eq, List.length_map, Array.length_toList]; exact hn
end
/-- a set of texts at a -/
def SetSO (w : World) (a : Addr) (L : List Str) (n : Nat) : HO := .ext fun h => SetS w h a L n
theorem setSO_new {w : World} {P : Program} {H : Hp} {h : Heap} {a : Addr} {L : List Str} {n : Nat} (R : SetS w h a L n) : ObjOk P w H h a (SetSO w a L n) := by
  have ⟨o, _, _, _, ⟨ho, _⟩, _⟩ := R
  exact ⟨R, ⟨o, ho⟩, fun h1 h2 p k => SetS.at p k⟩
section
variable {X : Cx}
/-- set(xs), xs a list of texts -/
def rSetS (K : PySem.W.Frag) (w : World) : List V → Hp → VK → Prop := fun vs H Q => ∃ (l : Addr) (xs : List Str), vs = [V.ref l] ∧ SqL K H l (xs.map V.str) ∧ xs.length + 1 < scanBound ∧
  ∀ (a : Addr) (n : Nat), H a = none → Q (.ref a) (upd H a (SetSO w a xs n))
theorem cr_setS (hc : X.calm = true) : CallR X (.type "set") (rSetS X.K X.w) := by
  intro pins s σ H vs us Q I r h
  obtain ⟨l, xs, rfl, hs, hb, q⟩ := h
  obtain ⟨its, rv, hl, hz⟩ := I.list hs
  rw [Vals.ref1 r]
  refine call_setS xs (I.ok.hd hc) hl.isList (by simpa using strsAre_of rv) hb fun h' tk c R hc' k => ?_
  exact ⟨.ref _, _, I.laid (t' := tk) k (Nat.le_refl _) (setSO_new R), rfl, q _ c (I.hok.fresh (Nat.le_refl _))⟩
/-- sorted(such a set) -/
def rSortSetS (w : World) : List V → Hp → VK → Prop := fun vs H Q => ∃ (a : Addr) (L : List Str) (n : Nat), vs = [V.ref a] ∧ H a = some (SetSO w a L n) ∧
  ∀ (ys : List Str) (p : Addr), sortedS ys = true → ys.Nodup → (∀ k, k ∈ ys ↔ k ∈ L) → H p = none → Q (.ref p) (upd H p (.lst (ys.map V.str)))
theorem cr_sortSetS (hc : X.calm = true) : CallR X (.builtin "sorted") (rSortSetS X.w) := by
  intro pins s σ H vs us Q I r h
  obtain ⟨a, L, n, rfl, ha, q⟩ := h
  have R : SetS X.w s.heap a L n := (I.hok a _ ha).1
  rw [Vals.ref1 r]
  refine sorted_setS R (I.ok.hd hc) fun s' p out c ys k g o hp hg hi hs nd hm hl => ?_
  have hb : n < scanBound := by
    obtain ⟨_, _, _, _, _, _, ⟨_, hb, _⟩, _⟩ := R
    exact hb
  have hlen : (ys.map V.str).length ≤ sizeLine := by rw [List.length_map, hl]; exact Nat.le_trans (Nat.le_of_lt hb) (by decide)
  have hn : H p = none := I.hok.fresh hp
  have J : Inv X pins σ (upd H p (.lst (ys.map V.str))) s' :=
    I.call' (ch := []) o (Un.laid k hp hn) (I.hok.laid k hp ⟨hlen, out.toList, c, vals_of_strs hi, hg⟩) (by rw [g]; exact I.bare) (fun _ z => nomatch z)
  exact ⟨.ref p, _, J, rfl, q ys p hs nd hm hn⟩
end
end U6R
set_option Elab.async false
set_option linter.all false
set_option maxRecDepth 100000
set_option maxHeartbeats 4000000
/-! NoUnifier.__init__, variables_of. -/
namespace U6
open PySem PySem.Spec PyProof.Rows L2 U6R
/-! ### texts in order, once each -/
theorem asc_of : ∀ {l : List Str}, sortedS l = true → l.Nodup → Asc l := by
  have key : ∀ (r : List Str) (x : Str), risingS x r = true → (x :: r).Nodup → Asc (x :: r) := by
    intro r
    induction r with
    | nil => intro x _ _; exact List.pairwise_singleton _ _
    | cons y r ih =>
      intro x h nd
      have h' : (!ltCps y.cps.toList x.cps.toList && risingS y r) = true := h
      rw [Bool.and_eq_true, Bool.not_eq_true', ltCps_eq] at h'
      obtain ⟨n1, n2⟩ := List.nodup_cons.mp nd
      have a := ih y h'.2 n2
      have xy : slt x y = true := slt_total h'.1 fun e => n1 (by rw [e]; exact List.mem_cons_self)
      refine List.pairwise_cons.mpr ⟨fun z hz => ?_, a⟩
      rcases List.mem_cons.mp hz with e | e
      · rw [e]; exact xy
      · exact slt_trans xy ((List.pairwise_cons.mp a).1 z e)
  intro l h nd
  cases l with
  | nil => exact List.Pairwise.nil
  | cons x r => exact key r x h nd
/-- the variables among terms, as they stand -/
def vlist (ts : List Key) : List Str := ts.filterMap fun t => match t with
  | .inr s => if isVar (.inr s) = true then some s else none
  | .inl _ => none
theorem mem_vlist {ts : List Key} {z : Str} : z ∈ vlist ts ↔ (.inr z ∈ ts ∧ isVar (.inr z) = true) := by
  unfold vlist
  rw [List.mem_filterMap]
  constructor
  · rintro ⟨t, h, e⟩
    cases t with
    | inl i => cases e
    | inr s =>
      dsimp only at e
      by_cases v : isVar (.inr s) = true
      · rw [if_pos v] at e
        cases e
        exact ⟨h, v⟩
      · rw [if_neg v] at e
        cases e
  · rintro ⟨h, v⟩
    exact ⟨_, h, by dsimp only; rw [if_pos v]⟩
theorem vlist_len (ts : List Key) : (vlist ts).length ≤ ts.length := List.length_filterMap_le _ _
theorem vlist_take {ts : List Key} {i : Nat} {t : Key} (h : ts[i]? = some t) : vlist (ts.take (i + 1)) = vlist (ts.take i) ++ vlist [t] := by
  rw [List.take_add_one, h]
  exact List.filterMap_append
theorem varsOf_is {ts : List Key} {ys : List Str} (h1 : sortedS ys = true) (h2 : ys.Nodup) (h3 : ∀ k, k ∈ ys ↔ k ∈ vlist ts) : ys = varsOf ts :=
  asc_unique (asc_of h1 h2) (asc_vars ts) fun z => by rw [h3 z, mem_vlist, mem_vars]
section
variable {P : Program} {w : World} {K : PySem.W.Frag} {mg : Str → Option Value} {base : Heap}
/-! ### NoUnifier -/
/-- what the top has written of the errors: NoUnifier at C, WithError at C0 -/
structure Ex (K : PySem.W.Frag) (mg : Str → Option Value) (C C0 fI : Addr) (fdI : FuncData) : Prop where
  ox : OexC K C
  gC : mg "NoUnifier" = some (.ref C)
  g0 : mg "WithError" = some (.ref C0)
  cin : CIn K C0
  noP : PySem.W.findIn K (.ref C) "place" = some none
  iC : PySem.W.findIn K (.ref C) "__init__" = some (some (.ref fI))
  tI : PySem.W.typeIn K (.ref fI) = some (.type "function")
  te : PySem.W.exmOne K (.ref C) (.ref C) = some true
  F : Fun K "__init__" "NoUnifier.__init__" sInit fI fdI
  b : Binds K fdI ["self", "place"] []
def spInit (K : PySem.W.Frag) (C : Addr) : Sp := fun vs H Q _ => ∃ (a : Addr) (v : V), vs = [.ref a, v] ∧ H a = some (exo a C none) ∧ ∀ dx, H dx = none → dx ≠ a → Q .non (upd (upd H dx (exd dx [("place", v)])) a (exo a C (some dx)))
theorem scI : FnScope ["self", "place"] ["self", "place"] (defScope sInit) := ⟨rfl, rfl, rfl, by decide +kernel, rfl, by decide +kernel, by decide +kernel⟩
theorem ok_init {C C0 fI : Addr} {fdI : FuncData} (X : Ex K mg C C0 fI fdI) : FnOk P w K mg base CX0 1 fI fdI ["self", "place"] (spInit K C) := by
  refine X.F.ok scI (fun vs H Q E h => ?_) (fun cdv A outer s H vs Q E hr h => ?_)
  · obtain ⟨a, v, rfl, _⟩ := h
    rfl
  · obtain ⟨a, v, rfl, ha, q⟩ := h
    refine ⟨_, pss_cons (ps_expr (pe_cinit rfl X.g0 X.cin (pa_cons (pv 0) (pa_cons pe_str pa_nil)))) (pss_one (ps_ost (pv 0) (pv 1))), ?_⟩
    refine ⟨_, rfl, a, C, _, rfl, (by show 1 ≤ 1000; decide), X.ox, ha, ?_⟩
    exact ⟨_, rfl, _, rfl, a, C, rfl, X.ox, X.noP, .inl ⟨ha, q⟩⟩
/-! ### variables_of(pattern) -/
def spVars (K : PySem.W.Frag) : Sp := fun vs H Q _ => ∃ (a : Addr) (ts : List Key), vs = [.ref a] ∧ SqL K H a (ts.map kV) ∧ (∀ t ∈ ts, Sh t) ∧ ts.length ≤ 4000 ∧
  ∀ H' p, Same H H' → H p = none → H' p = some (.tup ((varsOf ts).map V.str)) → Q (.ref p) H'
theorem scV : FnScope ["pattern", "term"] ["pattern"] (defScope sVars) := ⟨rfl, rfl, rfl, by decide +kernel, rfl, by decide +kernel, by decide +kernel⟩
theorem ok_vars {f fF : Addr} {fd fdF : FuncData} (D : Df K mg "variables_of" sVars ["pattern"] f fd) (B : Bl mg) (DF : Df K mg "is_free" sFree ["term"] fF fdF) : FnOk P w K mg base CX0 2 f fd ["pattern"] (spVars K) := by
  have GF : FnOk P w K mg base CX0 1 fF fdF ["term"] spFree := ok_free DF B
  refine D.F.ok scV (fun vs H Q E h => ?_) (fun cdv A outer s H vs Q E hr h => ?_)
  · obtain ⟨a, ts, rfl, _⟩ := h
    rfl
  · obtain ⟨a, ts, rfl, ha, hsh, hlen, q⟩ := h
    refine ⟨_, pss_one (ps_ret (pe_callTy call_tuple_of (by rfl) B.tup (by decide +kernel) (pa_cons (pe_callB (cr_sortSetS rfl) (by rfl) B.srt (by decide +kernel) (pa_cons (pe_callTy (cr_setS rfl) (by rfl) B.set (by decide +kernel)
      (pa_cons (pe_lc (own := [("term", 1)]) (g := gName 1) rfl scV.nd (pi_list (pv 0)) (blkOk_by (N := ["pattern", "term"]) (sc := defScope sVars) (by decide +kernel)) (fun _ _ _ _ _ => pg_name (i := 1) scV.nd rfl (Or.inl rfl))
        (fun _ _ _ _ _ => pts_one (pt_val (pe_call GF hr rfl DF.g DF.k DF.b .nil pass0 (pa_cons (pv 1) pa_nil)))) (fun _ _ _ _ _ => pv 1)) pa_nil)) pa_nil)) pa_nil))), ?_⟩
    refine ⟨_, rfl, a, rfl, ⟨_, ha⟩, fun D hD => ?_⟩
    refine lc_list (K := K) (a := a) (xs := ts.map kV) (fun i H' => H' D = some (.lst ((vlist (ts.take i)).map V.str)) ∧ Same H H') ⟨upd_same, same_upd hD⟩ (fun i H' _ p => p.2.seq ha) ?_ ?_
    · rintro i x H' hx ⟨h1, h2⟩
      rw [List.getElem?_map] at hx
      cases e : ts[i]? with
      | none => rw [e] at hx; cases hx
      | some t =>
        rw [e] at hx
        have ex : kV t = x := Option.some.inj hx
        subst ex
        refine ⟨rfl, _, rfl, t, rfl, hsh t (List.mem_of_getElem? e), _, rfl, ?_⟩
        have step := vlist_take e
        cases v : isVar t with
        | false =>
          refine iteF ⟨?_, h2⟩
          have z : vlist [t] = [] := by
            cases t with
            | inl i => rfl
            | inr s => simp [vlist, v]
          rw [step, z, List.append_nil]
          exact h1
        | true =>
          obtain ⟨s, rfl⟩ := var_str v
          have z : vlist [Sum.inr s] = [s] := by simp [vlist, v]
          refine iteT ⟨_, rfl, _, h1, ?_, ?_, ?_⟩
          · rw [List.length_map]
            refine Nat.lt_of_le_of_lt (vlist_len _) ?_
            rw [List.length_take]
            exact Nat.lt_of_le_of_lt (Nat.min_le_right _ _) (Nat.lt_of_le_of_lt hlen (by decide))
          · rw [upd_same, step, z, List.map_append]
            rfl
          · intro b o hb
            rw [upd_ne (ne_of_none hb hD)]
            exact h2 b o hb
    · rintro H' ⟨h1, h2⟩
      rw [List.length_map, List.take_length] at h1
      refine ⟨D, vlist ts, rfl, SqL.of h1, ?_, fun S n hS => ?_⟩
      · exact Nat.lt_of_le_of_lt (Nat.succ_le_succ (Nat.le_trans (vlist_len ts) hlen)) (by decide)
      · refine ⟨S, _, n, rfl, upd_same, fun ys p y1 y2 y3 hp => ?_⟩
        have ey := varsOf_is y1 y2 y3
        subst ey
        refine ⟨p, _, rfl, .inl ⟨SqL.of upd_same, fun l hl => ?_⟩⟩
        have s1 : Same H (upd H' S (SetSO w S (vlist ts) n)) := h2.trans (same_upd hS)
        have s2 := s1.trans (same_upd (o := .lst ((varsOf ts).map V.str)) hp)
        exact q _ l (s2.trans (same_upd hl)) (s2.free hl) upd_same
end
end U6
set_option Elab.async false
set_option linter.all false
set_option maxRecDepth 100000
set_option maxHeartbeats 8000000
/-! unified. -/
namespace U6
open PySem PySem.Spec PyProof.Rows L2 U6R
theorem unif_none_take {es : Eqs} {i : Nat} (h : unif (es.take i) = none) : unif es = none := by
  have q : es = es.take i ++ es.drop i := (List.take_append_drop i es).symm
  unfold unif at h ⊢
  rw [q, unifL_append, h]
  rfl
theorem told_none {es : Eqs} (h : unif es = none) : told es = none := by unfold told; rw [h]; rfl
theorem told_tell {es : Eqs} {f : Key → Key} (h : unif es = some f) : told es = some (tell f (vars es)) := by unfold told; rw [h]; rfl
theorem terms_take {es : Eqs} {i : Nat} {e : Key × Key} (h : es[i]? = some e) : terms (es.take (i + 1)) = terms (es.take i) ++ [e.1, e.2] := by
  rw [List.take_add_one, h]
  exact terms_snoc (a := e.1) (b := e.2)
theorem terms_len (es : Eqs) : (terms es).length = 2 * es.length := by
  unfold terms
  induction es with
  | nil => rfl
  | cons e es ih => rw [List.flatMap_cons, List.length_append, ih]; simp; omega
theorem terms_sub {es : Eqs} {i : Nat} {t : Key} (h : t ∈ terms (es.take i)) : t ∈ terms es := by
  obtain ⟨e, he, k⟩ := mem_terms.mp h
  exact mem_terms.mpr ⟨e, List.mem_of_mem_take he, k⟩
theorem sh_leader {es : Eqs} {f : Key → Key} {i : Nat} (G : Good (es.take i) f) (hsh : ∀ t ∈ terms es, Sh t) {t : Key} (ht : t ∈ terms es) : Sh (f t) := by
  rcases (G.self t).inTerms with e | ⟨_, e⟩
  · rw [← e]; exact hsh t ht
  · exact hsh _ (terms_sub e)
section
variable {P : Program} {w : World} {K : PySem.W.Frag} {mg : Str → Option Value} {base : Heap}
def spUnified (K : PySem.W.Frag) (C : Addr) : Sp := fun vs H Q E => ∃ (a : Addr) (es : Eqs), vs = [.ref a] ∧ EqsAt K H a es ∧ (∀ t ∈ terms es, Sh t) ∧ es.length ≤ 2000 ∧
  (∀ d, told es = some d → ∀ H' p, Same H H' → H p = none → EqsAt K H' p d → Q (.ref p) H') ∧ (told es = none → ∀ H' x, Same H H' → E (.ref C) x H')
theorem scU : FnScope ["equations", "table", "terms", "place", "one", "other", "first", "further", "variable"] ["equations"] (defScope sUnified) := ⟨rfl, rfl, rfl, by decide +kernel, rfl, by decide +kernel, by decide +kernel⟩
theorem ok_unified {f fF fV fL fO C C0 fI : Addr} {fd fdF fdV fdL fdO fdI : FuncData} (D : Df K mg "unified" sUnified ["equations"] f fd) (B : Bl mg) (DF : Df K mg "is_free" sFree ["term"] fF fdF) (DV : Df K mg "variables_of" sVars ["pattern"] fV fdV)
    (DL : Df K mg "leader_of" sLeader ["table", "term"] fL fdL) (DO : Df K mg "leaders_in_order" sOrder ["one", "other"] fO fdO) (X : Ex K mg C C0 fI fdI) : FnOk P w K mg base (L2.CX P w) 4 f fd ["equations"] (spUnified K C) := by
  have GF : FnOk P w K mg base CX0 1 fF fdF ["term"] spFree := ok_free DF B
  have GV : FnOk P w K mg base CX0 2 fV fdV ["pattern"] (spVars K) := ok_vars DV B DF
  have GL : FnOk P w K mg base CX0 1 fL fdL ["table", "term"] spLeader := ok_leader DL
  have GO : FnOk P w K mg base CX0 2 fO fdO ["one", "other"] spOrder := ok_order DO B DF
  have GI : FnOk P w K mg base CX0 1 fI fdI ["self", "place"] (spInit K C) := ok_init X
  refine D.F.okX scU (fun vs H Q E h => ?_) (fun cdv A outer s H vs Q E hr h => ?_)
  · obtain ⟨a, es, rfl, _⟩ := h
    rfl
  · obtain ⟨a, es, rfl, ⟨ps, hps, hpr⟩, hsh, hlen, kS, kN⟩ := h
    have hu := hu_of hr
    have hr1 : Room 1 _ := hr.mono (by decide)
    have hr2 : Room 2 _ := hr.mono (by decide)
    refine ⟨_, pss_cons (ps_asg (pe_tup (pa_cons pe_dnewK (pa_cons (pe_lst pa_nil) pa_nil))) (pg_tup rfl (pgs_cons (pg_name (i := 1) scU.nd rfl (Or.inr rfl)) (pgs_cons (pg_name (i := 2) scU.nd rfl (Or.inl rfl)) pgs_nil))))
      (pss_cons (ps_for (passes_of rfl) rfl (pi_enumT (by rfl) B.enm (pa_cons (pv 0) pa_nil))
          (pg_tup rfl (pgs_cons (pg_name (i := 3) scU.nd rfl (Or.inl rfl)) (pgs_cons (pg_tup rfl (pgs_cons (pg_name (i := 4) scU.nd rfl (Or.inl rfl)) (pgs_cons (pg_name (i := 5) scU.nd rfl (Or.inl rfl)) pgs_nil))) pgs_nil)))
        (pss_cons (ps_expr (pe_bm PySem.F.plainAttrs_list PySem.F.slot_list_extend PySem.F.type_list_extend mt_extend (pv 2) (pa_cons (pe_lst (pa_cons (pv 4) (pa_cons (pv 5) pa_nil))) pa_nil)))
        (pss_cons (ps_asg (pe_call GO hr2 rfl DO.g DO.k DO.b .nil pass0 (pa_cons (pe_call GL hr1 rfl DL.g DL.k DL.b .nil pass0 (pa_cons (pv 1) (pa_cons (pv 4) pa_nil))) (pa_cons (pe_call GL hr1 rfl DL.g DL.k DL.b .nil pass0 (pa_cons (pv 1) (pa_cons (pv 5) pa_nil))) pa_nil)))
            (pg_tup rfl (pgs_cons (pg_name (i := 6) scU.nd rfl (Or.inl rfl)) (pgs_cons (pg_name (i := 7) scU.nd rfl (Or.inl rfl)) pgs_nil))))
        (pss_one (ps_if (pt_cmpR op_ne (pv 6) (pv 7) (nomark _))
          (pss_cons (ps_if (pt_not (pt_val (pe_call GF hr1 rfl DF.g DF.k DF.b .nil pass0 (pa_cons (pv 7) pa_nil))))
              (pss_one (ps_raise rfl (takes_of rfl rfl rfl rfl) (pmk_oex X.ox X.iC X.tI GI hr2 X.b .nil pass0 rfl X.gC (pa_cons (pv 3) pa_nil)))) pss_nil)
          (pss_one (ps_dput hu (pv 1) (pv 7) (pv 6) rfl))) pss_nil)))))
      (pss_one (ps_ret (pe_callTy call_tuple_of (by rfl) B.tup (by decide +kernel) (pa_cons
        (pe_lc (own := [("variable", 8)]) (g := gName 8) rfl scU.nd (pi_tup (pe_call GV hr2 rfl DV.g DV.k DV.b .nil pass0 (pa_cons (pv 2) pa_nil)))
          (blkOk_by (N := ["equations", "table", "terms", "place", "one", "other", "first", "further", "variable"]) (sc := defScope sUnified) (by decide +kernel)) (fun _ _ _ _ _ => pg_name (i := 8) scU.nd rfl (Or.inl rfl))
          (fun _ _ _ _ _ => pts_nil) (fun _ _ _ _ _ => pe_tup (pa_cons (pv 8) (pa_cons (pe_call GL hr1 rfl DL.g DL.k DL.b .nil pass0 (pa_cons (pv 1) (pa_cons (pv 8) pa_nil))) pa_nil)))) pa_nil))))), ?_⟩
    refine fun t ht => ⟨Nat.zero_le _, fun l hl => ⟨two_line, fun T0 hT0 => ?_⟩⟩
    have lt : l ≠ t := fun z => by rw [z, upd_same] at hl; cases hl
    have hl0 : H l = none := by rw [upd_ne lt] at hl; exact hl
    have s1 : Same H (upd H t (.dK [])) := same_put (Same.refl H) ht
    have s2 : Same H (upd (upd H t (.dK [])) l (.lst [])) := same_put s1 hl0
    have hT : H T0 = none := s2.free hT0
    have s3 := same_put (o := .tup [.ref t, .ref l]) s2 hT
    have T0t : t ≠ T0 := fun z => by rw [← z, upd_ne lt.symm, upd_same] at hT0; cases hT0
    have T0l : l ≠ T0 := fun z => by rw [← z, upd_same] at hT0; cases hT0
    refine ⟨T0, _, rfl, SqT.of upd_same, rfl, _, _, rfl, _, _, rfl, rfl, ?_⟩
    refine ⟨_, rfl, a, ps.map V.ref, rfl, SqT.of (s3 _ _ hps), for_enumT (K := K) (a := a) (xs := ps.map V.ref) (fun i σ H' => ∃ (y3 y4 y5 y6 y7 : Option V) (kvs : List (Key × V)) (fl : Key → Key) (d : Key → Nat),
        σ = [some (.ref a), some (.ref t), some (.ref l), y3, y4, y5, y6, y7, none] ∧ Same H H' ∧ H' t = some (.dK kvs) ∧ H' l = some (.lst ((terms (es.take i)).map kV)) ∧ unif (es.take i) = some fl ∧ Tab kvs fl d ∧ kvs.length ≤ i)
      ⟨none, none, none, none, none, [], id, fun _ => 0, rfl, s3, by rw [upd_ne T0t, upd_ne lt.symm, upd_same], by rw [upd_ne T0l, upd_same]; rfl, rfl, ⟨fun _ _ => rfl, fun _ _ e => by cases e⟩, Nat.le_refl _⟩
      (fun i σ H' _ ⟨_, _, _, _, _, _, _, _, _, s, _⟩ => SqT.of (s _ _ hps)) ?_ ?_⟩
    · rintro i x T σ H' hx ⟨y3, y4, y5, y6, y7, kvs, fl, d, rfl, s, hkt, hkl, hun, TB, hkn⟩ hT
      rw [List.getElem?_map] at hx
      cases epi : ps[i]? with
      | none => rw [epi] at hx; cases hx
      | some p =>
        rw [epi] at hx
        have ex : V.ref p = x := Option.some.inj hx
        subst ex
        obtain ⟨e, ee, hpe⟩ := paired_at hpr epi
        have G := unif_good hun
        have hTn : H T = none := s.free hT
        have Tt : t ≠ T := ne_of_none hkt hT
        have Tl : l ≠ T := ne_of_none hkl hT
        have sa := same_put (o := .tup [.int (i : Nat), .ref p]) s hTn
        have m1 : e.1 ∈ terms es := mem_terms.mpr ⟨e, List.mem_of_getElem? ee, .inl rfl⟩
        have m2 : e.2 ∈ terms es := mem_terms.mpr ⟨e, List.mem_of_getElem? ee, .inr rfl⟩
        have hil : i < es.length := (List.getElem?_eq_some_iff.mp ee).1
        have tlen : (terms (es.take i)).length ≤ 4000 := by
          rw [terms_len, List.length_take]
          omega
        refine ⟨T, _, rfl, SqT.of upd_same, rfl, _, _, rfl, _, _, rfl, p, _, rfl, SqT.of (sa _ _ hpe), rfl, _, _, rfl, _, _, rfl, rfl, rfl, ?_⟩
        -- terms.extend([one, other])
        have kl1 : (upd H' T (.tup [.int (i : Nat), .ref p])) l = some (.lst ((terms (es.take i)).map kV)) := by rw [upd_ne Tl]; exact hkl
        refine ⟨_, rfl, .inl ⟨rfl, _, SqL.of kl1⟩, _, rfl, _, rfl, two_line, fun b hb => ?_⟩
        have hbn : H b = none := sa.free hb
        have bl : l ≠ b := ne_of_none kl1 hb
        have kt1 : (upd H' T (.tup [.int (i : Nat), .ref p])) t = some (.dK kvs) := by rw [upd_ne Tt]; exact hkt
        have bt : t ≠ b := ne_of_none kt1 hb
        refine ⟨l, b, _, _, rfl, rfl, by rw [upd_ne bl]; exact kl1, upd_same, ?_, ?_⟩
        · rw [List.length_map]
          exact Nat.le_trans (Nat.add_le_add_right tlen 2) (by decide)
        -- leaders
        have sb := same_put (o := .lst [kV e.1, kV e.2]) sa hbn
        have sc := same_put (o := .lst ((terms (es.take i)).map kV ++ [kV e.1, kV e.2])) sb hl0
        refine ⟨_, rfl, _, rfl, t, e.1, kvs, fl, d, rfl, by rw [upd_ne lt.symm, upd_ne bt]; exact kt1, TB, by omega, fun kvs1 T1 n1 => ?_⟩
        refine ⟨_, rfl, _, rfl, t, e.2, kvs1, fl, d, rfl, upd_same, T1, by omega, fun kvs2 T2 n2 => ?_⟩
        rw [upd_upd]
        have sd := same_put (o := .dK kvs2) sc ht
        refine ⟨fl e.1, fl e.2, rfl, sh_leader G hsh m1, sh_leader G hsh m2, fun q hq => ?_⟩
        have hqn : H q = none := sd.free hq
        have se := same_put (o := .tup [kV (ord2 (fl e.1) (fl e.2)).1, kV (ord2 (fl e.1) (fl e.2)).2]) sd hqn
        have qt : t ≠ q := ne_of_none upd_same hq
        have ql : l ≠ q := fun z => by rw [← z, upd_ne lt, upd_same] at hq; cases hq
        refine ⟨q, _, rfl, SqT.of upd_same, rfl, _, _, rfl, _, _, rfl, rfl, ?_⟩
        refine ⟨_, rfl, _, rfl, kV_scal _ _, _, rfl, ?_⟩
        rw [kV_dec]
        have hf1 : fl (ord2 (fl e.1) (fl e.2)).1 = (ord2 (fl e.1) (fl e.2)).1 := by
          rcases ord2_two (fl e.1) (fl e.2) with ⟨z, _⟩ | ⟨z, _⟩ <;> rw [z] <;> exact G.idem _
        have hf2 : fl (ord2 (fl e.1) (fl e.2)).2 = (ord2 (fl e.1) (fl e.2)).2 := by
          rcases ord2_two (fl e.1) (fl e.2) with ⟨_, z⟩ | ⟨_, z⟩ <;> rw [z] <;> exact G.idem _
        have sh2 : Sh (ord2 (fl e.1) (fl e.2)).2 := by
          rcases ord2_two (fl e.1) (fl e.2) with ⟨_, z⟩ | ⟨_, z⟩ <;> rw [z]
          · exact sh_leader G hsh m2
          · exact sh_leader G hsh m1
        have ut := unif_take ee
        rw [hun] at ut
        have ut : unif (es.take (i + 1)) = step fl e := ut
        have tt := terms_take ee
        unfold step at ut
        generalize ord2 (fl e.1) (fl e.2) = pq at hf1 hf2 sh2 ut se hq ⊢
        obtain ⟨pp, qq⟩ := pq
        dsimp only at hf1 hf2 sh2 ut se hq ⊢
        have kl2 : (upd (upd (upd (upd (upd H' T (.tup [.int (i : Nat), .ref p])) b (.lst [kV e.1, kV e.2])) l (.lst ((terms (es.take i)).map kV ++ [kV e.1, kV e.2]))) t (.dK kvs2)) q (.tup [kV pp, kV qq])) l = some (.lst ((terms (es.take (i + 1))).map kV)) := by
          rw [upd_ne ql, upd_ne lt, upd_same, tt, List.map_append]
          rfl
        have kt2 : (upd (upd (upd (upd (upd H' T (.tup [.int (i : Nat), .ref p])) b (.lst [kV e.1, kV e.2])) l (.lst ((terms (es.take i)).map kV ++ [kV e.1, kV e.2]))) t (.dK kvs2)) q (.tup [kV pp, kV qq])) t = some (.dK kvs2) := by
          rw [upd_ne qt, upd_same]
        by_cases epq : pp = qq
        · rw [if_pos epq] at ut
          rw [decide_eq_true epq]
          refine iteF ⟨_, _, _, _, _, kvs2, fl, d, rfl, se, kt2, kl2, ut, T2, by omega⟩
        · rw [if_neg epq] at ut
          rw [decide_eq_false epq]
          refine iteT ?_
          refine ⟨_, rfl, qq, rfl, sh2, _, rfl, ?_⟩
          cases vq : isVar qq with
          | false =>
            rw [vq, if_neg Bool.false_ne_true] at ut
            refine iteT ?_
            have none' : told es = none := told_none (unif_none_take ut)
            refine ⟨_, rfl, (by show 1 ≤ 1000; decide), fun ax hax => ?_⟩
            have haxn : H ax = none := se.free hax
            refine ⟨ax, _, rfl, upd_same, fun dx hdx ndx => ⟨rfl, dx, _, upd_same, by rw [upd_ne ndx, upd_same], by rw [upd_ne ndx] at hdx; exact hdx, ?_⟩⟩
            have hdxn : H dx = none := by rw [upd_ne ndx] at hdx; exact se.free hdx
            refine kN none' _ _ fun c o ec => ?_
            rw [upd_ne (ne_of_none ec hdxn), del_ne (ne_of_none ec haxn), upd_ne (ne_of_none ec haxn), upd_ne (ne_of_none ec hdxn), upd_ne (ne_of_none ec haxn)]
            exact se c o ec
          | true =>
            rw [vq, if_pos rfl] at ut
            refine iteF ?_
            refine ⟨_, rfl, _, rfl, _, rfl, t, _, rfl, DPut.k (k := qq) kt2 (Nat.lt_of_le_of_lt (show kvs2.length ≤ 10000 by omega) (by decide)), ?_⟩
            refine ⟨_, _, _, _, _, _, _, _, rfl, same_put se ht, upd_same, by rw [upd_ne lt]; exact kl2, ut, T2.join hf1 hf2 epq, ?_⟩
            exact Nat.le_trans (length_putK _ _ _) (by omega)
    · rintro σ H' ⟨y3, y4, y5, y6, y7, kvs, fl, d, rfl, s, hkt, hkl, hun, TB, hkn⟩
      have lps : ps.length = es.length := Paired.length hpr
      rw [List.length_map, lps, List.take_length] at hkl hun
      rw [List.length_map, lps] at hkn
      have G := unif_good hun
      have ht' : told es = some (tell fl (vars es)) := told_tell hun
      refine ⟨_, rfl, l, terms es, rfl, SqL.of hkl, hsh, by rw [terms_len]; omega, fun H1 vp s1 hvp hv => ?_⟩
      refine ⟨vp, rfl, ⟨_, SqT.of hv⟩, fun D hD => ?_⟩
      have hvpn : H vp = none := s.free hvp
      have Dvp : vp ≠ D := ne_of_none hv hD
      have Dt : t ≠ D := ne_of_none (s1 _ _ hkt) hD
      have hDn : H D = none := (s.trans s1).free hD
      refine lc_tup (K := K) (a := vp) (xs := (vars es).map V.str) (fun j H2 => ∃ (qs : List Addr) (kvs2 : List (Key × V)), H2 D = some (.lst (qs.map V.ref)) ∧ PairsAt K H2 qs ((tell fl (vars es)).take j) ∧ Same H H2 ∧ H2 vp = some (.tup ((vars es).map V.str)) ∧ H2 t = some (.dK kvs2) ∧ Tab kvs2 fl d ∧ kvs2.length = kvs.length)
        ⟨[], kvs, upd_same, .nil, same_put (s.trans s1) hDn, by rw [upd_ne Dvp]; exact hv, by rw [upd_ne Dt]; exact s1 _ _ hkt, TB, rfl⟩ (fun j H2 _ ⟨_, _, _, _, _, z, _⟩ => SqT.of z) ?_ ?_
      · rintro j x H2 hx ⟨qs, kvs2, h1, h2, h3, h4, h5, h6, h7⟩
        rw [List.getElem?_map] at hx
        cases ev : (vars es)[j]? with
        | none => rw [ev] at hx; cases hx
        | some v =>
          rw [ev] at hx
          have ex : V.str v = x := Option.some.inj hx
          subst ex
          have lq : qs.length = min j (tell fl (vars es)).length := by rw [Paired.length h2, List.length_take]
          have tD : D ≠ t := ne_of h1 h5 (by intro z; cases z)
          have vD : D ≠ vp := ne_of h1 h4 (by intro z; cases z)
          have tv : vp ≠ t := ne_of h4 h5 (by intro z; cases z)
          refine ⟨rfl, ?_⟩
          refine ⟨_, rfl, _, rfl, _, rfl, t, .inr v, kvs2, fl, d, rfl, h5, h6, by omega, fun kvs3 T3 n3 => ?_⟩
          refine ⟨two_line, fun u hu => ?_⟩
          have uD : D ≠ u := fun z => by rw [← z, upd_ne tD, h1] at hu; cases hu
          have uv : vp ≠ u := fun z => by rw [← z, upd_ne tv, h4] at hu; cases hu
          have ut : t ≠ u := ne_of_none upd_same hu
          have hun' : H u = none := (same_put h3 ht).free hu
          have et : (tell fl (vars es)).take (j + 1) = (tell fl (vars es)).take j ++ [(.inr v, fl (.inr v))] := by
            rw [List.take_add_one]
            unfold tell
            rw [List.getElem?_map, ev]
            rfl
          have hjl : j < (vars es).length := (List.getElem?_eq_some_iff.mp ev).1
          have small : (qs.map V.ref).length < sizeLine := by
            rw [List.length_map, lq]
            have z : (vars es).length ≤ (terms es).length := by
              have nd := asc_nodup (asc_vars (terms es))
              have z2 : ∀ (l : List Key), (varsOf l).length ≤ l.length := by
                intro l
                induction l with
                | nil => exact Nat.le_refl _
                | cons k r ih =>
                  cases k with
                  | inl i => exact Nat.le_trans ih (Nat.le_succ _)
                  | inr s =>
                    show (if isVar (.inr s) = true then ins s (varsOf r) else varsOf r).length ≤ _
                    have li : ∀ (x : Str) (l : List Str), (ins x l).length ≤ l.length + 1 := by
                      intro x l
                      induction l with
                      | nil => exact Nat.le_refl _
                      | cons y r ih =>
                        unfold ins
                        split
                        · exact Nat.le_succ _
                        · split
                          · exact Nat.le_refl _
                          · exact Nat.succ_le_succ ih
                    split
                    · exact Nat.le_trans (li _ _) (Nat.succ_le_succ ih)
                    · exact Nat.le_trans ih (Nat.le_succ _)
              exact z2 _
            rw [terms_len] at z
            exact Nat.lt_of_le_of_lt (show min j _ ≤ 4000 by omega) (by decide)
          have big : PairsAt K (upd (upd (upd H2 t (.dK kvs3)) u (.tup [.str v, kV (fl (.inr v))])) D (.lst (qs.map V.ref ++ [.ref u]))) (qs ++ [u]) ((tell fl (vars es)).take (j + 1)) := by
            rw [et]
            have up : ∀ p xs, H2 p = some (.tup xs) → (upd (upd (upd H2 t (.dK kvs3)) u (.tup [.str v, kV (fl (.inr v))])) D (.lst (qs.map V.ref ++ [.ref u]))) p = some (.tup xs) := fun p xs hp => by
              have a1 : p ≠ D := ne_of hp h1 (by intro z; cases z)
              have a2 : p ≠ t := ne_of hp h5 (by intro z; cases z)
              have a3 : p ≠ u := fun z => by rw [← z, upd_ne a2, hp] at hu; cases hu
              rw [upd_ne a1, upd_ne a3, upd_ne a2]
              exact hp
            exact paired_snoc (R := fun (p : Addr) (e : Key × Key) => _ = some (HO.tup [kV e.1, kV e.2])) (by rw [upd_ne uD.symm, upd_same]; rfl) (h2.tups up)
          refine ⟨_, by rw [upd_ne uD, upd_ne tD]; exact h1, small, qs ++ [u], kvs3, ?_, big, same_put (same_put (same_put h3 ht) hun') hDn, ?_, ?_, T3, by omega⟩
          · rw [upd_same, List.map_append]; rfl
          · rw [upd_ne vD.symm, upd_ne uv, upd_ne tv]; exact h4
          · rw [upd_ne tD.symm, upd_ne ut, upd_same]
      · rintro H2 ⟨qs, kvs2, h1, h2, h3, h4, h5, h6, h7⟩
        refine ⟨D, _, rfl, .inl ⟨SqL.of h1, fun r hr => ?_⟩⟩
        rw [List.length_map, List.take_of_length_le (by unfold tell; rw [List.length_map]; exact Nat.le_refl _)] at h2
        exact kS _ ht' _ r (same_put h3 (h3.free hr)) (h3.free hr) ⟨qs, upd_same, h2.tups (sameTups (same_upd hr))⟩
end
end U6
set_option Elab.async false
set_option linter.all false
set_option maxRecDepth 100000
set_option maxHeartbeats 4000000
/-! Data: terms, lists of terms, pairs; their ==. -/
namespace U6
open PySem PySem.Spec PyProof.Rows L2
def dk : Key → PyData
  | .inl i => .int i
  | .inr s => .str s
/-- a term of the law: small -/
def Tm : Key → Prop
  | .inl i => i.natAbs ≤ 10 ^ 9
  | .inr z => z.length ≤ 100 ∧ PyData.strOk z = true
theorem Tm.sh {t : Key} (h : Tm t) : Sh t := fun z e => by
  subst e
  exact Nat.le_trans h.1 (by decide)
theorem dp_key {K : PySem.W.Frag} {H : Hp} (k : Key) : Dp K H (kV k) (dk k) := by
  cases k with
  | inl i => exact .int i
  | inr s => exact .str s
theorem dpAll_keys {K : PySem.W.Frag} {H : Hp} : ∀ l : List Key, DpAll K H (l.map kV) (l.map dk)
  | [] => .nil
  | k :: l => .cons (dp_key k) (dpAll_keys l)
theorem dpAll_of {K : PySem.W.Frag} {H : Hp} {α β : Type} {R : α → β → Prop} {f : α → V} {g : β → PyData} (h : ∀ a b, R a b → Dp K H (f a) (g b)) : ∀ {l : List α} {m : List β}, Paired R l m → DpAll K H (l.map f) (m.map g)
  | _, _, .nil => .nil
  | _, _, .cons r t => .cons (h _ _ r) (dpAll_of h t)
theorem dp_keysL {K : PySem.W.Frag} {H : Hp} {a : Addr} {l : List Key} (h : SqL K H a (l.map kV)) : Dp K H (.ref a) (.list (l.map dk)) := .lst h (dpAll_keys l)
theorem dp_keysT {K : PySem.W.Frag} {H : Hp} {a : Addr} {l : List Key} (h : SqT K H a (l.map kV)) : Dp K H (.ref a) (.tuple (l.map dk)) := .tup h (dpAll_keys l)
theorem eqv_key (a b : Key) : PyData.eqv (dk a) (dk b) = decide (a = b) := by
  cases a with
  | inl i =>
    cases b with
    | inl j =>
      show PyData.eqv (.int i) (.int j) = _
      rw [PyData.eqv]
      by_cases e : i = j
      · subst e; simp
      · rw [decide_eq_false fun z => e (Sum.inl.inj z)]; simpa using e
    | inr s =>
      show PyData.eqv (.int i) (.str s) = _
      rw [PyData.eqv]
      simp
  | inr x =>
    cases b with
    | inl j =>
      show PyData.eqv (.str x) (.int j) = _
      rw [PyData.eqv]
      simp
    | inr y =>
      show PyData.eqv (.str x) (.str y) = _
      rw [PyData.eqv]
      by_cases e : x = y
      · subst e; simp
      · rw [decide_eq_false fun z => e (Sum.inr.inj z)]; simpa using e
theorem eqvAll_keys : ∀ l m : List Key, PyData.eqvAll (l.map dk) (m.map dk) = decide (l = m)
  | [], [] => by simp [PyData.eqvAll]
  | [], b :: m => by simp [PyData.eqvAll]
  | a :: l, [] => by simp [PyData.eqvAll]
  | a :: l, b :: m => by
    show PyData.eqvAll (dk a :: l.map dk) (dk b :: m.map dk) = _
    rw [PyData.eqvAll, eqv_key, eqvAll_keys l m, ← Bool.decide_and]
    simp
theorem eqvL (xs ys : List PyData) : PyData.eqv (.list xs) (.list ys) = PyData.eqvAll xs ys := by rw [PyData.eqv]
theorem eqvT (xs ys : List PyData) : PyData.eqv (.tuple xs) (.tuple ys) = PyData.eqvAll xs ys := by rw [PyData.eqv]
theorem eqvAll_nil (xs : List PyData) : PyData.eqvAll xs [] = xs.isEmpty := by
  cases xs <;> simp [PyData.eqvAll]
theorem lay_key {t : Key} (h : Tm t) : (dk t).canLay0 = true ∧ (dk t).depth = 0 ∧ (dk t).showable = true := by
  cases t with
  | inl i =>
    refine ⟨by show PyData.canLay0 (.int i) = true; rw [PyData.canLay0], by show PyData.depth (.int i) = 0; rw [PyData.depth], ?_⟩
    show PyData.showable (.int i) = true
    rw [PyData.showable]
    refine decide_eq_true ?_
    have h' : i.natAbs ≤ 10 ^ 9 := h
    by_cases z : i.natAbs = 0
    · rw [z]; decide
    · exact Nat.lt_of_lt_of_le ((Nat.log2_lt z).mpr (Nat.lt_of_le_of_lt h' (by decide : 10 ^ 9 < 2 ^ 30))) (by decide)
  | inr s =>
    refine ⟨?_, by show PyData.depth (.str s) = 0; rw [PyData.depth], by show PyData.showable (.str s) = true; rw [PyData.showable]⟩
    show PyData.canLay0 (.str s) = true
    rw [PyData.canLay0]
    exact h.2
/-- a list of data, each laid, no deeper than n -/
theorem lay_all {α : Type} {g : α → PyData} {n : Nat} : ∀ {l : List α}, (∀ x ∈ l, (g x).canLay0 = true ∧ (g x).depth ≤ n ∧ (g x).showable = true) → PyData.canLayAll0 (l.map g) = true ∧ PyData.depthAll (l.map g) ≤ n ∧ PyData.showableAll (l.map g) = true
  | [], _ => by
    show PyData.canLayAll0 [] = true ∧ PyData.depthAll [] ≤ n ∧ PyData.showableAll [] = true
    rw [PyData.canLayAll0, PyData.depthAll, PyData.showableAll]
    exact ⟨rfl, Nat.zero_le _, rfl⟩
  | a :: l, h => by
    obtain ⟨h1, h2, h3⟩ := h a List.mem_cons_self
    obtain ⟨g1, g2, g3⟩ := lay_all (g := g) (n := n) (l := l) fun x hx => h x (List.mem_cons_of_mem _ hx)
    show PyData.canLayAll0 (g a :: l.map g) = true ∧ PyData.depthAll (g a :: l.map g) ≤ n ∧ PyData.showableAll (g a :: l.map g) = true
    rw [PyData.canLayAll0, PyData.depthAll, PyData.showableAll, h1, h3, g1, g3]
    exact ⟨rfl, Nat.max_le.mpr ⟨h2, g2⟩, rfl⟩
theorem shaped_L {xs : List PyData} (h : PyData.canLayAll0 xs = true) (d : PyData.depthAll xs ≤ 63) : SeqAt.shaped (.list xs) = true := by
  unfold SeqAt.shaped
  rw [PyData.canLay0, PyData.depth, h]
  exact decide_eq_true (Nat.succ_le_succ d)
theorem shaped_T {xs : List PyData} (h : PyData.canLayAll0 xs = true) (d : PyData.depthAll xs ≤ 63) : SeqAt.shaped (.tuple xs) = true := by
  unfold SeqAt.shaped
  rw [PyData.canLay0, PyData.depth, h]
  exact decide_eq_true (Nat.succ_le_succ d)
theorem lay_keys {l : List Key} (h : ∀ t ∈ l, Tm t) : PyData.canLayAll0 (l.map dk) = true ∧ PyData.depthAll (l.map dk) ≤ 0 ∧ PyData.showableAll (l.map dk) = true :=
  lay_all fun x hx => ⟨(lay_key (h x hx)).1, Nat.le_of_eq (lay_key (h x hx)).2.1, (lay_key (h x hx)).2.2⟩
theorem shaped_keysL {l : List Key} (h : ∀ t ∈ l, Tm t) : SeqAt.shaped (.list (l.map dk)) = true := shaped_L (lay_keys h).1 (Nat.le_trans (lay_keys h).2.1 (by decide))
theorem shaped_keysT {l : List Key} (h : ∀ t ∈ l, Tm t) : SeqAt.shaped (.tuple (l.map dk)) = true := shaped_T (lay_keys h).1 (Nat.le_trans (lay_keys h).2.1 (by decide))
theorem shaped_nilL : SeqAt.shaped (.list []) = true := shaped_keysL (l := []) fun _ h => nomatch h
/-- ints, as they stand in the purse: == to a list of ints -/
theorem dp_ints {K : PySem.W.Frag} {H : Hp} {a : Addr} {l : List Int} (h : SqL K H a (l.map V.int)) : Dp K H (.ref a) (.list (l.map PyData.int)) :=
  .lst h (by
    clear h
    induction l with
    | nil => exact .nil
    | cons i l ih => exact .cons (.int i) ih)
theorem shaped_ints (l : List Int) : SeqAt.shaped (.list (l.map PyData.int)) = true := by
  have h := lay_all (g := PyData.int) (n := 0) (l := l)
  refine shaped_L ?_ ?_
  · clear h
    induction l with
    | nil => show PyData.canLayAll0 [] = true; rw [PyData.canLayAll0]
    | cons i l ih =>
      show PyData.canLayAll0 (.int i :: l.map PyData.int) = true
      rw [PyData.canLayAll0, ih, PyData.canLay0] <;> rfl
  · clear h
    induction l with
    | nil => show PyData.depthAll [] ≤ 63; rw [PyData.depthAll]; decide
    | cons i l ih =>
      show PyData.depthAll (.int i :: l.map PyData.int) ≤ 63
      rw [PyData.depthAll, PyData.depth]
      omega
end U6
set_option Elab.async false
set_option linter.all false
set_option maxRecDepth 100000
set_option maxHeartbeats 8000000
/-! _law_purse, _law_draw, _law_pick. -/
namespace U6
open PySem PySem.Spec PyProof.Rows L2
/-- the purse at pu, its list of great numbers at g -/
def PurseAt (H : Hp) (pu g c : Addr) : Prop := ∃ (S n : Int) (great cells : List Int), H pu = some (.lst [.ref g, .ref c, .int S, .int n]) ∧ H g = some (.lst (great.map V.int)) ∧ H c = some (.lst (cells.map V.int)) ∧ cells ≠ [] ∧ cells.length ≤ 64 ∧ great.length ≤ 64 ∧ c ≠ g
/-- all but the purse stays -/
def Kp (pu g : Addr) (H H' : Hp) : Prop := ∀ b o, b ≠ pu → b ≠ g → H b = some o → H' b = some o
theorem Kp.refl (pu g : Addr) (H : Hp) : Kp pu g H H := fun _ _ _ _ h => h
theorem Kp.trans {pu g : Addr} {H H1 H2 : Hp} (a : Kp pu g H H1) (b : Kp pu g H1 H2) : Kp pu g H H2 := fun x o n1 n2 h => b x o n1 n2 (a x o n1 n2 h)
theorem Kp.same {pu g : Addr} {H H1 H2 : Hp} (a : Kp pu g H H1) (b : Same H1 H2) : Kp pu g H H2 := fun x o n1 n2 h => b x o (a x o n1 n2 h)
theorem Kp.of {pu g : Addr} {H H1 : Hp} (b : Same H H1) : Kp pu g H H1 := fun x o _ _ h => b x o h
/-- what was free and was laid or changed -/
theorem Kp.put {pu g : Addr} {H H' : Hp} {x : Addr} {o : HO} (s : Kp pu g H H') (h : H x = none) : Kp pu g H (upd H' x o) := fun b u n1 n2 e => by
  rw [upd_ne (ne_of_none e h)]
  exact s b u n1 n2 e
theorem PurseAt.notNone {H : Hp} {pu g c : Addr} (p : PurseAt H pu g c) {x : Addr} (h : H x = none) : x ≠ pu ∧ x ≠ g ∧ x ≠ c := by
  obtain ⟨S, n, great, cells, h1, h2, h3, _⟩ := p
  exact ⟨fun z => (by rw [z, h1] at h; cases h), fun z => (by rw [z, h2] at h; cases h), fun z => (by rw [z, h3] at h; cases h)⟩
theorem PurseAt.put {H : Hp} {pu g c x : Addr} {o : HO} (p : PurseAt H pu g c) (h : x ≠ pu ∧ x ≠ g ∧ x ≠ c) : PurseAt (upd H x o) pu g c := by
  obtain ⟨S, n, great, cells, h1, h2, h3, r⟩ := p
  exact ⟨S, n, great, cells, by rw [upd_ne h.1.symm]; exact h1, by rw [upd_ne h.2.1.symm]; exact h2, by rw [upd_ne h.2.2.symm]; exact h3, r⟩
theorem PurseAt.same {H H' : Hp} {pu g c : Addr} (p : PurseAt H pu g c) (s : Same H H') : PurseAt H' pu g c := by
  obtain ⟨S, n, great, cells, h1, h2, h3, r⟩ := p
  exact ⟨S, n, great, cells, s _ _ h1, s _ _ h2, s _ _ h3, r⟩
theorem PurseAt.cne {H : Hp} {pu g c : Addr} (p : PurseAt H pu g c) : g ≠ pu ∧ c ≠ pu ∧ c ≠ g := by
  obtain ⟨S, n, great, cells, h1, h2, h3, ne, _, _, h4⟩ := p
  refine ⟨fun z => ?_, fun z => ?_, h4⟩
  · rw [z, h1] at h2
    cases great with
    | nil => cases h2
    | cons x l => cases h2
  · rw [z, h1] at h3
    cases cells with
    | nil => exact ne rfl
    | cons x l => cases h3
/-- the purse stands and all else is as it was -/
structure Ku (pu g c : Addr) (H H' : Hp) : Prop where
  p0 : PurseAt H pu g c
  p : PurseAt H' pu g c
  k : Kp pu g H H'
theorem Ku.refl {pu g c : Addr} {H : Hp} (p : PurseAt H pu g c) : Ku pu g c H H := ⟨p, p, Kp.refl _ _ _⟩
theorem Ku.trans {pu g c : Addr} {H H1 H2 : Hp} (a : Ku pu g c H H1) (b : Ku pu g c H1 H2) : Ku pu g c H H2 := ⟨a.p0, b.p, a.k.trans b.k⟩
theorem Ku.free {pu g c : Addr} {H H' : Hp} (a : Ku pu g c H H') {x : Addr} (h : H' x = none) : H x = none := by
  cases e : H x with
  | none => rfl
  | some o =>
    obtain ⟨n1, n2, _⟩ := a.p.notNone h
    rw [a.k x o n1 n2 e] at h
    cases h
theorem Ku.put {pu g c : Addr} {H H' : Hp} {x : Addr} {o : HO} (a : Ku pu g c H H') (h : H x = none) : Ku pu g c H (upd H' x o) := ⟨a.p0, a.p.put (a.p0.notNone h), a.k.put h⟩
theorem Ku.new {pu g c : Addr} {H H' : Hp} {x : Addr} {o : HO} (a : Ku pu g c H H') (h : H' x = none) : Ku pu g c H (upd H' x o) := a.put (a.free h)
theorem Ku.same {pu g c : Addr} {H H1 H2 : Hp} (a : Ku pu g c H H1) (b : Same H1 H2) : Ku pu g c H H2 := ⟨a.p0, a.p.same b, a.k.same b⟩
/-- what a draw leaves of an object that is not the purse's -/
theorem Ku.at {pu g c : Addr} {H H' : Hp} (a : Ku pu g c H H') {x : Addr} {o : HO} (h : H x = some o) (n1 : x ≠ pu) (n2 : x ≠ g) : H' x = some o := a.k x o n1 n2 h
section
variable {P : Program} {w : World} {K : PySem.W.Frag} {mg : Str → Option Value} {base : Heap}
/-! ### _law_purse -/
def spPurse (K : PySem.W.Frag) : Sp := fun vs H Q _ => ∃ (a : Addr) (ns : List Int), vs = [.ref a] ∧ SqL K H a (ns.map V.int) ∧ ∀ H' pu g c, Same H H' → H pu = none → H g = none → H c = none → PurseAt H' pu g c → Q (.ref pu) H'
theorem scPu : FnScope ["_law_script", "_law_cells", "_law_cell"] ["_law_script"] (defScope sPurse) := ⟨rfl, rfl, rfl, by decide +kernel, rfl, by decide +kernel, by decide +kernel⟩
def cellOf (c : Int) : Int := if 0 ≤ c then 2 * c else -2 * c - 1
theorem ok_purse {f : Addr} {fd : FuncData} (D : Df K mg "_law_purse" sPurse ["_law_script"] f fd) (B : Bl mg) : FnOk P w K mg base CX0 1 f fd ["_law_script"] (spPurse K) := by
  refine D.F.ok scPu (fun vs H Q E h => ?_) (fun cdv A outer s H vs Q E hr h => ?_)
  · obtain ⟨a, ns, rfl, _⟩ := h
    rfl
  · obtain ⟨a, ns, rfl, ha, k⟩ := h
    refine ⟨_, pss_cons (ps_setLc (i := 1) (own := [("_law_cell", 2)]) (g := gName 2) rfl scPu.nd rfl rfl rfl (pi_list (pe_slice sl_list (pv 0) po_none (po_some pe_int)))
          (blkOk_by (N := ["_law_script", "_law_cells", "_law_cell"]) (sc := defScope sPurse) (by decide +kernel)) (fun _ _ _ _ _ => pg_name (i := 2) scPu.nd rfl (Or.inl rfl)) (fun _ _ _ _ _ => pts_nil)
          (fun _ _ _ _ _ => pe_ifExp (pt_cmpR op_ge (pv 2) pe_int (nomark _)) (pe_op op_mul pe_int (pv 2)) (pe_op op_sub (pe_op op_mul (pe_un un_neg pe_int) (pv 2)) pe_int)))
      (pss_one (ps_ret (pe_lst (pa_cons (pe_lc (own := [("_law_cell", 2)]) (g := gName 2) rfl scPu.nd (pi_list (pv 1))
          (blkOk_by (N := ["_law_script", "_law_cells", "_law_cell"]) (sc := defScope sPurse) (by decide +kernel)) (fun _ _ _ _ _ => pg_name (i := 2) scPu.nd rfl (Or.inl rfl)) (fun _ _ _ _ _ => pts_one (pt_cmpR op_ge (pv 2) (pe_op op_pow pe_int pe_int) (nomark _)))
          (fun _ _ _ _ _ => pv 2)) (pa_cons (pe_op op_cat (pv 1) (pe_lst (pa_cons (pe_op op_add (pe_callB call_len_seq (by rfl) B.len PySem.boot_len (pa_cons (pv 1) pa_nil)) pe_int) pa_nil)))
          (pa_cons (pe_callB (cr_sum rfl) (by rfl) B.sum (by decide +kernel) (pa_cons (pv 1) pa_nil)) (pa_cons pe_int pa_nil))))))), ?_⟩
    obtain ⟨ms, ems, hms⟩ : ∃ ms : List Int, cutV (ns.map V.int) none (some 63) = ms.map V.int ∧ ms.length ≤ 63 := by
      refine ⟨(ns.drop (HT.sIx (ns.map V.int).length 0 none)).take (HT.sIx (ns.map V.int).length (ns.map V.int).length (some 63) - HT.sIx (ns.map V.int).length 0 none), ?_, ?_⟩
      · unfold cutV
        rw [List.map_take, List.map_drop]
      · rw [List.length_take]
        refine Nat.le_trans (Nat.min_le_left _ _) (Nat.le_trans (Nat.sub_le _ _) ?_)
        exact Nat.le_trans (Nat.le_of_eq (HT.sIx_nat _ _ 63)) (Nat.min_le_left _ _)
    refine ⟨_, rfl, 63, rfl, a, _, rfl, ha, fun z hz => ⟨z, rfl, ⟨_, SqL.of upd_same⟩, fun D hD => ?_⟩⟩
    rw [ems]
    have s1 : Same H (upd H z (.lst (ms.map V.int))) := same_upd hz
    refine lc_list (K := K) (a := z) (xs := ms.map V.int) (fun i H' => H' D = some (.lst (((ms.take i).map cellOf).map V.int)) ∧ Same (upd H z (.lst (ms.map V.int))) H') ⟨by rw [upd_same]; rfl, same_upd (by rw [← ems]; exact hD)⟩ (fun i H' _ p => SqL.of (p.2 _ _ upd_same)) ?_ ?_
    · rintro i x H' hx ⟨h1, h2⟩
      rw [List.getElem?_map] at hx
      cases e : ms[i]? with
      | none => rw [e] at hx; cases hx
      | some c =>
        rw [e] at hx
        have ex : V.int c = x := Option.some.inj hx
        subst ex
        refine ⟨rfl, ?_⟩
        have lt : i < ms.length := (List.getElem?_eq_some_iff.mp e).1
        have put : ∃ acc, H' D = some (.lst acc) ∧ acc.length < sizeLine ∧ (upd H' D (.lst (acc ++ [V.int (cellOf c)]))) D = some (.lst (((ms.take (i + 1)).map cellOf).map V.int)) ∧ Same (upd H z (.lst (ms.map V.int))) (upd H' D (.lst (acc ++ [V.int (cellOf c)]))) := by
          refine ⟨_, h1, ?_, ?_, same_put h2 (by rw [← ems]; exact hD)⟩
          · rw [List.length_map, List.length_map, List.length_take]
            exact Nat.lt_of_le_of_lt (Nat.le_trans (Nat.min_le_right _ _) hms) (by decide)
          · rw [upd_same, List.take_add_one, e, List.map_append, List.map_append]
            rfl
        refine ⟨_, rfl, _, _, rfl, rfl, _, rfl, ?_⟩
        unfold cellOf at put
        refine ite2 (fun hc => ?_) (fun hc => ?_)
        · rw [if_pos (of_decide_eq_true hc)] at put
          exact ⟨_, rfl, _, _, rfl, rfl, .inl ⟨by decide, by decide⟩, put⟩
        · rw [if_neg (fun z => hc (decide_eq_true z))] at put
          exact ⟨_, rfl, _, rfl, _, _, rfl, rfl, .inl ⟨by decide, by decide⟩, _, _, rfl, rfl, put⟩
    · rintro H' ⟨h1, h2⟩
      rw [List.length_map, List.take_length] at h1
      generalize hcs : ms.map cellOf = cs at h1
      have lcs : cs.length ≤ 63 := by rw [← hcs, List.length_map]; exact hms
      have hD0 : H D = none := s1.free (by rw [← ems]; exact hD)
      have sH : Same H H' := s1.trans h2
      refine ⟨_, rfl, D, rfl, ⟨_, SqL.of h1⟩, fun G hG => ?_⟩
      refine lc_list (K := K) (a := D) (xs := cs.map V.int) (fun i H2 => H2 G = some (.lst (((cs.take i).filter fun x => decide ((10 : Int) ^ 18 ≤ x)).map V.int)) ∧ Same H' H2) ⟨by rw [upd_same]; rfl, same_upd hG⟩ (fun i H2 _ p => SqL.of (p.2 _ _ h1)) ?_ ?_
      · rintro i x H2 hx ⟨g1, g2⟩
        rw [List.getElem?_map] at hx
        cases e : cs[i]? with
        | none => rw [e] at hx; cases hx
        | some c =>
          rw [e] at hx
          have ex : V.int c = x := Option.some.inj hx
          subst ex
          refine ⟨rfl, ?_⟩
          refine ⟨_, rfl, _, _, rfl, rfl, ⟨by decide, by decide, by decide⟩, _, _, rfl, rfl, _, rfl, ?_⟩
          have tk : (cs.take (i + 1)).filter (fun x => decide ((10 : Int) ^ 18 ≤ x)) = (cs.take i).filter (fun x => decide ((10 : Int) ^ 18 ≤ x)) ++ if (10 : Int) ^ 18 ≤ c then [c] else [] := by
            rw [List.take_add_one, e, List.filter_append]
            congr 1
            by_cases z : (10 : Int) ^ 18 ≤ c
            · rw [if_pos z]; exact List.filter_cons_of_pos (by exact decide_eq_true z)
            · rw [if_neg z]; exact List.filter_cons_of_neg (by rw [decide_eq_false z]; exact Bool.false_ne_true)
          refine ite2 (fun hc' => ?_) (fun hc' => ?_)
          · have hc' := of_decide_eq_true hc'
            refine ⟨_, rfl, _, g1, ?_, ?_, same_put g2 hG⟩
            · rw [List.length_map]
              refine Nat.lt_of_le_of_lt (List.length_filter_le _ _) ?_
              rw [List.length_take]
              exact Nat.lt_of_le_of_lt (Nat.le_trans (Nat.min_le_right _ _) lcs) (by decide)
            · rw [upd_same, tk]
              rw [show (if (10 : Int) ^ 18 ≤ c then [c] else []) = [c] from if_pos hc', List.map_append]
              rfl
          · have hc' : ¬ (10 : Int) ^ 18 ≤ c := fun z => hc' (decide_eq_true z)
            rw [show (if (10 : Int) ^ 18 ≤ c then [c] else []) = [] from if_neg hc', List.append_nil] at tk
            rw [tk]
            exact ⟨g1, g2⟩
      · rintro H2 ⟨g1, g2⟩
        rw [List.length_map, List.take_length] at g1
        have d2 := g2 _ _ h1
        have GD : D ≠ G := ne_of_none h1 hG
        refine ⟨_, rfl, _, rfl, D, _, rfl, .inl (SqL.of d2), _, _, rfl, rfl, (show 1 ≤ sizeLine by decide), fun L hL => ?_⟩
        have LD : D ≠ L := ne_of_none d2 hL
        have LG : G ≠ L := ne_of_none g1 hL
        refine ⟨D, L, _, _, rfl, rfl, by rw [upd_ne LD]; exact d2, upd_same, ?_, fun c hc => ?_⟩
        · rw [List.length_map]
          exact Nat.le_trans (Nat.add_le_add_right lcs 1) (by decide)
        have d3 : (upd H2 L (.lst [V.int ((cs.map V.int).length + 8191)])) D = _ := (upd_ne LD).trans d2
        have cD : D ≠ c := ne_of_none d3 hc
        have cG : G ≠ c := ne_of_none ((upd_ne LG).trans g1) hc
        refine ⟨_, rfl, D, cs, rfl, SqL.of (by rw [upd_ne cD]; exact d3), (show 4 ≤ sizeLine by decide), fun pu hp => ?_⟩
        have s2 : Same H2 (upd H2 L (.lst [V.int ((cs.map V.int).length + 8191)])) := same_upd hL
        have s3 := same_put (o := .lst (cs.map V.int ++ [V.int ((cs.map V.int).length + 8191)])) s2 (s2.free hc)
        have s4 := same_put (o := .lst [.ref G, .ref c, .int cs.sum, .int 0]) s3 (s3.free hp)
        have pG : G ≠ pu := ne_of_none (by rw [upd_ne cG, upd_ne LG]; exact g1) hp
        have pc : c ≠ pu := fun z => by rw [← z, upd_same] at hp; cases hp
        refine k _ pu G c ((sH.trans g2).trans s4) ((sH.trans g2).free (s3.free hp)) (sH.free hG) ((sH.trans g2).free (s2.free hc)) ⟨cs.sum, 0, _, cs ++ [((cs.map V.int).length : Int) + 8191], upd_same, by rw [upd_ne pG, upd_ne cG, upd_ne LG]; exact g1, ?_, by simp, ?_, ?_, cG.symm⟩
        · rw [upd_ne pc, upd_same, List.map_append]
          rfl
        · rw [List.length_append]
          exact Nat.add_le_add_right lcs 1
        · refine Nat.le_trans (List.length_filter_le _ _) ?_
          omega
/-! ### _law_draw -/
def spDraw : Sp := fun vs H Q _ => ∃ (pu g c : Addr) (many : Int), vs = [.ref pu, .int many] ∧ PurseAt H pu g c ∧ 0 < many ∧ many ≤ 10 ^ 9 + 1 ∧ ∀ H' (k : Int), Ku pu g c H H' → 0 ≤ k → k < many → Q (.int k) H'
theorem scDr : FnScope ["_law_purse_here", "_law_many", "_law_great", "_law_cell", "_law_turn", "_law_mixed"] ["_law_purse_here", "_law_many"] (defScope sDraw) := ⟨rfl, rfl, rfl, by decide +kernel, rfl, by decide +kernel, by decide +kernel⟩
theorem ok_draw {f : Addr} {fd : FuncData} (D : Df K mg "_law_draw" sDraw ["_law_purse_here", "_law_many"] f fd) (B : Bl mg) : FnOk P w K mg base CX0 1 f fd ["_law_purse_here", "_law_many"] spDraw := by
  refine D.F.ok scDr (fun vs H Q E h => ?_) (fun cdv A outer s H vs Q E hr h => ?_)
  · obtain ⟨pu, g, c, many, rfl, _⟩ := h
    rfl
  · obtain ⟨pu, g, c, many, rfl, P0, m0, m1, k⟩ := h
    obtain ⟨S, n, great, cells, hpu, hg, hc, cne, clen, glen, ncg⟩ := id P0
    refine ⟨_, pss_cons (ps_set (i := 2) scDr.nd rfl (Or.inl rfl) (pe_ix ix_list (pv 0) pe_int (fun _ _ => rfl)))
      (pss_cons (ps_if (pt_cmpR (op_neD hr.units) (pv 2) (pe_lst pa_nil) (nomark _))
        (pss_cons (ps_set (i := 3) scDr.nd rfl (Or.inl rfl) (pe_bm0 PySem.F.plainAttrs_list PySem.F.slot_list_pop PySem.F.type_list_pop mt_pop (pv 2)))
          (pss_cons (ps_if (pt_cmpR op_ge (pv 3) (pv 1) (nomark _)) (pss_one (ps_expr (pe_bm PySem.F.plainAttrs_list PySem.F.slot_list_append PySem.F.type_list_append mt_append (pv 2) (pa_cons (pe_op op_fdiv (pv 3) (pv 1)) pa_nil)))) pss_nil)
          (pss_one (ps_ret (pe_op op_mod (pe_callTy call_int1 (by rfl) B.int (by decide +kernel) (pa_cons (pv 3) pa_nil)) (pv 1)))))) pss_nil)
      (pss_cons (ps_asg (pe_op op_add (pe_ix ix_list (pv 0) pe_int (fun _ _ => rfl)) pe_int) (pg_sub (pv 0) pe_int set_list (fun _ => rfl)))
      (pss_cons (ps_set (i := 4) scDr.nd rfl (Or.inl rfl) (pe_ix ix_list (pv 0) pe_int (fun _ _ => rfl)))
      (pss_cons (ps_set (i := 3) scDr.nd rfl (Or.inl rfl) (pe_ix ix_list (pe_ix ix_list (pv 0) pe_int (fun _ _ => rfl)) (pe_op op_mod (pe_callTy call_int1 (by rfl) B.int (by decide +kernel) (pa_cons (pv 4) pa_nil)) (pe_callB call_len_seq (by rfl) B.len PySem.boot_len (pa_cons (pe_ix ix_list (pv 0) pe_int (fun _ _ => rfl)) pa_nil))) (fun _ _ => rfl)))
      (pss_cons (ps_set (i := 5) scDr.nd rfl (Or.inl rfl) (pe_callTy call_int1 (by rfl) B.int (by decide +kernel) (pa_cons (pe_op op_add (pe_op op_add (pe_op op_mul (pv 3) pe_int) (pe_op op_mul (pe_ix ix_list (pv 0) pe_int (fun _ _ => rfl)) pe_int)) (pe_op op_mul (pv 4) pe_int)) pa_nil)))
      (pss_cons (ps_set (i := 5) scDr.nd rfl (Or.inl rfl) (pe_op op_mod (pe_callTy call_int1 (by rfl) B.int (by decide +kernel) (pa_cons (pv 5) pa_nil)) pe_int))
      (pss_cons (ps_set (i := 5) scDr.nd rfl (Or.inl rfl) (pe_op op_mod (pe_callTy call_int1 (by rfl) B.int (by decide +kernel) (pa_cons (pe_op op_add (pe_op op_add (pe_op op_mul (pv 5) (pv 5)) (pe_op op_mul (pv 4) pe_int)) pe_int) pa_nil)) pe_int))
      (pss_one (ps_ret (pe_op op_mod (pe_op op_fdiv (pe_op op_mod (pe_callTy call_int1 (by rfl) B.int (by decide +kernel) (pa_cons (pe_op op_add (pe_op op_add (pe_op op_mul (pv 5) (pv 5)) (pe_op op_mul pe_int (pv 5))) (pv 4)) pa_nil)) pe_int) pe_int) (pv 1))))))))))), ?_⟩
    have ncp : c ≠ pu := fun z => by
      rw [z, hpu] at hc
      cases cells with
      | nil => exact cne rfl
      | cons x l => cases hc
    have ngp : g ≠ pu := fun z => by
      rw [z, hpu] at hg
      cases great with
      | nil => cases hg
      | cons x l => cases hg
    refine ⟨_, rfl, pu, _, 0, _, rfl, rfl, SqL.of hpu, rfl, ?_⟩
    refine ⟨_, rfl, Nat.zero_le _, fun e0 he => ?_⟩
    have eg : g ≠ e0 := ne_of_none hg he
    have ep : pu ≠ e0 := ne_of_none hpu he
    have ec : c ≠ e0 := ne_of_none hc he
    have hg1 : (upd H e0 (.lst [])) g = _ := (upd_ne eg).trans hg
    have hpu1 : (upd H e0 (.lst [])) pu = _ := (upd_ne ep).trans hpu
    have hc1 : (upd H e0 (.lst [])) c = _ := (upd_ne ec).trans hc
    have k0 : Kp pu g H (upd H e0 (.lst [])) := Kp.of (same_upd he)
    have he1 : (upd H e0 (.lst [])) e0 = some (.lst []) := upd_same
    generalize upd H e0 (.lst []) = H1 at hg1 hpu1 hc1 k0 he1
    refine ⟨_, _, dp_ints (SqL.of hg1), .lst (SqL.of he1) .nil, shaped_ints _, shaped_nilL, _, rfl, ?_⟩
    rw [eqvL, eqvAll_nil, List.isEmpty_map]
    by_cases gne : great = []
    · rw [show (!great.isEmpty) = false by rw [gne]; rfl]
      refine iteF ?_
      refine ⟨_, rfl, pu, _, 3, _, rfl, rfl, SqL.of hpu1, rfl, _, _, rfl, rfl, _, rfl, pu, _, 3, 3, rfl, rfl, hpu1, rfl, ?_⟩
      have hpu2 : (upd H1 pu (.lst [.ref g, .ref c, .int S, .int (n + 1)])) pu = _ := upd_same
      have hg2 : (upd H1 pu (.lst [.ref g, .ref c, .int S, .int (n + 1)])) g = _ := (upd_ne ngp).trans hg1
      have hc2 : (upd H1 pu (.lst [.ref g, .ref c, .int S, .int (n + 1)])) c = _ := (upd_ne ncp).trans hc1
      have k2 : Kp pu g H (upd H1 pu (.lst [.ref g, .ref c, .int S, .int (n + 1)])) := fun b o n1 n2 e => by
        rw [upd_ne n1]
        exact k0 b o n1 n2 e
      show tSeq _ _ _ _ (upd H1 pu (.lst [.ref g, .ref c, .int S, .int (n + 1)]))
      generalize upd H1 pu (.lst [.ref g, .ref c, .int S, .int (n + 1)]) = H2 at hpu2 hg2 hc2 k2
      have PA : PurseAt H2 pu g c := ⟨S, n + 1, great, cells, hpu2, hg2, hc2, cne, clen, glen, ncg⟩
      refine ⟨_, rfl, pu, _, 3, _, rfl, rfl, SqL.of hpu2, rfl, ?_⟩
      have cpos : (0 : Int) < ((cells.map V.int).length : Nat) := by
        rw [List.length_map]
        have := List.length_pos_iff.mpr cne
        omega
      obtain ⟨cell, hcell⟩ : ∃ cell : Int, atI (cells.map V.int) ((n + 1) % ((cells.map V.int).length : Nat)) = some (.int cell) := by
        have a0 := Int.emod_nonneg (n + 1) (Int.ne_of_gt cpos)
        have a1 := Int.emod_lt_of_pos (n + 1) cpos
        generalize (n + 1) % ((cells.map V.int).length : Nat) = j at a0 a1
        have lj : j.toNat < cells.length := by rw [List.length_map] at a1; omega
        refine ⟨cells[j.toNat], ?_⟩
        unfold atI ixN
        rw [if_pos a0, if_pos a1]
        show (cells.map V.int)[j.toNat]? = _
        rw [List.getElem?_map, List.getElem?_eq_getElem lj]
        rfl
      refine ⟨_, rfl, pu, _, 1, _, rfl, rfl, SqL.of hpu2, rfl, _, rfl, .inl ⟨_, rfl, _, rfl, pu, _, 1, _, rfl, rfl, SqL.of hpu2, rfl, c, _, rfl, .inl (SqL.of hc2), _, _, rfl, rfl, cpos, c, _, _, _, rfl, rfl, SqL.of hc2, hcell, ?_⟩⟩
      refine ⟨_, rfl, _, _, rfl, rfl, .inr ⟨by decide, by decide⟩, _, rfl, pu, _, 2, _, rfl, rfl, SqL.of hpu2, rfl, _, _, rfl, rfl, .inr ⟨by decide, by decide⟩, _, _, rfl, rfl, _, rfl, _, _, rfl, rfl, .inr ⟨by decide, by decide⟩, _, _, rfl, rfl, .inl ⟨_, rfl, ?_⟩⟩
      refine ⟨_, rfl, .inl ⟨_, rfl, _, _, rfl, rfl, (show (0 : Int) < 2305843009213693951 by decide), ?_⟩⟩
      refine ⟨_, rfl, _, rfl, _, _, rfl, rfl, .inl ⟨Int.lt_of_lt_of_le (by decide) (Int.emod_nonneg _ (by decide)), Int.lt_trans (Int.emod_lt_of_pos _ (by decide)) (by decide)⟩, _, rfl, _, _, rfl, rfl, .inr ⟨by decide, by decide⟩, _, _, rfl, rfl, _, _, rfl, rfl, .inl ⟨_, rfl, _, _, rfl, rfl, (show (0 : Int) < 2305843009213693921 by decide), ?_⟩⟩
      refine ⟨_, rfl, _, rfl, _, _, rfl, rfl, .inl ⟨Int.lt_of_lt_of_le (by decide) (Int.emod_nonneg _ (by decide)), Int.lt_trans (Int.emod_lt_of_pos _ (by decide)) (by decide)⟩, _, rfl, _, _, rfl, rfl, .inl ⟨by decide, by decide⟩, _, _, rfl, rfl, _, rfl, _, _, rfl, rfl, .inl ⟨_, rfl, _, _, rfl, rfl, (show (0 : Int) < 2305843009213693951 by decide), _, _, rfl, rfl, ⟨by decide, by decide⟩, _, rfl, _, _, rfl, rfl, m0, ?_⟩⟩
      exact k H2 _ ⟨P0, PA, k2⟩ (Int.emod_nonneg _ (Int.ne_of_gt m0)) (Int.emod_lt_of_pos _ m0)
    · rw [show (!great.isEmpty) = true by
        cases great with
        | nil => exact absurd rfl gne
        | cons _ _ => rfl]
      refine iteT ?_
      obtain ⟨y, hy⟩ : ∃ y, great[great.length - 1]? = some y := ⟨_, List.getElem?_eq_getElem (Nat.sub_lt (List.length_pos_iff.mpr gne) Nat.one_pos)⟩
      have hy' : (great.map V.int)[(great.map V.int).length - 1]? = some (.int y) := by
        rw [List.length_map, List.getElem?_map, hy]
        rfl
      refine ⟨_, rfl, .inl ⟨rfl, _, SqL.of hg1⟩, g, _, _, rfl, rfl, hg1, hy', ?_⟩
      have mk : ∀ (us : List Int) (H2 : Hp), us.length ≤ 64 → H2 = upd H1 g (.lst (us.map V.int)) → PurseAt H2 pu g c ∧ Kp pu g H H2 := fun us H2 hus e => by
        subst e
        refine ⟨⟨S, n, us, cells, (upd_ne ngp.symm).trans hpu1, upd_same, (upd_ne ncg).trans hc1, cne, clen, hus, ncg⟩, fun b o n1 n2 e => ?_⟩
        rw [upd_ne n2]
        exact k0 b o n1 n2 e
      have ed : (great.map V.int).dropLast = great.dropLast.map V.int := by rw [List.map_dropLast]
      have ld : great.dropLast.length ≤ 63 := by rw [List.length_dropLast]; omega
      refine ⟨_, rfl, _, rfl, _, _, rfl, rfl, _, rfl, ?_⟩
      refine ite2 (fun _ => ?_) (fun _ => ?_)
      · refine ⟨_, rfl, .inl ⟨rfl, _, SqL.of upd_same⟩, _, rfl, _, rfl, _, _, rfl, rfl, ⟨m0, by omega⟩, g, _, _, rfl, rfl, upd_same, ?_, ?_⟩
        · rw [ed, List.length_map]
          exact Nat.lt_of_le_of_lt ld (by decide)
        refine ⟨_, rfl, .inl ⟨_, rfl, _, rfl, _, _, rfl, rfl, m0, ?_⟩⟩
        obtain ⟨p1, p2⟩ := mk (great.dropLast ++ [y / many]) _ (by rw [List.length_append]; exact Nat.add_le_add_right ld 1) rfl
        rw [upd_upd, ed]
        rw [List.map_append] at p1 p2
        exact k _ _ ⟨P0, p1, p2⟩ (Int.emod_nonneg _ (Int.ne_of_gt m0)) (Int.emod_lt_of_pos _ m0)
      · refine ⟨_, rfl, .inl ⟨_, rfl, _, rfl, _, _, rfl, rfl, m0, ?_⟩⟩
        obtain ⟨p1, p2⟩ := mk great.dropLast _ (Nat.le_trans ld (by decide)) rfl
        rw [ed]
        exact k _ _ ⟨P0, p1, p2⟩ (Int.emod_nonneg _ (Int.ne_of_gt m0)) (Int.emod_lt_of_pos _ m0)
end
end U6
set_option Elab.async false
set_option linter.all false
set_option maxRecDepth 100000
set_option maxHeartbeats 8000000
/-! _law_pick; texts; text * int. -/
namespace U6R
open PySem PySem.Spec PyProof.Rows L2
/-! ### text * int -/
def repS (x : Str) (n : Nat) : Str := ⟨(List.replicate n x.cps).foldl (· ++ ·) #[]⟩
def rMulS : R2 := fun x y H Q => ∃ (z : Str) (n : Int), x = .str z ∧ y = .int n ∧ 1 < n ∧ n ≤ 1000 ∧ z.length ≤ 1000 ∧ z.length ≠ 0 ∧ Q (.str (repS z n.toNat)) H
section
variable {X : Cx}
theorem op_mulS : OpR X (binaryOp .Mult) rMulS := by
  intro pins s σ H x y v u Q I rx ry h
  obtain ⟨z, n, rfl, rfl, h1, h2, h3, h4, q⟩ := h
  obtain ⟨t, rfl⟩ := rx
  obtain ⟨t', rfl⟩ := ry
  have b1 : z.length * n.toNat ≤ 1000000 := Nat.le_trans (Nat.mul_le_mul h3 (show n.toNat ≤ 1000 by omega)) (by decide)
  refine P.mul_str (by rw [decide_eq_false (show ¬ n < -(2 ^ 63 : Int) by omega), decide_eq_false (show ¬ n ≥ 2 ^ 63 by omega)]; rfl) (fun _ _ => ?_) (fun _ _ => ?_) ?_
  · have e : (1000 : Int) ≤ (2 ^ 63 - 1) / n := by
      rw [Int.le_ediv_iff_mul_le (by omega)]
      omega
    omega
  · exact decide_eq_false (show ¬ _ > sizeLine by rw [sizeLine_eq]; omega)
  · rw [if_neg (show ¬ n < 1 by omega), if_neg (by
      have z1 : (n == 1) = false := by simp; omega
      have z2 : (z.length == 0) = false := by simp; exact h4
      rw [z1, z2]
      exact Bool.false_ne_true)]
    refine ⟨?_, ⟨.str _, H, I.tok _, ⟨_, rfl⟩, q⟩⟩
    show (repS z n.toNat).length ≤ sizeLine
    have key : ∀ (k : Nat) (a : Array Nat), ((List.replicate k z.cps).foldl (· ++ ·) a).size = a.size + z.length * k := by
      intro k
      induction k with
      | zero => intro a; rfl
      | succ k ih =>
        intro a
        rw [List.replicate_succ, List.foldl_cons, ih, Array.size_append, Nat.mul_succ]
        show a.size + z.length + _ = _
        omega
    show ((List.replicate n.toNat z.cps).foldl (· ++ ·) #[]).size ≤ sizeLine
    rw [key, sizeLine_eq]
    show 0 + _ ≤ _
    omega
end
end U6R
namespace U6
open PySem PySem.Spec PyProof.Rows L2 U6R
/-! ### texts -/
/-- a text of at most n signs, each ASCII -/
def Tx (z : Str) (n : Nat) : Prop := z.length ≤ n ∧ ∀ c ∈ z.cps.toList, c < 128
theorem Tx.add {x y : Str} {n m : Nat} (a : Tx x n) (b : Tx y m) : Tx (x ++ y) (n + m) := by
  refine ⟨?_, fun c hc => ?_⟩
  · rw [Str.length_append]
    exact Nat.add_le_add a.1 b.1
  · have e : (x ++ y).cps.toList = x.cps.toList ++ y.cps.toList := by
      show (x.cps ++ y.cps).toList = _
      rw [Array.toList_append]
    rw [e] at hc
    rcases List.mem_append.mp hc with h | h
    · exact a.2 c h
    · exact b.2 c h
theorem Tx.rep {x : Str} {n : Nat} (a : Tx x n) (k : Nat) : Tx (repS x k) (n * k) := by
  have key : ∀ (k : Nat) (u : Array Nat), ((List.replicate k x.cps).foldl (· ++ ·) u).size = u.size + x.length * k ∧ ∀ c ∈ ((List.replicate k x.cps).foldl (· ++ ·) u).toList, c ∈ u.toList ∨ c ∈ x.cps.toList := by
    intro k
    induction k with
    | zero => intro u; exact ⟨rfl, fun c h => .inl h⟩
    | succ k ih =>
      intro u
      rw [List.replicate_succ, List.foldl_cons]
      obtain ⟨h1, h2⟩ := ih (u ++ x.cps)
      refine ⟨?_, fun c hc => ?_⟩
      · rw [h1, Array.size_append, Nat.mul_succ]
        show u.size + x.length + _ = _
        omega
      · rcases h2 c hc with h | h
        · rw [Array.toList_append] at h
          exact List.mem_append.mp h
        · exact .inr h
  obtain ⟨h1, h2⟩ := key k #[]
  refine ⟨?_, fun c hc => ?_⟩
  · show ((List.replicate k x.cps).foldl (· ++ ·) #[]).size ≤ _
    rw [h1]
    show 0 + _ ≤ _
    rw [Nat.zero_add]
    exact Nat.mul_le_mul_right _ a.1
  · rcases h2 c hc with h | h
    · cases h
    · exact a.2 c h
theorem Tx.mono {x : Str} {n m : Nat} (a : Tx x n) (h : n ≤ m) : Tx x m := ⟨Nat.le_trans a.1 h, a.2⟩
theorem Tx.one {c : Nat} (h : c < 128) : Tx ⟨#[c]⟩ 1 := ⟨Nat.le_refl _, fun d hd => by
  have e : d = c := by simpa using hd
  rw [e]
  exact h⟩
theorem Tx.tm {x : Str} {n : Nat} (a : Tx x n) (h : n ≤ 100) : Tm (.inr x) := by
  refine ⟨Nat.le_trans a.1 h, ?_⟩
  unfold PyData.strOk
  rw [Array.all_eq_true_iff_forall_mem]
  exact fun c hc => decide_eq_true (Nat.lt_of_lt_of_le (a.2 c (by simpa using hc)) (by decide))
/-- a written text -/
theorem Tx.lit {z : Str} {n : Nat} (h : (decide (z.length ≤ n) && z.cps.toList.all fun c => decide (c < 128)) = true) : Tx z n := by
  rw [Bool.and_eq_true] at h
  exact ⟨of_decide_eq_true h.1, fun c hc => of_decide_eq_true (List.all_eq_true.mp h.2 c hc)⟩
theorem Tx.num {i : Int} (h0 : 0 ≤ i) (h1 : i < 10 ^ 10) : Tx (Str.ofString (toString i)) 10 := by
  obtain ⟨n, rfl⟩ := Int.eq_ofNat_of_zero_le h0
  have e : (Str.ofString (toString ((n : Nat) : Int))).cps.toList = TL.numL n := TL.tl_num n
  refine ⟨?_, fun c hc => ?_⟩
  · have q := TL.numL_len (n := n) (k := 10) (by decide) (by exact_mod_cast h1)
    rw [← e] at q
    simpa [Str.length] using q
  · rw [e] at hc
    have z := TL.numL_digits n c hc
    have z2 : 48 ≤ c ∧ c ≤ 57 := z
    omega
theorem isVar_app {x y : Str} (h : isVar (.inr x) = true) : isVar (.inr (x ++ y)) = true := by
  have h' : (x.cps[0]? == some 63) = true := h
  show ((x.cps ++ y.cps)[0]? == some 63) = true
  have lt : 0 < x.cps.size := by
    cases e : x.cps[0]? with
    | none => rw [e] at h'; cases h'
    | some c => exact (Array.getElem?_eq_some_iff.mp e).1
  rw [Array.getElem?_append_left lt]
  exact h'
theorem isVar_q : isVar (.inr ("?" : Str)) = true := by decide +kernel
/-- a name -/
def Nm (k : Key) : Prop := isVar k = true ∧ Tm k
/-- a value: no name, and not the law's spare word -/
def Vl (k : Key) : Prop := isVar k = false ∧ Tm k ∧ k ≠ .inr ("further" : Str)
theorem nm_of {y : Str} {n : Nat} (h : Tx y n) (hn : n ≤ 99) : Nm (.inr (("?" : Str) ++ y)) := by
  refine ⟨isVar_app isVar_q, Tx.tm (Tx.add (Tx.lit (z := "?") (n := 1) (by decide +kernel)) h) (by omega)⟩
theorem app_assoc (x y z : Str) : x ++ y ++ z = x ++ (y ++ z) := by
  show (⟨x.cps ++ y.cps ++ z.cps⟩ : Str) = ⟨x.cps ++ (y.cps ++ z.cps)⟩
  rw [Array.append_assoc]
theorem inV_keys (a : Key) (l : List Key) : inV (kV a) (l.map kV) = true ↔ a ∈ l := by
  unfold inV
  have e : ∀ x y : Key, eqV (kV x) (kV y) = true ↔ x = y := fun x y => by
    cases x with
    | inl i =>
      cases y with
      | inl j =>
        show (i == j) = true ↔ _
        rw [beq_iff_eq]
        exact ⟨fun h => by rw [h], fun h => Sum.inl.inj h⟩
      | inr s => exact ⟨fun h => (nomatch h), fun h => (nomatch h)⟩
    | inr s =>
      cases y with
      | inl j => exact ⟨fun h => (nomatch h), fun h => (nomatch h)⟩
      | inr u =>
        show (s == u) = true ↔ _
        rw [beq_iff_eq]
        exact ⟨fun h => by rw [h], fun h => Sum.inr.inj h⟩
  rw [List.any_map, List.any_eq_true]
  exact ⟨fun ⟨x, hx, h⟩ => by rw [← (e x a).mp h]; exact hx, fun h => ⟨a, h, (e a a).mpr rfl⟩⟩
theorem allFlat (l : List Key) : (l.map kV).all flatV = true := by
  rw [List.all_map, List.all_eq_true]
  exact fun x _ => kV_flat x
section
variable {P : Program} {w : World} {K : PySem.W.Frag} {mg : Str → Option Value} {base : Heap}
/-! ### _law_pick -/
def spPick : Sp := fun vs H Q _ => ∃ (pu g c : Addr), PurseAt H pu g c ∧
  ((∃ (a : Addr) (xs : List V), vs = [.ref pu, .ref a] ∧ a ≠ pu ∧ a ≠ g ∧ H a = some (.lst xs) ∧ xs ≠ [] ∧ xs.length ≤ 10 ^ 9 ∧ ∀ H' (i : Nat) x, Ku pu g c H H' → xs[i]? = some x → Q x H') ∨
   (∃ z : Str, vs = [.ref pu, .str z] ∧ z.length ≠ 0 ∧ z.length ≤ 1000 ∧ ∀ H' d, Ku pu g c H H' → d ∈ z.cps.toList → Q (.str ⟨#[d]⟩) H'))
theorem scPk : FnScope ["_law_purse_here", "_law_some"] ["_law_purse_here", "_law_some"] (defScope sPick) := ⟨rfl, rfl, rfl, by decide +kernel, rfl, by decide +kernel, by decide +kernel⟩
theorem ok_pick {f fD : Addr} {fd fdD : FuncData} (D : Df K mg "_law_pick" sPick ["_law_purse_here", "_law_some"] f fd) (B : Bl mg) (DD : Df K mg "_law_draw" sDraw ["_law_purse_here", "_law_many"] fD fdD) : FnOk P w K mg base CX0 2 f fd ["_law_purse_here", "_law_some"] spPick := by
  have GD : FnOk P w K mg base CX0 1 fD fdD ["_law_purse_here", "_law_many"] spDraw := ok_draw DD B
  refine D.F.ok scPk (fun vs H Q E h => ?_) (fun cdv A outer s H vs Q E hr h => ?_)
  · obtain ⟨pu, g, c, _, ⟨_, _, rfl, _⟩ | ⟨_, rfl, _⟩⟩ := h
    · rfl
    · rfl
  · obtain ⟨pu, g, c, hp, h⟩ := h
    refine ⟨_, pss_one (ps_ret (pe_ix ix_seq (pv 1) (pe_call GD hr rfl DD.g DD.k DD.b .nil pass0 (pa_cons (pv 0) (pa_cons (pe_callB (call_len_seq.or call_len_str) (by rfl) B.len PySem.boot_len (pa_cons (pv 1) pa_nil)) pa_nil))) (fun _ _ => rfl))), ?_⟩
    rcases h with ⟨a, xs, rfl, n1, n2, ha, hne, hlen, k⟩ | ⟨z, rfl, hne, hlen, k⟩
    · have l0 := List.length_pos_iff.mpr hne
      refine ⟨_, rfl, _, rfl, _, rfl, .inl ⟨a, xs, rfl, .inl (SqL.of ha), pu, g, c, _, rfl, hp, by omega, by omega, fun H' i hk i0 i1 => ?_⟩⟩
      have lj : i.toNat < xs.length := by omega
      refine .inl ⟨a, xs, i, _, rfl, rfl, SqL.of (hk.at ha n1 n2), ?_, k H' i.toNat _ hk (List.getElem?_eq_getElem lj)⟩
      unfold atI ixN
      rw [if_pos i0, if_pos i1]
      exact List.getElem?_eq_getElem lj
    · refine ⟨_, rfl, _, rfl, _, rfl, .inr ⟨z, rfl, Nat.le_of_lt (small1000 hlen), pu, g, c, _, rfl, hp, by omega, by omega, fun H' i hk i0 i1 => ?_⟩⟩
      have ez : z.cps.toList.length = z.length := by simp [Str.length]
      have lj : i.toNat < z.cps.toList.length := by rw [ez]; omega
      refine .inr (.inr ⟨z, i, z.cps.toList[i.toNat], rfl, rfl, Nat.le_of_lt (small1000 hlen), ?_, k H' _ hk (List.getElem_mem lj)⟩)
      unfold atI ixN
      rw [if_pos i0, if_pos (by rw [ez]; exact i1)]
      exact List.getElem?_eq_getElem lj
end
end U6
set_option Elab.async false
set_option linter.all false
set_option maxRecDepth 100000
set_option maxHeartbeats 8000000
/-! _law_names, _law_stock. -/
namespace U6
open PySem PySem.Spec PyProof.Rows L2 U6R
/-- a list of small texts, ASCII, as they stand in a heap list; each holds p -/
theorem letter_tx {c : Nat} (h : c ∈ ("abcxyz" : Str).cps.toList) : Tx ⟨#[c]⟩ 1 := by
  refine Tx.one ?_
  have z : (("abcxyz" : Str).cps.toList.all fun c => decide (c < 128)) = true := by decide +kernel
  exact of_decide_eq_true (List.all_eq_true.mp z c h)
theorem fits {x y : Str} {n m : Nat} (a : Tx x n) (b : Tx y m) (h : n + m ≤ 1000) : x.length + y.length ≤ sizeLine :=
  Nat.le_of_lt (small1000 (Nat.le_trans (Nat.add_le_add a.1 b.1) h))
theorem tx_q : Tx ("?" : Str) 1 := Tx.lit (by decide +kernel)
theorem tx_7 : Tx (".7" : Str) 2 := Tx.lit (by decide +kernel)
theorem tx_10 : Tx (".10" : Str) 3 := Tx.lit (by decide +kernel)
theorem tx_0 : Tx (".0" : Str) 2 := Tx.lit (by decide +kernel)
theorem tx_g : Tx (".1000000000" : Str) 11 := Tx.lit (by decide +kernel)
theorem tx_d : Tx ("." : Str) 1 := Tx.lit (by decide +kernel)
theorem log_of {i : Int} (h0 : 0 ≤ i) (h1 : i < 10 ^ 10) : i.natAbs.log2 < 1920 := by
  by_cases z : i.natAbs = 0
  · rw [z]; decide
  · exact Nat.lt_of_lt_of_le ((Nat.log2_lt z).mpr (show i.natAbs < 2 ^ 40 by omega)) (by decide)
theorem letter_vl {c : Nat} (h : c ∈ ("abcxyz" : Str).cps.toList) : Vl (.inr ⟨#[c]⟩) ∧ Vl (.inr (repS ⟨#[c]⟩ 12)) := by
  have z : (("abcxyz" : Str).cps.toList.all fun c => !isVar (.inr ⟨#[c]⟩) && !isVar (.inr (repS ⟨#[c]⟩ 12)) && decide ((⟨#[c]⟩ : Str) ≠ "further") && decide (repS ⟨#[c]⟩ 12 ≠ "further")) = true := by decide +kernel
  have z := List.all_eq_true.mp z c h
  simp only [Bool.and_eq_true, Bool.not_eq_true', decide_eq_true_eq] at z
  obtain ⟨⟨⟨z1, z2⟩, z3⟩, z4⟩ := z
  exact ⟨⟨z1, Tx.tm (letter_tx h) (by decide), fun e => z3 (Sum.inr.inj e)⟩, ⟨z2, Tx.tm ((letter_tx h).rep 12) (by decide), fun e => z4 (Sum.inr.inj e)⟩⟩
theorem abc_len : ("abcxyz" : Str).length ≠ 0 ∧ ("abcxyz" : Str).length ≤ 1000 := by decide +kernel
section
variable {P : Program} {w : World} {K : PySem.W.Frag} {mg : Str → Option Value} {base : Heap}
def spNames : Sp := fun vs H Q _ => ∃ (pu g c : Addr) (many : Nat), vs = [.ref pu, .int (many : Nat)] ∧ PurseAt H pu g c ∧ 0 < many ∧ many ≤ 100 ∧
  ∀ H' l (xs : List Key), Ku pu g c H H' → H l = none → H' l = some (.lst (xs.map kV)) → (∀ x ∈ xs, Nm x) → xs ≠ [] → xs.length ≤ many → Q (.ref l) H'
theorem scNa : FnScope ["_law_purse_here", "_law_many", "_law_letter", "_law_further", "_law_some", "_law_found", "_law_turn", "_law_name"] ["_law_purse_here", "_law_many"] (defScope sNames) := ⟨rfl, rfl, rfl, by decide +kernel, rfl, by decide +kernel, by decide +kernel⟩
theorem ok_names {f fD fP : Addr} {fd fdD fdP : FuncData} (D : Df K mg "_law_names" sNames ["_law_purse_here", "_law_many"] f fd) (B : Bl mg) (DD : Df K mg "_law_draw" sDraw ["_law_purse_here", "_law_many"] fD fdD) (DP : Df K mg "_law_pick" sPick ["_law_purse_here", "_law_some"] fP fdP) :
    FnOk P w K mg base CX0 3 f fd ["_law_purse_here", "_law_many"] spNames := by
  have GD : FnOk P w K mg base CX0 1 fD fdD ["_law_purse_here", "_law_many"] spDraw := ok_draw DD B
  have GP : FnOk P w K mg base CX0 2 fP fdP ["_law_purse_here", "_law_some"] spPick := ok_pick DP B DD
  refine D.F.ok scNa (fun vs H Q E h => ?_) (fun cdv A outer s H vs Q E hr h => ?_)
  · obtain ⟨pu, g, c, many, rfl, _⟩ := h
    rfl
  · obtain ⟨pu, g, c, many, rfl, hp, m0, m1, k⟩ := h
    have hr1 : Room 1 _ := hr.mono (by decide)
    refine ⟨_, pss_cons (ps_par (i := 2) (j := 3) rfl scNa.nd rfl rfl (by decide) rfl rfl (pa_cons (pe_call GP hr rfl DP.g DP.k DP.b .nil pass0 (pa_cons (pv 0) (pa_cons pe_str pa_nil))) (pa_cons (pe_call GP hr rfl DP.g DP.k DP.b .nil pass0 (pa_cons (pv 0) (pa_cons pe_str pa_nil))) pa_nil)) rfl)
      (pss_cons (ps_set (i := 4) scNa.nd rfl (Or.inl rfl) (pe_lst (pa_cons (pe_op op_add_str pe_str (pv 2)) (pa_cons (pe_op op_add_str (pe_op op_add_str pe_str (pv 2)) (pv 3)) (pa_cons (pe_op op_add_str (pe_op op_add_str pe_str (pv 2)) pe_str) (pa_cons (pe_op op_add_str (pe_op op_add_str pe_str (pv 2)) pe_str) (pa_cons (pe_op op_add_str pe_str (pe_op op_mulS (pv 2) pe_int)) pa_nil)))))))
      (pss_cons (ps_set (i := 4) scNa.nd rfl (Or.inl rfl) (pe_op op_cat (pv 4) (pe_lst (pa_cons (pe_op op_add_str (pe_op op_add_str (pe_op op_add_str pe_str (pv 2)) (pv 3)) pe_str) (pa_cons (pe_op op_add_str (pe_op op_add_str pe_str (pv 2)) pe_str) (pa_cons (pe_op op_add_str (pe_op op_add_str pe_str (pv 3)) (pv 2)) (pa_cons (pe_op op_add_str pe_str (pv 3)) pa_nil)))))))
      (pss_cons (ps_set (i := 4) scNa.nd rfl (Or.inl rfl) (pe_op op_cat (pv 4) (pe_lst (pa_cons (pe_op op_add_str (pe_op op_add_str (pe_op op_add_str pe_str (pv 3)) pe_str) (pe_callTy call_str_int (by rfl) B.str (by decide +kernel) (pa_cons (pe_call GD hr1 rfl DD.g DD.k DD.b .nil pass0 (pa_cons (pv 0) (pa_cons (pe_op op_add (pe_op op_pow pe_int pe_int) pe_int) pa_nil))) pa_nil))) (pa_cons pe_str (pa_cons pe_str pa_nil))))))
      (pss_cons (ps_set (i := 5) scNa.nd rfl (Or.inl rfl) (pe_lst pa_nil))
      (pss_cons (ps_for PassesOwn.never rfl (pi_range1 (by rfl) B.rng (pa_cons (pv 1) pa_nil)) (pg_name (i := 6) scNa.nd rfl (Or.inl rfl))
        (pss_cons (ps_set (i := 7) scNa.nd rfl (Or.inl rfl) (pe_call GP hr rfl DP.g DP.k DP.b .nil pass0 (pa_cons (pv 0) (pa_cons (pv 4) pa_nil))))
          (pss_one (ps_if (pt_cmpR op_notIn_seq (pv 7) (pv 5) (by with_unfolding_all rfl)) (pss_one (ps_expr (pe_bm PySem.F.plainAttrs_list PySem.F.slot_list_append PySem.F.type_list_append mt_append (pv 5) (pa_cons (pv 7) pa_nil)))) pss_nil))))
      (pss_one (ps_ret (pv 5)))))))), ?_⟩
    refine ⟨_, rfl, pu, g, c, hp, .inr ⟨_, rfl, abc_len.1, abc_len.2, fun H1 c1 u1 hc1 => ?_⟩⟩
    refine ⟨_, rfl, pu, g, c, u1.p, .inr ⟨_, rfl, abc_len.1, abc_len.2, fun H2 c2 u2 hc2 => ⟨_, _, rfl, ?_⟩⟩⟩
    have tL := letter_tx hc1
    have tF := letter_tx hc2
    have lL : (⟨#[c1]⟩ : Str).length ≠ 0 := by show (1 : Nat) ≠ 0; decide
    generalize (⟨#[c1]⟩ : Str) = L at tL lL
    generalize (⟨#[c2]⟩ : Str) = F at tF
    have u02 := u1.trans u2
    clear u1 u2
    have lL' : L.length ≤ 1000 := Nat.le_trans tL.1 (by decide)
    refine ⟨_, rfl, _, _, rfl, rfl, fits tx_q tL (by decide), _, rfl, _, _, rfl, rfl, fits tx_q tL (by decide), _, rfl, _, _, rfl, rfl, fits (tx_q.add tL) tF (by decide), _, rfl, _, _, rfl, rfl, fits tx_q tL (by decide), _, _, rfl, rfl, fits (tx_q.add tL) tx_7 (by decide),
      _, rfl, _, _, rfl, rfl, fits tx_q tL (by decide), _, _, rfl, rfl, fits (tx_q.add tL) tx_10 (by decide), _, rfl, _, _, rfl, rfl, (by decide : (1 : Int) < 3), (by decide : (3 : Int) ≤ 1000), lL', lL, _, _, rfl, rfl, fits tx_q (tL.rep 3) (by decide), (show 5 ≤ sizeLine by decide), fun q1 h1 => ?_⟩
    have u3 := u02.new (o := .lst [.str ("?" ++ L), .str ("?" ++ L ++ F), .str ("?" ++ L ++ ".7"), .str ("?" ++ L ++ ".10"), .str ("?" ++ repS L 3)]) h1
    show tSeq _ _ _ _ (upd H2 q1 (.lst [.str ("?" ++ L), .str ("?" ++ L ++ F), .str ("?" ++ L ++ ".7"), .str ("?" ++ L ++ ".10"), .str ("?" ++ repS L 3)]))
    have g1 : (upd H2 q1 (.lst [.str ("?" ++ L), .str ("?" ++ L ++ F), .str ("?" ++ L ++ ".7"), .str ("?" ++ L ++ ".10"), .str ("?" ++ repS L 3)])) q1 = _ := upd_same
    generalize upd H2 q1 (.lst [.str ("?" ++ L), .str ("?" ++ L ++ F), .str ("?" ++ L ++ ".7"), .str ("?" ++ L ++ ".10"), .str ("?" ++ repS L 3)]) = H3 at u3 g1 ⊢
    refine ⟨_, rfl, _, rfl, _, _, rfl, rfl, fits tx_q tL (by decide), _, rfl, _, _, rfl, rfl, fits (tx_q.add tL) tF (by decide), _, _, rfl, rfl, fits ((tx_q.add tL).add tF) tx_0 (by decide), _, rfl, _, _, rfl, rfl, fits tx_q tL (by decide), _, _, rfl, rfl, fits (tx_q.add tL) tx_g (by decide),
      _, rfl, _, _, rfl, rfl, fits tx_q tF (by decide), _, rfl, _, _, rfl, rfl, fits (tx_q.add tF) tL (by decide), _, rfl, _, _, rfl, rfl, fits tx_q tF (by decide), (show 4 ≤ sizeLine by decide), fun b1 hb1 => ?_⟩
    have n1 : q1 ≠ b1 := ne_of_none g1 hb1
    refine ⟨q1, b1, _, _, rfl, rfl, by rw [upd_ne n1]; exact g1, upd_same, ?_, fun q2 h2 => ?_⟩
    · exact (show 9 ≤ sizeLine by decide)
    have u4 := (u3.new hb1).new (o := .lst [.str ("?" ++ L), .str ("?" ++ L ++ F), .str ("?" ++ L ++ ".7"), .str ("?" ++ L ++ ".10"), .str ("?" ++ repS L 3), .str ("?" ++ L ++ F ++ ".0"), .str ("?" ++ L ++ ".1000000000"), .str ("?" ++ F ++ L), .str ("?" ++ F)]) h2
    show tSeq _ _ _ _ (upd (upd H3 b1 (.lst [.str ("?" ++ L ++ F ++ ".0"), .str ("?" ++ L ++ ".1000000000"), .str ("?" ++ F ++ L), .str ("?" ++ F)])) q2 (.lst [.str ("?" ++ L), .str ("?" ++ L ++ F), .str ("?" ++ L ++ ".7"), .str ("?" ++ L ++ ".10"), .str ("?" ++ repS L 3), .str ("?" ++ L ++ F ++ ".0"), .str ("?" ++ L ++ ".1000000000"), .str ("?" ++ F ++ L), .str ("?" ++ F)]))
    have g2 : (upd (upd H3 b1 (.lst [.str ("?" ++ L ++ F ++ ".0"), .str ("?" ++ L ++ ".1000000000"), .str ("?" ++ F ++ L), .str ("?" ++ F)])) q2 (.lst [.str ("?" ++ L), .str ("?" ++ L ++ F), .str ("?" ++ L ++ ".7"), .str ("?" ++ L ++ ".10"), .str ("?" ++ repS L 3), .str ("?" ++ L ++ F ++ ".0"), .str ("?" ++ L ++ ".1000000000"), .str ("?" ++ F ++ L), .str ("?" ++ F)])) q2 = _ := upd_same
    generalize upd (upd H3 b1 (.lst [.str ("?" ++ L ++ F ++ ".0"), .str ("?" ++ L ++ ".1000000000"), .str ("?" ++ F ++ L), .str ("?" ++ F)])) q2 (.lst [.str ("?" ++ L), .str ("?" ++ L ++ F), .str ("?" ++ L ++ ".7"), .str ("?" ++ L ++ ".10"), .str ("?" ++ repS L 3), .str ("?" ++ L ++ F ++ ".0"), .str ("?" ++ L ++ ".1000000000"), .str ("?" ++ F ++ L), .str ("?" ++ F)]) = H4 at u4 g2 ⊢
    have p4 := u4.p.notNone (x := q2)
    refine ⟨_, rfl, _, rfl, _, _, rfl, rfl, fits tx_q tF (by decide), _, _, rfl, rfl, fits (tx_q.add tF) tx_d (by decide), _, rfl, _, _, rfl, rfl, ⟨by decide, by decide, by decide⟩, _, _, rfl, rfl, pu, g, c, _, rfl, u4.p, by decide, by decide, fun H5 d u5 d0 d1 => ?_⟩
    have tN : Tx (Str.ofString (toString d)) 10 := Tx.num d0 (Int.lt_trans d1 (by decide))
    refine ⟨d, rfl, log_of d0 (Int.lt_trans d1 (by decide)), _, _, rfl, rfl, fits ((tx_q.add tF).add tx_d) tN (by decide), (show 3 ≤ sizeLine by decide), fun b2 hb2 => ?_⟩
    have h2n : H q2 = none := (u3.new hb1).free h2
    obtain ⟨m1', m2', _⟩ := u3.p0.notNone h2n
    have g3 := u5.at g2 m1' m2'
    have u45 := u4.trans u5
    have n2 : q2 ≠ b2 := ne_of_none g3 hb2
    refine ⟨q2, b2, _, _, rfl, rfl, by rw [upd_ne n2]; exact g3, upd_same, ?_, fun q3 h3 => ?_⟩
    · exact (show 12 ≤ sizeLine by decide)
    show tSeq _ _ _ _ (upd (upd H5 b2 (.lst [.str ("?" ++ F ++ "." ++ Str.ofString (toString d)), .str "?q", .str "?q.2"])) q3 (.lst (([.inr ("?" ++ L), .inr ("?" ++ L ++ F), .inr ("?" ++ L ++ ".7"), .inr ("?" ++ L ++ ".10"), .inr ("?" ++ repS L 3), .inr ("?" ++ L ++ F ++ ".0"), .inr ("?" ++ L ++ ".1000000000"), .inr ("?" ++ F ++ L), .inr ("?" ++ F), .inr ("?" ++ F ++ "." ++ Str.ofString (toString d)), .inr "?q", .inr "?q.2"] : List Key).map kV)))
    generalize hks : ([.inr ("?" ++ L), .inr ("?" ++ L ++ F), .inr ("?" ++ L ++ ".7"), .inr ("?" ++ L ++ ".10"), .inr ("?" ++ repS L 3), .inr ("?" ++ L ++ F ++ ".0"), .inr ("?" ++ L ++ ".1000000000"), .inr ("?" ++ F ++ L), .inr ("?" ++ F), .inr ("?" ++ F ++ "." ++ Str.ofString (toString d)), .inr "?q", .inr "?q.2"] : List Key) = ks
    have nks : ∀ x ∈ ks, Nm x := by
      rw [← hks]
      intro x hx
      simp only [List.mem_cons, List.not_mem_nil, or_false] at hx
      rcases hx with rfl | rfl | rfl | rfl | rfl | rfl | rfl | rfl | rfl | rfl | rfl | rfl
      · exact nm_of tL (by decide)
      · rw [app_assoc]; exact nm_of (tL.add tF) (by decide)
      · rw [app_assoc]; exact nm_of (tL.add tx_7) (by decide)
      · rw [app_assoc]; exact nm_of (tL.add tx_10) (by decide)
      · exact nm_of (tL.rep 3) (by decide)
      · rw [app_assoc, app_assoc]; exact nm_of (tL.add (tF.add tx_0)) (by decide)
      · rw [app_assoc]; exact nm_of (tL.add tx_g) (by decide)
      · rw [app_assoc]; exact nm_of (tF.add tL) (by decide)
      · exact nm_of tF (by decide)
      · rw [app_assoc, app_assoc]; exact nm_of (tF.add (tx_d.add tN)) (by decide)
      · exact ⟨by decide +kernel, Tx.tm (n := 2) (Tx.lit (by decide +kernel)) (by decide)⟩
      · exact ⟨by decide +kernel, Tx.tm (n := 4) (Tx.lit (by decide +kernel)) (by decide)⟩
    have lks : ks ≠ [] ∧ ks.length ≤ 10 ^ 9 := by rw [← hks]; exact ⟨by simp, (show 12 ≤ 10 ^ 9 by decide)⟩
    have u6 := (u45.new hb2).new (o := .lst (ks.map kV)) h3
    have hq3 : H q3 = none := (u45.new hb2).free h3
    obtain ⟨r1, r2, _⟩ := u3.p0.notNone hq3
    have g6 : (upd (upd H5 b2 (.lst [.str ("?" ++ F ++ "." ++ Str.ofString (toString d)), .str "?q", .str "?q.2"])) q3 (.lst (ks.map kV))) q3 = some (.lst (ks.map kV)) := upd_same
    generalize upd (upd H5 b2 (.lst [.str ("?" ++ F ++ "." ++ Str.ofString (toString d)), .str "?q", .str "?q.2"])) q3 (.lst (ks.map kV)) = H6 at u6 g6 ⊢
    refine ⟨Nat.zero_le _, fun l hl => ?_⟩
    have hl0 : H l = none := u6.free hl
    obtain ⟨s1, s2, _⟩ := u3.p0.notNone hl0
    have lq : q3 ≠ l := ne_of_none g6 hl
    refine ⟨_, rfl, many, rfl, by omega, by omega, for_range (fun i σ H' => ∃ (v6 v7 : Option V) (xs : List Key), σ = [some (.ref pu), some (.int (many : Nat)), some (.str L), some (.str F), some (.ref q3), some (.ref l), v6, v7] ∧ Ku pu g c H H' ∧ H' q3 = some (.lst (ks.map kV)) ∧ H' l = some (.lst (xs.map kV)) ∧ (∀ x ∈ xs, Nm x) ∧ xs.length ≤ i ∧ (0 < i → xs ≠ []))
      ⟨none, none, [], rfl, u6.put hl0, by rw [upd_ne lq]; exact g6, upd_same, (fun _ h => nomatch h), Nat.le_refl _, fun h => absurd h (Nat.lt_irrefl _)⟩ ?_ ?_⟩
    · rintro i σ H' hi ⟨v6, v7, xs, rfl, u, hq, hx, nx, lx, ex⟩
      refine ⟨_, rfl, _, rfl, pu, g, c, u.p, .inl ⟨q3, _, rfl, r1, r2, hq, by simpa using lks.1, by rw [List.length_map]; exact lks.2, fun H8 j y u8 hy => ?_⟩⟩
      rw [List.getElem?_map] at hy
      cases ey : ks[j]? with
      | none => rw [ey] at hy; cases hy
      | some t =>
        rw [ey] at hy
        have ez : kV t = y := Option.some.inj hy
        subst ez
        have hq8 := u8.at hq r1 r2
        have hx8 := u8.at hx s1 s2
        refine ⟨_, rfl, _, rfl, l, _, rfl, .inl (SqL.of hx8), kV_flat t, allFlat xs, _, rfl, ?_⟩
        have nt := nks t (List.mem_of_getElem? ey)
        show if (!inV (kV t) (xs.map kV)) = true then _ else _
        by_cases hm : t ∈ xs
        · rw [(inV_keys t xs).mpr hm]
          refine iteF ?_
          exact ⟨_, _, xs, rfl, u.trans u8, hq8, hx8, nx, Nat.le_succ_of_le lx, fun _ z => by rw [z] at hm; cases hm⟩
        · rw [show inV (kV t) (xs.map kV) = false by
            cases e : inV (kV t) (xs.map kV) with
            | false => rfl
            | true => exact absurd ((inV_keys t xs).mp e) hm]
          refine iteT ?_
          refine ⟨_, rfl, .inl ⟨rfl, _, SqL.of hx8⟩, _, rfl, l, _, _, rfl, rfl, hx8, ?_, ?_⟩
          · rw [List.length_map]
            exact Nat.lt_of_le_of_lt (Nat.le_trans lx (show i ≤ 1000 by have : ((many : Int)).toNat = many := rfl; omega)) (small1000 (Nat.le_refl _))
          · refine ⟨_, _, xs ++ [t], rfl, (u.trans u8).put hl0, by rw [upd_ne lq]; exact hq8, by rw [upd_same, List.map_append]; rfl, fun x hx => ?_, ?_, fun _ z => by simp at z⟩
            · rcases List.mem_append.mp hx with h | h
              · exact nx x h
              · rw [List.mem_singleton.mp h]; exact nt
            · rw [List.length_append]
              exact Nat.succ_le_succ lx
    · rintro σ H' ⟨v6, v7, xs, rfl, u, hq, hx, nx, lx, ex⟩
      exact ⟨_, rfl, k H' l xs u hl0 hx nx (ex m0) lx⟩
/-! ### _law_stock -/
def spStock : Sp := fun vs H Q _ => ∃ (pu g c : Addr) (many : Nat), vs = [.ref pu, .int (many : Nat)] ∧ PurseAt H pu g c ∧ 0 < many ∧ many ≤ 100 ∧
  ∀ H' l (xs : List Key), Ku pu g c H H' → H l = none → H' l = some (.lst (xs.map kV)) → (∀ x ∈ xs, Vl x) → xs ≠ [] → xs.length ≤ many → Q (.ref l) H'
theorem scSt : FnScope ["_law_purse_here", "_law_many", "_law_drawn", "_law_letter", "_law_some", "_law_turn"] ["_law_purse_here", "_law_many"] (defScope sStock) := ⟨rfl, rfl, rfl, by decide +kernel, rfl, by decide +kernel, by decide +kernel⟩
theorem ok_stock {f fD fP : Addr} {fd fdD fdP : FuncData} (D : Df K mg "_law_stock" sStock ["_law_purse_here", "_law_many"] f fd) (B : Bl mg) (DD : Df K mg "_law_draw" sDraw ["_law_purse_here", "_law_many"] fD fdD) (DP : Df K mg "_law_pick" sPick ["_law_purse_here", "_law_some"] fP fdP) :
    FnOk P w K mg base CX0 3 f fd ["_law_purse_here", "_law_many"] spStock := by
  have GD : FnOk P w K mg base CX0 1 fD fdD ["_law_purse_here", "_law_many"] spDraw := ok_draw DD B
  have GP : FnOk P w K mg base CX0 2 fP fdP ["_law_purse_here", "_law_some"] spPick := ok_pick DP B DD
  refine D.F.ok scSt (fun vs H Q E h => ?_) (fun cdv A outer s H vs Q E hr h => ?_)
  · obtain ⟨pu, g, c, many, rfl, _⟩ := h
    rfl
  · obtain ⟨pu, g, c, many, rfl, hp, m0, m1, k⟩ := h
    have hr1 : Room 1 _ := hr.mono (by decide)
    refine ⟨_, pss_cons (ps_par (i := 2) (j := 3) rfl scSt.nd rfl rfl (by decide) rfl rfl (pa_cons (pe_call GD hr1 rfl DD.g DD.k DD.b .nil pass0 (pa_cons (pv 0) (pa_cons (pe_op op_add (pe_op op_pow pe_int pe_int) pe_int) pa_nil))) (pa_cons (pe_call GP hr rfl DP.g DP.k DP.b .nil pass0 (pa_cons (pv 0) (pa_cons pe_str pa_nil))) pa_nil)) rfl)
      (pss_cons (ps_set (i := 4) scSt.nd rfl (Or.inr rfl) (pe_lst (pa_cons (pv 2) (pa_cons (pe_un un_neg (pv 2)) (pa_cons (pe_op op_pow pe_int pe_int) (pa_cons pe_int (pa_cons pe_int (pa_cons (pv 3) (pa_cons (pe_op op_mulS (pv 3) pe_int) (pa_cons pe_str pa_nil))))))))))
      (pss_one (ps_ret (pe_lc (own := [("_law_turn", 5)]) (g := gName 5) rfl scSt.nd (pi_range1 (by rfl) B.rng (pa_cons (pv 1) pa_nil))
        (blkOk_by (N := ["_law_purse_here", "_law_many", "_law_drawn", "_law_letter", "_law_some", "_law_turn"]) (sc := defScope sStock) (by decide +kernel)) (fun _ _ _ _ _ => pg_name (i := 5) scSt.nd rfl (Or.inl rfl)) (fun _ _ _ _ _ => pts_nil)
        (fun _ _ _ _ _ => pe_call GP hr rfl DP.g DP.k DP.b .nil pass0 (pa_cons (pv 0) (pa_cons (pv 4) pa_nil))))))), ?_⟩
    refine ⟨_, rfl, _, _, rfl, rfl, ⟨by decide, by decide, by decide⟩, _, _, rfl, rfl, pu, g, c, _, rfl, hp, by decide, by decide, fun H1 d u1 d0 d1 => ?_⟩
    refine ⟨_, rfl, pu, g, c, u1.p, .inr ⟨_, rfl, abc_len.1, abc_len.2, fun H2 c1 u2 hc1 => ⟨_, _, rfl, ?_⟩⟩⟩
    have u02 := u1.trans u2
    have lL : (⟨#[c1]⟩ : Str).length ≠ 0 := by show (1 : Nat) ≠ 0; decide
    have lL' : (⟨#[c1]⟩ : Str).length ≤ 1000 := Nat.le_trans (letter_tx hc1).1 (by decide)
    obtain ⟨v1, v2⟩ := letter_vl hc1
    refine ⟨_, rfl, _, rfl, _, rfl, _, _, rfl, rfl, ⟨by decide, by decide, by decide⟩, _, rfl, _, rfl, _, _, rfl, rfl, (by decide : (1 : Int) < 12), (by decide : (12 : Int) ≤ 1000), lL', lL, (show 8 ≤ sizeLine by decide), fun q hq => ?_⟩
    have e : ([V.int d, (fun i => V.int (-i)) d, (fun (i j : Int) => V.int (i ^ j.toNat)) 10 9, V.int 0, V.int 7, V.str { cps := #[c1] }, V.str (repS { cps := #[c1] } (Int.toNat 12)), V.str (Str.ofString "q")] : List V) = ([.inl d, .inl (-d), .inl ((10 : Int) ^ (9 : Int).toNat), .inl 0, .inl 7, .inr ⟨#[c1]⟩, .inr (repS ⟨#[c1]⟩ 12), .inr "q"] : List Key).map kV := rfl
    rw [e]
    generalize hks : ([.inl d, .inl (-d), .inl ((10 : Int) ^ (9 : Int).toNat), .inl 0, .inl 7, .inr ⟨#[c1]⟩, .inr (repS ⟨#[c1]⟩ 12), .inr "q"] : List Key) = ks
    have nks : ∀ x ∈ ks, Vl x := by
      rw [← hks]
      have vi : ∀ i : Int, i.natAbs ≤ 10 ^ 9 → Vl (.inl i) := fun i h => ⟨rfl, h, fun z => nomatch z⟩
      have d1' : d < 10 ^ 9 + 1 := d1
      intro x hx
      simp only [List.mem_cons, List.not_mem_nil, or_false] at hx
      rcases hx with rfl | rfl | rfl | rfl | rfl | rfl | rfl | rfl
      · exact vi _ (by omega)
      · exact vi _ (by omega)
      · exact vi _ (by decide)
      · exact vi _ (by decide)
      · exact vi _ (by decide)
      · exact v1
      · exact v2
      · exact ⟨by decide +kernel, Tx.tm (n := 1) (Tx.lit (by decide +kernel)) (by decide), by decide +kernel⟩
    have lks : ks ≠ [] ∧ ks.length ≤ 10 ^ 9 := by rw [← hks]; exact ⟨by simp, (show 8 ≤ 10 ^ 9 by decide)⟩
    have u3 := u02.new (o := .lst (ks.map kV)) hq
    obtain ⟨r1, r2, _⟩ := u02.p0.notNone (u02.free hq)
    have g3 : (upd H2 q (.lst (ks.map kV))) q = some (.lst (ks.map kV)) := upd_same
    generalize upd H2 q (.lst (ks.map kV)) = H3 at u3 g3 ⊢
    refine ⟨_, rfl, many, rfl, by omega, by omega, fun D hD => ?_⟩
    have hD0 := u3.free hD
    obtain ⟨s1, s2, _⟩ := u3.p0.notNone hD0
    have Dq : q ≠ D := ne_of_none g3 hD
    refine lc_range (fun i H' => ∃ xs : List Key, H' D = some (.lst (xs.map kV)) ∧ Ku pu g c H H' ∧ H' q = some (.lst (ks.map kV)) ∧ (∀ x ∈ xs, Vl x) ∧ xs.length = i)
      ⟨[], upd_same, u3.put hD0, by rw [upd_ne Dq]; exact g3, (fun _ h => nomatch h), rfl⟩ ?_ ?_
    · rintro i H' hi ⟨xs, hx, u, hq', nx, lx⟩
      refine ⟨rfl, ?_⟩
      refine ⟨_, rfl, _, rfl, pu, g, c, u.p, .inl ⟨q, _, rfl, r1, r2, hq', by simpa using lks.1, by rw [List.length_map]; exact lks.2, fun H8 j y u8 hy => ?_⟩⟩
      rw [List.getElem?_map] at hy
      cases ey : ks[j]? with
      | none => rw [ey] at hy; cases hy
      | some t =>
        rw [ey] at hy
        have ez : kV t = y := Option.some.inj hy
        subst ez
        refine ⟨_, u8.at hx s1 s2, ?_, xs ++ [t], by rw [upd_same, List.map_append]; rfl, (u.trans u8).put hD0, by rw [upd_ne Dq]; exact u8.at hq' r1 r2, fun x hx => ?_, by rw [List.length_append, lx]; rfl⟩
        · rw [List.length_map, lx]
          exact small1000 (show i ≤ 1000 by have : ((many : Int)).toNat = many := rfl; omega)
        · rcases List.mem_append.mp hx with h | h
          · exact nx x h
          · rw [List.mem_singleton.mp h]; exact nks t (List.mem_of_getElem? ey)
    · rintro H' ⟨xs, hx, u, hq', nx, lx⟩
      have lx' : xs.length = many := lx
      exact k H' D xs u hD0 hx nx (fun z => by rw [z] at lx'; simp at lx'; omega) (Nat.le_of_eq lx')
end
end U6
set_option Elab.async false
set_option linter.all false
set_option maxRecDepth 100000
set_option maxHeartbeats 8000000
/-! _law_pairs. -/
namespace U6R
open PySem PySem.Spec PyProof.Rows L2
/-- a weaker reading of a statement -/
theorem PS.weak {X : Cx} {st : Stmt} {t t' : TS} (h : PS X st t) (i : ∀ D σ H, t' D σ H → t D σ H) : PS X st t' :=
  ⟨fun pins s σ H D I q => h.run pins s σ H D I (i D σ H q)⟩
theorem PE.weak {X : Cx} {e : Expr} {t t' : TE} (h : PE X e t) (i : ∀ σ H Q, t' σ H Q → t σ H Q) : PE X e t' :=
  ⟨fun pins s σ H Q I q => h.run pins s σ H Q I (i σ H Q q)⟩
/-- from J to J -/
def tJ {ι : Type} (J : ι → L2.St → Hp → Prop) : TS := fun D σ H => ∃ x, J x σ H ∧ ∀ σ' H', J x σ' H' → D.nx σ' H'
end U6R
namespace U6
open PySem PySem.Spec PyProof.Rows L2 U6R
theorem Ku.tups {pu g c : Addr} {H H' : Hp} (u : Ku pu g c H H') : Tups H H' := fun b xs e => by
  obtain ⟨S, n, great, cells, h1, h2, _⟩ := u.p0
  exact u.at e (fun z => by rw [z, h1] at e; cases e) (fun z => by rw [z, h2] at e; cases e)
theorem PairsAt.snoc {K : PySem.W.Frag} {H : Hp} {ps : List Addr} {es : Eqs} {T : Addr} {x y : Key} (h : PairsAt K H ps es) (e : H T = some (.tup [kV x, kV y])) : PairsAt K H (ps ++ [T]) (es ++ [(x, y)]) :=
  paired_snoc (R := fun (p : Addr) (e : Key × Key) => H p = some (.tup [kV e.1, kV e.2])) (y := (x, y)) e h
/-- a term that is drawn -/
def Td (ns ks : List Key) (k : Key) : Prop := k ∈ ns ∨ k ∈ ks
section
variable {P : Program} {w : World} {K : PySem.W.Frag} {mg : Str → Option Value} {base : Heap}
def spPairs (K : PySem.W.Frag) : Sp := fun vs H Q _ => ∃ (pu g c na st : Addr) (many : Nat) (ns ks : List Key), vs = [.ref pu, .ref na, .ref st, .int (many : Nat)] ∧ PurseAt H pu g c ∧ many ≤ 100 ∧
  (H na = some (.lst (ns.map kV)) ∧ na ≠ pu ∧ na ≠ g ∧ ns ≠ [] ∧ ns.length ≤ 100 ∧ ∀ x ∈ ns, Nm x) ∧ (H st = some (.lst (ks.map kV)) ∧ st ≠ pu ∧ st ≠ g ∧ ks ≠ [] ∧ ks.length ≤ 100 ∧ ∀ x ∈ ks, Vl x) ∧
  ∀ H' q es, Ku pu g c H H' → H q = none → EqsAt K H' q es → (∀ t ∈ terms es, Td ns ks t) → es.length = many → Q (.ref q) H'
theorem scPr : FnScope ["_law_purse_here", "_law_names_here", "_law_stock_here", "_law_many", "_law_share", "_law_found", "_law_turn", "_law_one", "_law_two"] ["_law_purse_here", "_law_names_here", "_law_stock_here", "_law_many"] (defScope sPairs) := ⟨rfl, rfl, rfl, by decide +kernel, rfl, by decide +kernel, by decide +kernel⟩
/-- within the loop -/
def JP (K : PySem.W.Frag) (pu g c na st : Addr) (many : Nat) (ns ks : List Key) (H : Hp) (x : Nat × Int × Addr) (σ : L2.St) (H' : Hp) : Prop :=
  ∃ (a b : Key) (ps : List Addr) (es : Eqs), σ = [some (.ref pu), some (.ref na), some (.ref st), some (.int (many : Nat)), some (.int x.2.1), some (.ref x.2.2), some (.int (0 + (x.1 : Nat))), some (kV a), some (kV b)] ∧ Ku pu g c H H' ∧
    H' na = some (.lst (ns.map kV)) ∧ H' st = some (.lst (ks.map kV)) ∧ H' x.2.2 = some (.lst (ps.map V.ref)) ∧ x.2.2 ≠ pu ∧ x.2.2 ≠ g ∧ PairsAt K H' ps es ∧ es.length = x.1 ∧ (∀ t ∈ terms es, Td ns ks t) ∧ Td ns ks a ∧ Td ns ks b ∧ 2 ≤ x.2.1 ∧ x.2.1 ≤ 9
theorem ok_pairs {f fD fP : Addr} {fd fdD fdP : FuncData} (D : Df K mg "_law_pairs" sPairs ["_law_purse_here", "_law_names_here", "_law_stock_here", "_law_many"] f fd) (B : Bl mg) (DD : Df K mg "_law_draw" sDraw ["_law_purse_here", "_law_many"] fD fdD) (DP : Df K mg "_law_pick" sPick ["_law_purse_here", "_law_some"] fP fdP) :
    FnOk P w K mg base CX0 3 f fd ["_law_purse_here", "_law_names_here", "_law_stock_here", "_law_many"] (spPairs K) := by
  have GD : FnOk P w K mg base CX0 1 fD fdD ["_law_purse_here", "_law_many"] spDraw := ok_draw DD B
  have GP : FnOk P w K mg base CX0 2 fP fdP ["_law_purse_here", "_law_some"] spPick := ok_pick DP B DD
  refine D.F.ok scPr (fun vs H Q E h => ?_) (fun cdv A outer s H vs Q E hr h => ?_)
  · obtain ⟨pu, g, c, na, st, many, ns, ks, rfl, _⟩ := h
    rfl
  · obtain ⟨pu, g, c, na, st, many, ns, ks, rfl, hp, m1, ⟨hna, na1, na2, nne, nlen, nnm⟩, ⟨hst, st1, st2, kne, klen, knm⟩, k⟩ := h
    have hr1 : Room 1 _ := hr.mono (by decide)
    refine ⟨_, pss_cons (ps_par (i := 4) (j := 5) rfl scPr.nd rfl rfl (by decide) rfl rfl (pa_cons (pe_call GP hr rfl DP.g DP.k DP.b .nil pass0 (pa_cons (pv 0) (pa_cons (pe_lst (pa_cons pe_int (pa_cons pe_int (pa_cons pe_int pa_nil)))) pa_nil))) (pa_cons (pe_lst pa_nil) pa_nil)) rfl)
      (pss_cons (ps_for PassesOwn.never rfl (pi_range1 (by rfl) B.rng (pa_cons (pv 3) pa_nil)) (pg_name (i := 6) scPr.nd rfl (Or.inl rfl))
        (pss_cons (ps_par (i := 7) (j := 8) rfl scPr.nd rfl rfl (by decide) rfl rfl (pa_cons (pe_call GP hr rfl DP.g DP.k DP.b .nil pass0 (pa_cons (pv 0) (pa_cons (pv 1) pa_nil))) (pa_cons (pe_call GP hr rfl DP.g DP.k DP.b .nil pass0 (pa_cons (pv 0) (pa_cons (pv 1) pa_nil))) pa_nil)) rfl)
        (pss_cons (PS.weak (t' := tJ (JP K pu g c na st many ns ks H)) (ps_if (PW.pt (pw_and (pt_cmpR op_eq (pv 4) pe_int (nomark _)) (pw_and (pt_cmpR op_gt (pv 6) pe_int (nomark _)) (pw_and1 (pt_cmpR op_eq (pe_call GD hr1 rfl DD.g DD.k DD.b .nil pass0 (pa_cons (pv 0) (pa_cons pe_int pa_nil))) pe_int (nomark _))))))
            (pss_one (ps_set (i := 7) scPr.nd rfl (Or.inl rfl) (pe_ix ix_tup (pe_ix ix_list (pv 5) (pe_un un_neg pe_int) (fun _ _ => rfl)) pe_int (fun _ _ => rfl)))) pss_nil) ?_)
        (pss_cons (PS.weak (t' := tJ (JP K pu g c na st many ns ks H)) (ps_if (pt_cmpR op_eq (pe_call GD hr1 rfl DD.g DD.k DD.b .nil pass0 (pa_cons (pv 0) (pa_cons (pv 4) pa_nil))) pe_int (nomark _)) (pss_one (ps_set (i := 8) scPr.nd rfl (Or.inl rfl) (pe_call GP hr rfl DP.g DP.k DP.b .nil pass0 (pa_cons (pv 0) (pa_cons (pv 2) pa_nil))))) pss_nil) ?_)
        (pss_cons (PS.weak (t' := tJ (JP K pu g c na st many ns ks H)) (ps_if (pt_cmpR op_eq (pe_call GD hr1 rfl DD.g DD.k DD.b .nil pass0 (pa_cons (pv 0) (pa_cons (pe_op op_mul pe_int (pv 4)) pa_nil))) pe_int (nomark _)) (pss_one (ps_set (i := 7) scPr.nd rfl (Or.inl rfl) (pe_call GP hr rfl DP.g DP.k DP.b .nil pass0 (pa_cons (pv 0) (pa_cons (pv 2) pa_nil))))) pss_nil) ?_)
        (pss_one (ps_expr (pe_bm PySem.F.plainAttrs_list PySem.F.slot_list_append PySem.F.type_list_append mt_append (pv 5) (pa_cons (pe_ifExp (pt_cmpR op_eq (pe_call GD hr1 rfl DD.g DD.k DD.b .nil pass0 (pa_cons (pv 0) (pa_cons pe_int pa_nil))) pe_int (nomark _)) (pe_tup (pa_cons (pv 7) (pa_cons (pv 8) pa_nil))) (pe_tup (pa_cons (pv 8) (pa_cons (pv 7) pa_nil)))) pa_nil)))))))))
      (pss_one (ps_ret (pe_callTy call_tuple_of (by rfl) B.tup (by decide +kernel) (pa_cons (pv 5) pa_nil))))), ?_⟩
    · rintro D' σ H' ⟨⟨i, sh, l⟩, ⟨a, b, ps, es, rfl, u, h1, h2, h3, l1, l2, h4, h5, h6, ta, tb, s0, s1⟩, nx⟩
      refine ⟨_, rfl, rfl, _, rfl, ?_⟩
      refine ite2 (fun _ => ?_) (fun _ => iteF (nx _ _ ⟨a, b, ps, es, rfl, u, h1, h2, h3, l1, l2, h4, h5, h6, ta, tb, s0, s1⟩))
      refine ⟨_, rfl, _, _, rfl, rfl, _, rfl, ?_⟩
      refine ite2 (fun hi => ?_) (fun _ => iteF (nx _ _ ⟨a, b, ps, es, rfl, u, h1, h2, h3, l1, l2, h4, h5, h6, ta, tb, s0, s1⟩))
      have hi : 0 < i := by have := of_decide_eq_true hi; omega
      refine ⟨_, rfl, pu, g, c, _, rfl, u.p, by decide, by decide, fun H8 d u8 d0 d1 => ?_⟩
      refine ⟨rfl, _, rfl, ?_⟩
      have h3' := u8.at h3 l1 l2
      refine ite2 (fun _ => ?_) (fun _ => nx _ _ ⟨a, b, ps, es, rfl, u.trans u8, u8.at h1 na1 na2, u8.at h2 st1 st2, h3', l1, l2, h4.tups u8.tups, h5, h6, ta, tb, s0, s1⟩)
      have lps : ps.length = i := (Paired.length h4).trans h5
      have il : i - 1 < ps.length := by omega
      obtain ⟨e, ee, he⟩ := paired_at h4 (List.getElem?_eq_getElem il)
      have hat : atI (ps.map V.ref) (-1) = some (.ref ps[i - 1]) := by
        unfold atI ixN
        rw [if_neg (by decide), List.length_map, lps, if_pos (by omega)]
        show (ps.map V.ref)[((-1 : Int) + (i : Nat)).toNat]? = _
        rw [show ((-1 : Int) + (i : Nat)).toNat = i - 1 by omega, List.getElem?_map, List.getElem?_eq_getElem il]
        rfl
      refine ⟨_, rfl, _, rfl, l, _, -1, _, rfl, rfl, SqL.of h3', hat, _, _, 1, _, rfl, rfl, SqT.of (u8.tups _ _ he), rfl, ?_⟩
      exact nx _ _ ⟨e.2, b, ps, es, rfl, u.trans u8, u8.at h1 na1 na2, u8.at h2 st1 st2, h3', l1, l2, h4.tups u8.tups, h5, h6, h6 _ (mem_terms.mpr ⟨e, List.mem_of_getElem? ee, .inr rfl⟩), tb, s0, s1⟩
    · rintro D' σ H' ⟨⟨i, sh, l⟩, ⟨a, b, ps, es, rfl, u, h1, h2, h3, l1, l2, h4, h5, h6, ta, tb, s0, s1⟩, nx⟩
      have s0 : 2 ≤ sh := s0
      have s1 : sh ≤ 9 := s1
      refine ⟨_, rfl, _, rfl, pu, g, c, sh, rfl, u.p, by omega, by omega, fun H8 d u8 d0 d1 => ?_⟩
      refine ⟨rfl, _, rfl, ?_⟩
      have h3' := u8.at h3 l1 l2
      refine ite2 (fun _ => ?_) (fun _ => nx _ _ ⟨a, b, ps, es, rfl, u.trans u8, u8.at h1 na1 na2, u8.at h2 st1 st2, h3', l1, l2, h4.tups u8.tups, h5, h6, ta, tb, s0, s1⟩)
      refine ⟨_, rfl, _, rfl, pu, g, c, u8.p, .inl ⟨st, _, rfl, st1, st2, u8.at h2 st1 st2, by simpa using kne, by rw [List.length_map]; omega, fun H9 j y u9 hy => ?_⟩⟩
      rw [List.getElem?_map] at hy
      cases ey : ks[j]? with
      | none => rw [ey] at hy; cases hy
      | some t =>
        rw [ey] at hy
        have ez : kV t = y := Option.some.inj hy
        subst ez
        have u9' := u8.trans u9
        exact nx _ _ ⟨a, t, ps, es, rfl, u.trans u9', u9'.at h1 na1 na2, u9'.at h2 st1 st2, u9'.at h3 l1 l2, l1, l2, h4.tups u9'.tups, h5, h6, ta, .inr (List.mem_of_getElem? ey), s0, s1⟩
    · rintro D' σ H' ⟨⟨i, sh, l⟩, ⟨a, b, ps, es, rfl, u, h1, h2, h3, l1, l2, h4, h5, h6, ta, tb, s0, s1⟩, nx⟩
      have s0 : 2 ≤ sh := s0
      have s1 : sh ≤ 9 := s1
      refine ⟨_, rfl, _, rfl, _, _, rfl, rfl, .inl ⟨by decide, by decide⟩, pu, g, c, 4 * sh, rfl, u.p, by omega, by omega, fun H8 d u8 d0 d1 => ?_⟩
      refine ⟨rfl, _, rfl, ?_⟩
      have h3' := u8.at h3 l1 l2
      refine ite2 (fun _ => ?_) (fun _ => nx _ _ ⟨a, b, ps, es, rfl, u.trans u8, u8.at h1 na1 na2, u8.at h2 st1 st2, h3', l1, l2, h4.tups u8.tups, h5, h6, ta, tb, s0, s1⟩)
      refine ⟨_, rfl, _, rfl, pu, g, c, u8.p, .inl ⟨st, _, rfl, st1, st2, u8.at h2 st1 st2, by simpa using kne, by rw [List.length_map]; omega, fun H9 j y u9 hy => ?_⟩⟩
      rw [List.getElem?_map] at hy
      cases ey : ks[j]? with
      | none => rw [ey] at hy; cases hy
      | some t =>
        rw [ey] at hy
        have ez : kV t = y := Option.some.inj hy
        subst ez
        have u9' := u8.trans u9
        exact nx _ _ ⟨t, b, ps, es, rfl, u.trans u9', u9'.at h1 na1 na2, u9'.at h2 st1 st2, u9'.at h3 l1 l2, l1, l2, h4.tups u9'.tups, h5, h6, .inr (List.mem_of_getElem? ey), tb, s0, s1⟩
    refine ⟨_, rfl, (show 3 ≤ sizeLine by decide), fun q hq => ?_⟩
    have u0 := (Ku.refl hp).new (o := .lst [.int 2, .int 4, .int 9]) hq
    obtain ⟨q1, q2, _⟩ := hp.notNone hq
    refine ⟨pu, g, c, u0.p, .inl ⟨q, _, rfl, q1, q2, upd_same, by simp, (show 3 ≤ 10 ^ 9 by decide), fun H1 j y u1 hy => ⟨Nat.zero_le _, fun l hl => ⟨_, _, rfl, ?_⟩⟩⟩⟩
    obtain ⟨sh, rfl, s0, s1⟩ : ∃ sh : Int, y = .int sh ∧ 2 ≤ sh ∧ sh ≤ 9 := by
      match j, hy with
      | 0, e => exact ⟨2, (Option.some.inj e).symm, by decide, by decide⟩
      | 1, e => exact ⟨4, (Option.some.inj e).symm, by decide, by decide⟩
      | 2, e => exact ⟨9, (Option.some.inj e).symm, by decide, by decide⟩
      | n + 3, e => exact absurd e (by simp)
    have u01 := u0.trans u1
    have hl0 := u01.free hl
    obtain ⟨l1, l2, _⟩ := hp.notNone hl0
    have u2 := u01.put (o := .lst []) hl0
    have nal : na ≠ l := ne_of_none hna hl0
    have stl : st ≠ l := ne_of_none hst hl0
    have lm : ((many : Int)).toNat = many := rfl
    refine ⟨_, rfl, many, rfl, by omega, by omega, for_range (fun i σ H' => ∃ (v6 v7 v8 : Option V) (ps : List Addr) (es : Eqs), σ = [some (.ref pu), some (.ref na), some (.ref st), some (.int (many : Nat)), some (.int sh), some (.ref l), v6, v7, v8] ∧ Ku pu g c H H' ∧
        H' l = some (.lst (ps.map V.ref)) ∧ PairsAt K H' ps es ∧ es.length = i ∧ (∀ t ∈ terms es, Td ns ks t))
      ⟨none, none, none, [], [], rfl, u2, upd_same, .nil, rfl, fun _ h => nomatch h⟩ ?_ ?_⟩
    · rintro i σ H' hi ⟨v6, v7, v8, ps, es, rfl, u, h3, h4, h5, h6⟩
      refine ⟨_, rfl, _, rfl, pu, g, c, u.p, .inl ⟨na, _, rfl, na1, na2, u.at hna na1 na2, by simpa using nne, by rw [List.length_map]; omega, fun H8 j1 y1 u8 hy1 => ?_⟩⟩
      refine ⟨_, rfl, _, rfl, pu, g, c, u8.p, .inl ⟨na, _, rfl, na1, na2, (u.trans u8).at hna na1 na2, by simpa using nne, by rw [List.length_map]; omega, fun H9 j2 y2 u9 hy2 => ⟨_, _, rfl, ?_⟩⟩⟩
      rw [List.getElem?_map] at hy1 hy2
      cases e1 : ns[j1]? with
      | none => rw [e1] at hy1; cases hy1
      | some a =>
      cases e2 : ns[j2]? with
      | none => rw [e2] at hy2; cases hy2
      | some b =>
      rw [e1] at hy1
      rw [e2] at hy2
      have z1 : kV a = y1 := Option.some.inj hy1
      have z2 : kV b = y2 := Option.some.inj hy2
      subst z1 z2
      have u89 := u8.trans u9
      refine ⟨(i, sh, l), ⟨a, b, ps, es, rfl, u.trans u89, (u.trans u89).at hna na1 na2, (u.trans u89).at hst st1 st2, u89.at h3 l1 l2, l1, l2, h4.tups u89.tups, h5, h6, .inl (List.mem_of_getElem? e1), .inl (List.mem_of_getElem? e2), s0, s1⟩, ?_⟩
      rintro σ H' ⟨a, b, ps, es, rfl, J⟩
      refine ⟨(i, sh, l), ⟨a, b, ps, es, rfl, J⟩, ?_⟩
      rintro σ H' ⟨a, b, ps, es, rfl, J⟩
      refine ⟨(i, sh, l), ⟨a, b, ps, es, rfl, J⟩, ?_⟩
      rintro σ H' ⟨a, b, ps, es, rfl, u, h1, h2, h3, _, _, h4, h5, h6, ta, tb, _, _⟩
      have h5 : es.length = i := h5
      have h3 : H' l = some (.lst (ps.map V.ref)) := h3
      refine ⟨_, rfl, .inl ⟨rfl, _, SqL.of h3⟩, _, rfl, pu, g, c, _, rfl, u.p, by decide, by decide, fun H8 d u8 d0 d1 => ?_⟩
      refine ⟨rfl, _, rfl, ?_⟩
      have h3' := u8.at h3 l1 l2
      have fin : ∀ (x y : Key) (T : Addr), Td ns ks x → Td ns ks y → H8 T = none → (upd H8 T (.tup [kV x, kV y])) l = some (.lst (ps.map V.ref)) ∧ (ps.map V.ref).length < sizeLine ∧
          ∃ (ps' : List Addr) (es' : Eqs), Ku pu g c H (upd (upd H8 T (.tup [kV x, kV y])) l (.lst (ps.map V.ref ++ [.ref T]))) ∧ (upd (upd H8 T (.tup [kV x, kV y])) l (.lst (ps.map V.ref ++ [.ref T]))) l = some (.lst (ps'.map V.ref)) ∧
            PairsAt K (upd (upd H8 T (.tup [kV x, kV y])) l (.lst (ps.map V.ref ++ [.ref T]))) ps' es' ∧ es'.length = i + 1 ∧ (∀ t ∈ terms es', Td ns ks t) := fun x y T tx ty hT => by
        have lT : l ≠ T := ne_of_none h3' hT
        have g3 : (upd H8 T (.tup [kV x, kV y])) l = some (.lst (ps.map V.ref)) := (upd_ne lT).trans h3'
        have lps : ps.length = i := (Paired.length h4).trans h5
        have tt : Tups (upd H8 T (.tup [kV x, kV y])) (upd (upd H8 T (.tup [kV x, kV y])) l (.lst (ps.map V.ref ++ [.ref T]))) := Tups.put g3 (fun xs z => by cases z)
        refine ⟨g3, ?_, ps ++ [T], es ++ [(x, y)], ((u.trans u8).new hT).put hl0, by rw [upd_same, List.map_append]; rfl, ?_, by rw [List.length_append, h5]; rfl, fun t ht => ?_⟩
        · rw [List.length_map, lps]
          exact small1000 (by omega)
        · exact (h4.tups (u8.tups.trans ((Tups.new hT).trans tt))).snoc (tt _ _ upd_same)
        · rw [terms_snoc] at ht
          rcases List.mem_append.mp ht with z | z
          · exact h6 t z
          · rcases List.mem_cons.mp z with z | z
            · rw [z]; exact tx
            · rw [List.mem_singleton.mp z]; exact ty
      refine ite2 (fun _ => ?_) (fun _ => ?_)
      · refine ⟨_, rfl, _, rfl, two_line, fun T hT => ?_⟩
        obtain ⟨g3, gl, ps', es', f⟩ := fin a b T ta tb hT
        exact ⟨l, _, _, rfl, rfl, g3, gl, _, _, _, ps', es', rfl, f⟩
      · refine ⟨_, rfl, _, rfl, two_line, fun T hT => ?_⟩
        obtain ⟨g3, gl, ps', es', f⟩ := fin b a T tb ta hT
        exact ⟨l, _, _, rfl, rfl, g3, gl, _, _, _, ps', es', rfl, f⟩
    · rintro σ H' ⟨v6, v7, v8, ps, es, rfl, u, h3, h4, h5, h6⟩
      refine ⟨_, rfl, l, _, rfl, .inl ⟨SqL.of h3, fun p hpn => ?_⟩⟩
      exact k _ p es (u.new hpn) (u.free hpn) ⟨ps, upd_same, h4.tups (Tups.new hpn)⟩ h6 h5
end
end U6
set_option Elab.async false
set_option linter.all false
set_option maxRecDepth 100000
set_option maxHeartbeats 4000000
/-! Rules that the layer lacks: list(zip(list, tuple)), tuple(zip(list, tuple)), dict(a known tuple of pairs). -/
namespace U6R
open PySem PySem.Spec PyProof.Rows L2
section
variable {prog : Program} {w : World} {A : Around} {E : Value → Shared → Prop} {s : Shared} {z TI TO i1 i2 T : Addr} {f : Bool} {oT : Obj} {fp1 fp2 : List Addr} {n1 n2 i : Nat} {P1 P2 : Nat → Value → Prop} {St1 St2 : Nat → Heap → Prop}
theorem zipDH_next_item {Q : Value → Shared → Prop} (S : ZipSep2 z TI TO i1 i2 fp1 fp2) (D1 : Draws prog w A i1 fp1 n1 P1 St1) (D2 : Draws prog w A i2 fp2 n2 P2 St2)
    (hz : IsZipHeld s.heap z TI TO T f) (hT : s.heap.get? T = some oT) (hTI : IsTupOf2 s.heap TI (.ref i1) (.ref i2)) (st1 : St1 i s.heap) (st2 : St2 i s.heap) (hlt1 : i < n1) (hlt2 : i < n2)
    (hQ : ∀ x1 x2 h' tk, P1 i x1 → P2 i x2 → IsZipHeld h' z TI TO T true → St1 (i + 1) h' → St2 (i + 1) h' → IsTupOf2 h' s.heap.objs.size x1 x2 → h'.objs.size = s.heap.objs.size + 1 →
      (∀ c o, c ≠ z → c ≠ i1 → c ≠ i2 → s.heap.get? c = some o → h'.get? c = some o) → Q (.ref s.heap.objs.size) { s with heap := h', toks := tk }) :
    wpAny (model prog w) A (Builtin.«zip.__next__» ⟨[.ref z], []⟩) (fun fin s' => ∃ v, fin = .done (.ret v) ∧ Q v s') E s := by
  obtain ⟨hp, g, d, tk0, os⟩ := s
  show wpAny _ _ (field (.ref z) 2 >>= _) _ _ _
  refine wpAny_bind (wpAny_field hz rfl (x := .bool false) rfl ?_)
  show wpAny _ _ (field (.ref z) 3 >>= _) _ _ _
  refine wpAny_bind (wpAny_field hz rfl (x := .ref TI) rfl ?_)
  refine wpAny_bind (wpAny_seqItems hTI rfl ?_)
  show wpAny _ _ (Builtin.SmallTypes.ownedTupleIsFree (.ref z) >>= _) _ _ _
  refine wpAny_bind (wpAny_tupleHeld_zip hz hT fun h1 hz1 hs1 => ?_)
  replace hs1 : Heap.SameBut z hp h1 := hs1
  simp only [Bool.false_eq_true, if_false]
  refine wpAny_bind ?_
  rw [← Array.forIn_toList]
  simp only [List.forIn_cons, List.forIn_nil]
  refine wpAny_bind (wpAny_bind (wpAny_holding ?_))
  show wpAny _ _ (Builtin.SmallTypes.nextOf (.ref i1) >>= _) _ _ ⟨h1, g, d, tk0, os⟩
  refine wpAny_bind (D1.item i _ _ _ hlt1 (D1.over st1 hs1 S.zf1) fun x1 p1 tk1 hx1 sn1 hp1 => wpAny_pure ?_)
  replace hp1 : Heap.SameBut i1 h1 p1 := hp1
  refine wpAny_pure ?_
  refine wpAny_bind (wpAny_bind (wpAny_holding ?_))
  show wpAny _ _ (Builtin.SmallTypes.nextOf (.ref i2) >>= _) _ _ ⟨p1, g, d, tk1, os⟩
  refine wpAny_bind (D2.item i _ _ _ hlt2 (D2.over (D2.over st2 hs1 S.zf2) hp1 S.sep1_2) fun x2 p2 tk2 hx2 sn2 hp2 => wpAny_pure ?_)
  replace hp2 : Heap.SameBut i2 p1 p2 := hp2
  refine wpAny_pure (wpAny_pure ?_)
  show wpAny _ _ (newTuple [x1, x2] >>= _) _ _ ⟨p2, g, d, tk2, os⟩
  refine wpAny_bind (wpAny_newTuple ?_)
  have hsz : p2.objs.size = hp.objs.size := by rw [hp2.1, hp1.1, hs1.1]
  have hzz : IsZipHeld p2 z TI TO T true := hp2.extBut _ _ S.zi2 (hp1.extBut _ _ S.zi1 hz1)
  have hkk : ∀ c o, c ≠ z → c ≠ i1 → c ≠ i2 → hp.get? c = some o → p2.get? c = some o := fun c o cz c1 c2 e => hp2.extBut _ _ c2 (hp1.extBut _ _ c1 (hs1.extBut _ _ cz e))
  have hj1 : St1 (i + 1) p2 := D1.over sn1 hp2 S.sep2_1
  have new : IsTupOf2 (p2.push { cls := .type "tuple", data := .seq #[x1, x2] }) p2.objs.size x1 x2 := Heap.get?_push_size _ rfl
  have hz4 : (p2.push { cls := .type "tuple", data := .seq #[x1, x2] }).objs.size = p2.objs.size + 1 := Heap.size_push ..
  refine wpAny_pure ⟨_, rfl, ?_⟩
  show Q (.ref p2.objs.size) _
  rw [hsz] at new hz4 ⊢
  exact hQ x1 x2 _ tk2 hx1 hx2 (Heap.get?_push_of_some _ hzz) (D1.frame _ _ _ hj1 fun b hb o e => Heap.get?_push_of_some _ e) (D2.frame _ _ _ sn2 fun b hb o e => Heap.get?_push_of_some _ e) new hz4 fun c o cz c1 c2 e => Heap.get?_push_of_some _ (hkk c o cz c1 c2 e)
theorem zipDH_next_end {Q : Fin → Shared → Prop} (S : ZipSep2 z TI TO i1 i2 fp1 fp2) (D1 : Draws prog w A i1 fp1 n1 P1 St1)
    (hz : IsZipHeld s.heap z TI TO T f) (hT : s.heap.get? T = some oT) (hTI : IsTupOf2 s.heap TI (.ref i1) (.ref i2)) (st1 : St1 n1 s.heap)
    (hE : ∀ h' tk e, (∀ c o, c ≠ z → c ≠ i1 → c ≠ i2 → s.heap.get? c = some o → h'.get? c = some o) → (∃ o, h'.get? e = some o ∧ o.cls = .type "StopIteration") → E (.ref e) { s with heap := h', toks := tk }) :
    wpAny (model prog w) A (Builtin.«zip.__next__» ⟨[.ref z], []⟩) Q E s := by
  obtain ⟨hp, g, d, tk0, os⟩ := s
  show wpAny _ _ (field (.ref z) 2 >>= _) _ _ _
  refine wpAny_bind (wpAny_field hz rfl (x := .bool false) rfl ?_)
  show wpAny _ _ (field (.ref z) 3 >>= _) _ _ _
  refine wpAny_bind (wpAny_field hz rfl (x := .ref TI) rfl ?_)
  refine wpAny_bind (wpAny_seqItems hTI rfl ?_)
  show wpAny _ _ (Builtin.SmallTypes.ownedTupleIsFree (.ref z) >>= _) _ _ _
  refine wpAny_bind (wpAny_tupleHeld_zip hz hT fun h1 hz1 hs1 => ?_)
  replace hs1 : Heap.SameBut z hp h1 := hs1
  simp only [Bool.false_eq_true, if_false]
  refine wpAny_bind ?_
  rw [← Array.forIn_toList]
  simp only [List.forIn_cons, List.forIn_nil]
  refine wpAny_bind (wpAny_bind (wpAny_holding ?_))
  show wpAny _ _ (Builtin.SmallTypes.nextOf (.ref i1) >>= _) _ _ ⟨h1, g, d, tk0, os⟩
  exact wpAny_bind (D1.done ⟨h1, g, d, tk0, os⟩ _ _ (D1.over st1 hs1 S.zf1) fun q e hq he => hE q tk0 e (fun c o cz c1 c2 x => hq _ _ c1 (hs1.extBut _ _ cz x)) he)
theorem pyNext_zipDH_item {Q : Option Value → Shared → Prop} (S : ZipSep2 z TI TO i1 i2 fp1 fp2) (D1 : Draws prog w A.in1 i1 fp1 n1 P1 St1) (D2 : Draws prog w A.in1 i2 fp2 n2 P2 St2)
    (hz : IsZipHeld s.heap z TI TO T f) (hT : s.heap.get? T = some oT) (hTI : IsTupOf2 s.heap TI (.ref i1) (.ref i2)) (st1 : St1 i s.heap) (st2 : St2 i s.heap) (hlt1 : i < n1) (hlt2 : i < n2)
    (hQ : ∀ x1 x2 h' tk, P1 i x1 → P2 i x2 → IsZipHeld h' z TI TO T true → St1 (i + 1) h' → St2 (i + 1) h' → IsTupOf2 h' s.heap.objs.size x1 x2 → h'.objs.size = s.heap.objs.size + 1 →
      (∀ c o, c ≠ z → c ≠ i1 → c ≠ i2 → s.heap.get? c = some o → h'.get? c = some o) → Q (some (.ref s.heap.objs.size)) { s with heap := h', toks := tk }) :
    wpAny (model prog w) A (pyNext (.ref z)) Q E s := by
  have hTy : s.TypeIs (.ref z) "zip" := ⟨_, hz, rfl⟩
  unfold pyNext
  exact wpAny_bind (wpAny_attempt (wpAny_callSpecial?_slot (name := Str.ofString "__next__") hTy F.slot_zip_next
    (wpAny_call_entry F.slot_zip_next hTy F.entry_zip_next
      (zipDH_next_item S D1 D2 hz hT hTI st1 st2 hlt1 hlt2 fun x1 x2 h' tk y1 y2 a1 a3 a4 a5 a6 a7 => wpAny_pure (hQ x1 x2 h' tk y1 y2 a1 a3 a4 a5 a6 a7)) (F.args_zip_next_1 _))))
theorem pyNext_zipDH_end {Q : Option Value → Shared → Prop} (S : ZipSep2 z TI TO i1 i2 fp1 fp2) (D1 : Draws prog w A.in1 i1 fp1 n1 P1 St1)
    (hz : IsZipHeld s.heap z TI TO T f) (hT : s.heap.get? T = some oT) (hTI : IsTupOf2 s.heap TI (.ref i1) (.ref i2)) (st1 : St1 n1 s.heap)
    (hQ : ∀ h' tk, (∀ c o, c ≠ z → c ≠ i1 → c ≠ i2 → s.heap.get? c = some o → h'.get? c = some o) → Q none { s with heap := h', toks := tk }) : wpAny (model prog w) A (pyNext (.ref z)) Q E s := by
  have hTy : s.TypeIs (.ref z) "zip" := ⟨_, hz, rfl⟩
  unfold pyNext
  refine wpAny_bind (wpAny_attempt (wpAny_callSpecial?_slot (name := Str.ofString "__next__") hTy F.slot_zip_next
    (wpAny_call_entry F.slot_zip_next hTy F.entry_zip_next (zipDH_next_end S D1 hz hT hTI st1 fun h' tk e hk he => ?_) (F.args_zip_next_1 _))))
  obtain ⟨o, ho, hc⟩ := he
  refine wpAny_bind (wpAny_isInstance (T := "StopIteration") (b := true) ⟨o, ho, hc⟩ isSubtype_stop ?_)
  exact wpAny_pure (hQ _ _ hk)
end
def ZSt (z TI TO i1 i2 S : Addr) (St1 St2 : Nat → Heap → Prop) (i : Nat) (h : Heap) : Prop := IsTupOf2 h TI (.ref i1) (.ref i2) ∧ St1 i h ∧ St2 i h ∧
  ((IsZip h z TI TO .none ∧ ∃ a1 a2, IsTupOf2 h TO a1 a2) ∨ ∃ T f oT, IsZipHeld h z TI TO T f ∧ h.get? T = some oT ∧ T ≠ z ∧ T ≠ i1 ∧ T ≠ i2 ∧ T ≠ S)
/-- the list lies behind the zip's cells -/
structure Beh (z TI TO i1 i2 S : Addr) (fp1 fp2 : List Addr) : Prop where
  z : z < S
  TI : TI < S
  TO : TO < S
  i1 : i1 < S
  i2 : i2 < S
  f1 : ∀ b ∈ fp1, b < S
  f2 : ∀ b ∈ fp2, b < S
section
variable {prog : Program} {w : World} {A : Around} {E : Value → Shared → Prop} {s : Shared} {z TI TO i1 i2 S : Addr} {fp1 fp2 : List Addr} {n i : Nat} {P1 P2 : Nat → Value → Prop} {St1 St2 : Nat → Heap → Prop}
theorem ZSt.keep {h h' : Heap} (q : ZSt z TI TO i1 i2 S St1 St2 i h) (D1 : Draws prog w A i1 fp1 n P1 St1) (D2 : Draws prog w A i2 fp2 n P2 St2) (b : Beh z TI TO i1 i2 S fp1 fp2) (k : ∀ c o, c ≠ S → h.get? c = some o → h'.get? c = some o) : ZSt z TI TO i1 i2 S St1 St2 i h' := by
  obtain ⟨h1, h2, h3, h4⟩ := q
  refine ⟨k _ _ (Nat.ne_of_lt b.TI) h1, D1.frame _ _ _ h2 fun c hc o e => k c o (Nat.ne_of_lt (b.f1 c hc)) e, D2.frame _ _ _ h3 fun c hc o e => k c o (Nat.ne_of_lt (b.f2 c hc)) e, ?_⟩
  rcases h4 with ⟨a, x, y, c⟩ | ⟨T, f, oT, a, c, d1, d2, d3, d4⟩
  · exact .inl ⟨k _ _ (Nat.ne_of_lt b.z) a, x, y, k _ _ (Nat.ne_of_lt b.TO) c⟩
  · exact .inr ⟨T, f, oT, k _ _ (Nat.ne_of_lt b.z) a, k _ _ d4 c, d1, d2, d3, d4⟩
theorem zs_item {Q : Option Value → Shared → Prop} (Z : ZipSep2 z TI TO i1 i2 fp1 fp2) (D1 : Draws prog w A.in1 i1 fp1 n P1 St1) (D2 : Draws prog w A.in1 i2 fp2 n P2 St2) (hst : ZSt z TI TO i1 i2 S St1 St2 i s.heap) (b : Beh z TI TO i1 i2 S fp1 fp2) (hS : S < s.heap.objs.size) (hlt : i < n)
    (hQ : ∀ x1 x2 h' tk, P1 i x1 → P2 i x2 → ZSt z TI TO i1 i2 S St1 St2 (i + 1) h' → IsTupOf2 h' s.heap.objs.size x1 x2 →
      (∀ c o, c ≠ z → c ≠ TO → c ≠ i1 → c ≠ i2 → s.heap.get? c = some o → h'.get? c = some o) → Q (some (.ref s.heap.objs.size)) { s with heap := h', toks := tk }) : wpAny (model prog w) A (pyNext (.ref z)) Q E s := by
  obtain ⟨h1, h2, h3, h4⟩ := hst
  have nz : s.heap.objs.size ≠ z := Nat.ne_of_gt (Nat.lt_trans b.z hS)
  have n1 : s.heap.objs.size ≠ i1 := Nat.ne_of_gt (Nat.lt_trans b.i1 hS)
  have n2 : s.heap.objs.size ≠ i2 := Nat.ne_of_gt (Nat.lt_trans b.i2 hS)
  have nS : s.heap.objs.size ≠ S := Nat.ne_of_gt hS
  rcases h4 with ⟨a, x, y, c⟩ | ⟨T, f, oT, a, c, d1, d2, d3, d4⟩
  · refine wpAny_pyNext_zipD2_item Z D1 D2 a h1 c h2 h3 hlt hlt fun x1 x2 h' tk p1 p2 e1 e2 e3 e4 e5 e6 e7 => hQ x1 x2 h' tk p1 p2 ⟨e7 _ _ Z.TIz Z.TITO Z.TIi1 Z.TIi2 h1, e3, e4, .inr ⟨_, false, _, e1, e5, nz, n1, n2, nS⟩⟩ e5 e7
  · refine pyNext_zipDH_item Z D1 D2 a c h1 h2 h3 hlt hlt fun x1 x2 h' tk p1 p2 e1 e3 e4 e5 e6 e7 => hQ x1 x2 h' tk p1 p2 ⟨e7 _ _ Z.TIz Z.TIi1 Z.TIi2 h1, e3, e4, .inr ⟨T, true, oT, e1, e7 _ _ d1 d2 d3 c, d1, d2, d3, d4⟩⟩ e5 fun c o c1 _ c2 c3 => e7 c o c1 c2 c3
theorem zs_done {Q : Option Value → Shared → Prop} (Z : ZipSep2 z TI TO i1 i2 fp1 fp2) (D1 : Draws prog w A.in1 i1 fp1 n P1 St1) (D2 : Draws prog w A.in1 i2 fp2 n P2 St2) (hst : ZSt z TI TO i1 i2 S St1 St2 n s.heap)
    (hQ : ∀ h' tk, (∀ c o, c ≠ z → c ≠ TO → c ≠ i1 → c ≠ i2 → s.heap.get? c = some o → h'.get? c = some o) → Q none { s with heap := h', toks := tk }) : wpAny (model prog w) A (pyNext (.ref z)) Q E s := by
  obtain ⟨h1, h2, h3, h4⟩ := hst
  rcases h4 with ⟨a, x, y, c⟩ | ⟨T, f, oT, a, c, d1, d2, d3, d4⟩
  · exact wpAny_pyNext_zipD2_end Z D1 D2 a h1 c h2 h3 (Nat.le_refl _) (Nat.le_refl _) (.inl rfl) hQ
  · exact pyNext_zipDH_end Z D1 a c h1 h2 fun h' tk k => hQ h' tk fun c o c1 _ c2 c3 => k c o c1 c2 c3
end
/-- the pairs that were given out, as tuples behind lo -/
structure ZG (P1 P2 : Nat → Value → Prop) (lo : Addr) (h : Heap) (as : List Addr) : Prop where
  rise : as.Pairwise (· < ·)
  above : ∀ a ∈ as, lo < a
  pairs : ∀ (j : Nat) (a : Addr), as[j]? = some a → ∃ x1 x2, P1 j x1 ∧ P2 j x2 ∧ IsTupOf2 h a x1 x2
section
variable {prog : Program} {w : World} {A : Around} {E : Value → Shared → Prop} {s : Shared} {R : Result → Shared → Prop} {z TI TO i1 i2 S : Addr} {fp1 fp2 : List Addr} {n : Nat} {P1 P2 : Nat → Value → Prop} {St1 St2 : Nat → Heap → Prop}
theorem ZG.there {lo : Addr} {h : Heap} {as : List Addr} (g : ZG P1 P2 lo h as) {a : Addr} (ha : a ∈ as) : a < h.objs.size := by
  obtain ⟨j, hj⟩ := List.mem_iff_getElem?.mp ha
  obtain ⟨_, _, _, _, e⟩ := g.pairs j a hj
  exact Heap.lt_size e
theorem zl_loop (hh : A.handled = none) (Z : ZipSep2 z TI TO i1 i2 fp1 fp2) (D1 : Draws prog w A.in1.in1 i1 fp1 n P1 St1) (D2 : Draws prog w A.in1.in1 i2 fp2 n P2 St2) (b : Beh z TI TO i1 i2 S fp1 fp2) (hn : n ≤ sizeLine) (res : Value) {h1 : Heap}
    (hR : ∀ h' tk acc c as, (∀ b o, b ≠ S → b ≠ z → b ≠ TO → b ≠ i1 → b ≠ i2 → h1.get? b = some o → h'.get? b = some o) → h'.get? S = some { cls := .type "list", dict := none, data := .seq acc c, slots := #[] } → as.length = n → ZG P1 P2 S h' as →
      acc.toList = as.map Value.ref → R (.ok (.ret res)) { s with heap := h', toks := tk }) :
    ∀ (k i : Nat) (h : Heap) (tk c : Nat) (acc : Array Value) (as : List Addr), n - i = k → i ≤ n → ZSt z TI TO i1 i2 S St1 St2 i h → (∀ b o, b ≠ S → b ≠ z → b ≠ TO → b ≠ i1 → b ≠ i2 → h1.get? b = some o → h.get? b = some o) →
      h.get? S = some { cls := .type "list", dict := none, data := .seq acc c, slots := #[] } → acc.toList = as.map Value.ref → as.length = i → ZG P1 P2 S h as →
      codeAny (model prog w) A (.builtin "list.extend.loop" ⟨[.ref S, .ref z, res], []⟩) R { s with heap := h, toks := tk } := by
  have nz := Nat.ne_of_gt b.z
  have nO := Nat.ne_of_gt b.TO
  have n1 := Nat.ne_of_gt b.i1
  have n2 := Nat.ne_of_gt b.i2
  intro k
  induction k with
  | zero =>
    intro i h tk c acc as hk hi hst hkeep hS hacc hal hG
    have hin : i = n := by omega
    subst hin
    refine codeAny_builtin PySem.F.entry_extend_loop ?_
    rw [Around.under_plainId PySem.F.plain_extend_loop _]
    show wpAny _ A.in1 (pyNext (.ref z) >>= _) _ _ _
    refine wpAny_bind (zs_done (s := { s with heap := h, toks := tk }) (A := A.in1) Z D1 D2 hst fun h' tk' he => ?_)
    refine wpAny_pure (hR h' tk' acc c as (fun b o h1 h2 h3 h4 h5 e => he b o h2 h3 h4 h5 (hkeep b o h1 h2 h3 h4 h5 e)) (he S _ nz nO n1 n2 hS) hal ⟨hG.rise, hG.above, fun j a hj => ?_⟩ hacc)
    obtain ⟨x1, x2, p1, p2, e3⟩ := hG.pairs j a hj
    have lt := hG.above a (List.mem_of_getElem? hj)
    exact ⟨x1, x2, p1, p2, he a _ (Nat.ne_of_gt (Nat.lt_trans b.z lt)) (Nat.ne_of_gt (Nat.lt_trans b.TO lt)) (Nat.ne_of_gt (Nat.lt_trans b.i1 lt)) (Nat.ne_of_gt (Nat.lt_trans b.i2 lt)) e3⟩
  | succ k ih =>
    intro i h tk c acc as hk hi hst hkeep hS hacc hal hG
    have hlt : i < n := by omega
    have hsz : acc.size = i := by rw [← Array.length_toList, hacc, List.length_map, hal]
    have hSl : S < h.objs.size := Heap.lt_size hS
    refine codeAny_builtin PySem.F.entry_extend_loop ?_
    rw [Around.under_plainId PySem.F.plain_extend_loop _]
    show wpAny _ A.in1 (pyNext (.ref z) >>= _) _ _ _
    refine wpAny_bind (zs_item (s := { s with heap := h, toks := tk }) (S := S) Z D1 D2 hst b hSl hlt fun x1 x2 h' tk' q1 q2 hst' ht hkp => ?_)
    dsimp only at ht hkp ⊢
    have hS' := hkp S _ nz nO n1 n2 hS
    have up : ∀ b o, b ≠ S → h'.get? b = some o → (h'.update S (Obj.mapSeq (·.push (Value.ref h.objs.size)))).get? b = some o := fun b o hb e => (Heap.get?_update_other _ _ (Ne.symm hb)).trans e
    show wpAny _ A.in1 (updateSeq S (·.push (Value.ref h.objs.size)) >>= _) _ _ _
    refine wpAny_bind ?_
    refine wpAny_updateSeq hS' rfl (wpAny_pure ⟨plainId_quiet PySem.F.plain_extend_loop _, ih (i + 1) _ tk' _ (acc.push (Value.ref h.objs.size)) (as ++ [h.objs.size]) (by omega) hlt (hst'.keep D1 D2 b up)
      (fun b o h1 h2 h3 h4 h5 e => up b o h1 (hkp b o h2 h3 h4 h5 (hkeep b o h1 h2 h3 h4 h5 e))) (Heap.get?_update_self _ hS' rfl) (by rw [Array.toList_push, hacc, List.map_append]; rfl) (by rw [List.length_append, hal]; rfl) ⟨?_, ?_, ?_⟩⟩) (by rw [hsz]; omega) (by show (acc.push (Value.ref h.objs.size)).size ≤ sizeLine + 1; rw [Array.size_push, hsz]; omega)
    · refine List.pairwise_append.mpr ⟨hG.rise, List.pairwise_singleton _ _, fun a ha b hb => ?_⟩
      rw [List.mem_singleton.mp hb]
      exact hG.there ha
    · intro a ha
      rcases List.mem_append.mp ha with ha | ha
      · exact hG.above a ha
      · rw [List.mem_singleton.mp ha]; exact hSl
    · intro j a hj
      rcases Nat.lt_trichotomy j as.length with l1 | l1 | l1
      · rw [List.getElem?_append_left l1] at hj
        obtain ⟨y1, y2, p1, p2, e3⟩ := hG.pairs j a hj
        have lt := hG.above a (List.mem_of_getElem? hj)
        exact ⟨y1, y2, p1, p2, up a _ (Nat.ne_of_gt lt) (hkp a _ (Nat.ne_of_gt (Nat.lt_trans b.z lt)) (Nat.ne_of_gt (Nat.lt_trans b.TO lt)) (Nat.ne_of_gt (Nat.lt_trans b.i1 lt)) (Nat.ne_of_gt (Nat.lt_trans b.i2 lt)) e3)⟩
      · subst l1
        have ha : h.objs.size = a := by simpa using hj
        subst ha
        rw [hal]
        exact ⟨x1, x2, q1, q2, up _ _ (Nat.ne_of_gt hSl) ht⟩
      · have hnone : (as ++ [h.objs.size])[j]? = none := List.getElem?_eq_none (by rw [List.length_append, List.length_singleton]; omega)
        rw [hnone] at hj; cases hj
theorem zip_no_len : typeLookup (.type "zip") "__len__" = pure none := by rw [typeLookup_type, builtinLookup_eq_fast]; kernel_rfl
theorem zip_no_hint : typeLookup (.type "zip") "__length_hint__" = pure none := by rw [typeLookup_type, builtinLookup_eq_fast]; kernel_rfl
theorem ZSt.isZip {i : Nat} {h : Heap} (q : ZSt z TI TO i1 i2 S St1 St2 i h) : (∃ f0, IsZip h z TI TO f0) ∨ ∃ T, IsZipHeld h z TI TO T true := by
  rcases q.2.2.2 with ⟨a, _⟩ | ⟨T, f, _, a, _⟩
  · exact .inl ⟨_, a⟩
  · cases f with
    | true => exact .inr ⟨T, a⟩
    | false => exact .inl ⟨_, a⟩
theorem zl_extend (hh : A.handled = none) (Z : ZipSep2 z TI TO i1 i2 fp1 fp2) (D1 : Draws prog w A.in1.in1 i1 fp1 n P1 St1) (D2 : Draws prog w A.in1.in1 i2 fp2 n P2 St2) (b : Beh z TI TO i1 i2 S fp1 fp2) (hn : n ≤ sizeLine) (res : Value) (c0 : Nat)
    (hz : IsZip s.heap z TI TO .none) (hTO : ∃ a1 a2, IsTupOf2 s.heap TO a1 a2) (hTI : IsTupOf2 s.heap TI (.ref i1) (.ref i2)) (st1 : St1 0 s.heap) (st2 : St2 0 s.heap) (hS : s.heap.get? S = some { cls := .type "list", data := .seq #[] c0 })
    (hR : ∀ h' tk acc c as, (∀ b o, b ≠ S → b ≠ z → b ≠ TO → b ≠ i1 → b ≠ i2 → s.heap.get? b = some o → h'.get? b = some o) → h'.get? S = some { cls := .type "list", dict := none, data := .seq acc c, slots := #[] } → as.length = n → ZG P1 P2 S h' as →
      acc.toList = as.map Value.ref → R (.ok (.ret res)) { s with heap := h', toks := tk }) :
    wpAny (model prog w) A.in1 (Builtin.List.listExtendWith (.ref S) (.ref z) res)
      (fun fin s' => match fin with | .done f => R (.ok f) s' | .again c' => c'.quiet = true ∧ codeAny (model prog w) A c' R s') (fun e s' => R (.error e) s') s := by
  have hT : s.TypeIs (.ref z) "zip" := ⟨_, hz, rfl⟩
  unfold Builtin.List.listExtendWith
  refine wpAny_bind (wpAny_typeOf hT ?_)
  have h1 : Builtin.List.listSameRef (.ref S) (.ref z) = false := by simp [Builtin.List.listSameRef, Nat.ne_of_gt b.z]
  have h2 : (Value.type "zip" == Value.type "list") = false := by decide
  have h3 : (Value.type "zip" == Value.type "tuple") = false := by decide
  simp only [h1, h2, h3, Bool.or_false, Bool.false_eq_true, if_false]
  refine wpAny_bind (wpAny_pyIter_zip hz ?_)
  refine wpAny_bind (wpAny_holding ?_)
  unfold Builtin.List.listLengthHint
  refine wpAny_bind (wpAny_specialOf hT zip_no_len ?_)
  show wpAny _ A.in1 (specialOf (Value.ref z) (Str.ofString "__length_hint__") >>= _) _ _ _
  refine wpAny_bind (wpAny_specialOf hT zip_no_hint ?_)
  refine wpAny_pure ?_
  show wpAny _ A.in1 (rule "list.extend.makes-room" >>= fun _ => Builtin.List.listTouch (.ref S) >>= fun _ =>
    again (.builtin "list.extend.loop" ⟨[.ref S, .ref z, res], []⟩)) _ _ _
  refine wpAny_bind (wpAny_rule ?_)
  refine wpAny_bind ?_
  show wpAny _ _ (updateSeq S (·.push .none) >>= fun _ => updateSeq S (·.pop)) _ _ _
  refine wpAny_bind (wpAny_updateSeq hS rfl ?_)
  have hS2 := Heap.get?_update_self (Obj.mapSeq (·.push Value.none)) hS rfl
  refine wpAny_updateSeq (hz := by seq_fits) hS2 rfl ?_
  have hS3 := Heap.get?_update_self (Obj.mapSeq (·.pop)) hS2 rfl
  have oth : ∀ c o, c ≠ S → s.heap.get? c = some o → ((s.heap.update S (Obj.mapSeq (·.push Value.none))).update S (Obj.mapSeq (·.pop))).get? c = some o :=
    fun c o hb e => (Heap.get?_update_other _ _ (Ne.symm hb)).trans ((Heap.get?_update_other _ _ (Ne.symm hb)).trans e)
  refine wpAny_pure ⟨plainId_quiet PySem.F.plain_extend_loop _, ?_⟩
  refine zl_loop (s := s) (h1 := s.heap) hh Z D1 D2 b hn res hR n 0 _ s.toks _ #[] [] (Nat.sub_zero _) (Nat.zero_le _) (ZSt.keep (⟨hTI, st1, st2, .inl ⟨hz, hTO⟩⟩ : ZSt z TI TO i1 i2 S St1 St2 0 s.heap) D1 D2 b oth) (fun b o h1 _ _ _ _ e => oth b o h1 e) hS3 rfl rfl ⟨List.Pairwise.nil, (fun _ ha => nomatch ha), (fun j a hj => by simp at hj)⟩
theorem zl_init (hh : A.handled = none) (Z : ZipSep2 z TI TO i1 i2 fp1 fp2) (D1 : Draws prog w A.in1.in1 i1 fp1 n P1 St1) (D2 : Draws prog w A.in1.in1 i2 fp2 n P2 St2) (b : Beh z TI TO i1 i2 S fp1 fp2) (hn : n ≤ sizeLine)
    (hz : IsZip s.heap z TI TO .none) (hTO : ∃ a1 a2, IsTupOf2 s.heap TO a1 a2) (hTI : IsTupOf2 s.heap TI (.ref i1) (.ref i2)) (st1 : St1 0 s.heap) (st2 : St2 0 s.heap) (hS : s.heap.get? S = some { cls := .type "list", data := .seq #[] })
    (hR : ∀ h' tk acc c as, (∀ b o, b ≠ S → b ≠ z → b ≠ TO → b ≠ i1 → b ≠ i2 → s.heap.get? b = some o → h'.get? b = some o) → h'.get? S = some { cls := .type "list", dict := none, data := .seq acc c, slots := #[] } → as.length = n → ZG P1 P2 S h' as →
      acc.toList = as.map Value.ref → R (.ok (.ret .none)) { s with heap := h', toks := tk }) :
    wpAny (model prog w) A.in1 (Builtin.«list.__init__» ⟨[.ref S, .ref z], []⟩)
      (fun fin s' => match fin with | .done f => R (.ok f) s' | .again c' => c'.quiet = true ∧ codeAny (model prog w) A c' R s') (fun e s' => R (.error e) s') s := by
  show wpAny _ _ (do let old ← Builtin.List.listItems (.ref S); Builtin.List.listUpdate (.ref S) (fun _ => #[]); letGo old.toList.reverse; Builtin.List.listExtendWith (.ref S) (.ref z) .none) _ _ s
  refine wpAny_bind ?_
  unfold Builtin.List.listItems
  refine wpAny_bind (wpAny_seqItems hS rfl (wpAny_pure ?_))
  show wpAny _ _ (updateSeq S (fun _ => #[]) >>= fun _ => letGo (#[] : Array Value).toList.reverse >>= fun _ => Builtin.List.listExtendWith (.ref S) (.ref z) .none) _ _ s
  refine wpAny_bind (wpAny_updateSeq hS rfl ?_)
  have hS2 := Heap.get?_update_self (Obj.mapSeq (fun _ => (#[] : Array Value))) hS rfl
  have oth : ∀ c o, c ≠ S → s.heap.get? c = some o → (s.heap.update S (Obj.mapSeq (fun _ => (#[] : Array Value)))).get? c = some o :=
    fun c o hb e => (Heap.get?_update_other _ _ (Ne.symm hb)).trans e
  refine wpAny_bind (wpAny_letGo ?_)
  refine zl_extend hh Z D1 D2 b hn .none _ (oth _ _ (Nat.ne_of_lt b.z) hz) (let ⟨a1, a2, e⟩ := hTO; ⟨a1, a2, oth _ _ (Nat.ne_of_lt b.TO) e⟩) (oth _ _ (Nat.ne_of_lt b.TI) hTI)
    (D1.frame _ _ _ st1 fun c hc o e => oth c o (Nat.ne_of_lt (b.f1 c hc)) e) (D2.frame _ _ _ st2 fun c hc o e => oth c o (Nat.ne_of_lt (b.f2 c hc)) e) hS2 (fun h' tk acc c as hk hS' hl hG hacc => ?_)
  exact hR h' tk acc c as (fun b o h1 h2 h3 h4 h5 e => hk b o h1 h2 h3 h4 h5 (oth b o h1 e)) hS' hl hG hacc
/-- list(z) -/
theorem zl_call {Q : Value → Shared → Prop} (hh : A.handled = none) (Z : ZipSep2 z TI TO i1 i2 fp1 fp2) (D1 : Draws prog w A.in1.in1.in1 i1 fp1 n P1 St1) (D2 : Draws prog w A.in1.in1.in1 i2 fp2 n P2 St2) (b : Beh z TI TO i1 i2 s.heap.objs.size fp1 fp2) (hn : n ≤ sizeLine)
    (hz : IsZip s.heap z TI TO .none) (hTO : ∃ a1 a2, IsTupOf2 s.heap TO a1 a2) (hTI : IsTupOf2 s.heap TI (.ref i1) (.ref i2)) (st1 : St1 0 s.heap) (st2 : St2 0 s.heap)
    (hQ : ∀ h' tk acc c as, (∀ b o, b ≠ z → b ≠ TO → b ≠ i1 → b ≠ i2 → s.heap.get? b = some o → h'.get? b = some o) → h'.get? s.heap.objs.size = some { cls := .type "list", dict := none, data := .seq acc c, slots := #[] } → as.length = n → ZG P1 P2 s.heap.objs.size h' as →
      acc.toList = as.map Value.ref → Q (.ref s.heap.objs.size) { s with heap := h', toks := tk }) :
    wpAny (model prog w) A (call (.type "list") [.ref z]) Q E s := by
  refine callType_codes (Q₁ := fun obj s₁ => obj = .ref s.heap.objs.size ∧ s₁ = { s with heap := s.heap.push { cls := .type "list", data := .seq #[] } }) PySem.F.called_list (PySem.F.typeCall_list_1 _) PySem.F.entry_list_init
    (code_list_new _ ⟨rfl, rfl⟩) fun obj s₁ h₁ => ?_
  obtain ⟨rfl, rfl⟩ := h₁
  have hS : (s.heap.push { cls := .type "list", data := .seq #[] }).get? s.heap.objs.size = some { cls := .type "list", data := .seq #[] } := Heap.get?_push_size _ rfl
  have up : ∀ c o, s.heap.get? c = some o → (s.heap.push { cls := .type "list", data := .seq #[] }).get? c = some o := fun c o e => Heap.get?_push_of_some _ e
  refine ⟨⟨_, hS, rfl⟩, PySem.F.args_list_init_2 _ _, zl_init (A := A.in1) hh Z D1 D2 b hn (up _ _ hz) (let ⟨a1, a2, e⟩ := hTO; ⟨a1, a2, up _ _ e⟩) (up _ _ hTI) (D1.frame _ _ _ st1 fun c _ o e => up c o e) (D2.frame _ _ _ st2 fun c _ o e => up c o e) hS (fun h' tk acc c as hk hS' hl hG hacc => ?_)⟩
  exact ⟨rfl, hQ h' tk acc c as (fun b o h2 h3 h4 h5 e => hk b o (Nat.ne_of_lt (Heap.lt_size e)) h2 h3 h4 h5 (up b o e)) hS' hl hG hacc⟩
/-- the zip's items gathered -/
theorem zl_collect {R : List Value → Shared → Prop} (hh : A.handled = none) (Z : ZipSep2 z TI TO i1 i2 fp1 fp2) (D1 : Draws prog w A.in1.in1 i1 fp1 n P1 St1) (D2 : Draws prog w A.in1.in1 i2 fp2 n P2 St2) (b : Beh z TI TO i1 i2 s.heap.objs.size fp1 fp2) (hn : n ≤ sizeLine)
    (hz : IsZip s.heap z TI TO .none) (hTO : ∃ a1 a2, IsTupOf2 s.heap TO a1 a2) (hTI : IsTupOf2 s.heap TI (.ref i1) (.ref i2)) (st1 : St1 0 s.heap) (st2 : St2 0 s.heap)
    (h : ∀ (h' : Heap) (tk : Nat) (as : List Addr), (∀ b o, b ≠ z → b ≠ TO → b ≠ i1 → b ≠ i2 → s.heap.get? b = some o → h'.get? b = some o) → as.length = n → ZG P1 P2 s.heap.objs.size h' as → R (as.map Value.ref) { s with heap := h', toks := tk }) :
    wpAny (model prog w) A (collect (.ref z)) R E s := by
  unfold collect
  refine wpAny_bind (wpAny_runValue (codeAny_builtin PySem.F.entry_proto_collect ?_))
  rw [Around.under_plainId PySem.F.plain_proto_collect _]
  show wpAny _ A.in1 (newList [] >>= fun l => again (.builtin "list.__iadd__" ⟨[l, .ref z], []⟩)) _ _ s
  refine wpAny_bind (wpAny_newObj_type ?_)
  refine wpAny_pure ⟨plainId_quiet PySem.F.plain_list_iadd _, codeAny_builtin PySem.F.entry_list_iadd ?_⟩
  rw [Around.under_plainId PySem.F.plain_list_iadd _]
  have hS₁ : (s.heap.push { cls := .type "list", data := .seq ([] : List Value).toArray }).get? s.heap.objs.size = some { cls := .type "list", data := .seq #[] } := Heap.get?_push_size _ rfl
  have up : ∀ c o, s.heap.get? c = some o → (s.heap.push { cls := .type "list", data := .seq ([] : List Value).toArray }).get? c = some o := fun c o e => Heap.get?_push_of_some _ e
  show wpAny _ A.in1 (Builtin.List.listExtendWith (.ref s.heap.objs.size) (.ref z) (.ref s.heap.objs.size)) _ _ _
  have key := zl_extend (prog := prog) (w := w) (A := A) (s := { s with heap := s.heap.push { cls := .type "list", data := .seq ([] : List Value).toArray } }) (P1 := P1) (P2 := P2) (St1 := St1) (St2 := St2)
    (R := fun (q : Result) (s' : Shared) => ∃ (h' : Heap) (tk : Nat) (acc' : Array Value) (c' : Nat) (as : List Addr), q = .ok (.ret (.ref s.heap.objs.size)) ∧ s' = { s with heap := h', toks := tk } ∧
      (∀ b o, b ≠ z → b ≠ TO → b ≠ i1 → b ≠ i2 → s.heap.get? b = some o → h'.get? b = some o) ∧ h'.get? s.heap.objs.size = some { cls := .type "list", dict := none, data := .seq acc' c', slots := #[] } ∧ as.length = n ∧ ZG P1 P2 s.heap.objs.size h' as ∧ acc'.toList = as.map Value.ref)
    hh Z D1 D2 b hn (.ref s.heap.objs.size) 0 (up _ _ hz) (let ⟨a1, a2, e⟩ := hTO; ⟨a1, a2, up _ _ e⟩) (up _ _ hTI) (D1.frame _ _ _ st1 fun c _ o e => up c o e) (D2.frame _ _ _ st2 fun c _ o e => up c o e) hS₁
    (fun h' tk acc' c' as hk hS' hl hG hacc => ⟨h', tk, acc', c', as, rfl, rfl, fun b o h2 h3 h4 h5 e => hk b o (Nat.ne_of_lt (Heap.lt_size e)) h2 h3 h4 h5 (up b o e), hS', hl, hG, hacc⟩)
  refine wpAny_mono key (fun fin s' x => ?_) fun e s' x => ?_
  · cases fin with
    | done f =>
      obtain ⟨h', tk, acc', c', as, e, rfl, hk, hS', hl, hG, hacc⟩ := x
      cases e
      show wpAny _ A (load s.heap.objs.size >>= _) _ _ _
      refine wpAny_bind (wpAny_load hS' ?_)
      refine wpAny_pure ?_
      show R acc'.toList _
      rw [hacc]
      exact h h' tk as hk hl hG
    | again c₁ =>
      refine ⟨x.1, codeAny_mono x.2 fun q s₂ y => ?_⟩
      obtain ⟨h', tk, acc', c', as, rfl, rfl, hk, hS', hl, hG, hacc⟩ := y
      show wpAny _ A (load s.heap.objs.size >>= _) _ _ _
      refine wpAny_bind (wpAny_load hS' ?_)
      refine wpAny_pure ?_
      show R acc'.toList _
      rw [hacc]
      exact h h' tk as hk hl hG
  · obtain ⟨_, _, _, _, _, e', _⟩ := x
    cases e'
/-- tuple(z) -/
theorem zl_codeT {Q₁ : Value → Shared → Prop} (hh : A.handled = none) (Z : ZipSep2 z TI TO i1 i2 fp1 fp2) (D1 : Draws prog w A.in1.in1.in1 i1 fp1 n P1 St1) (D2 : Draws prog w A.in1.in1.in1 i2 fp2 n P2 St2) (b : Beh z TI TO i1 i2 s.heap.objs.size fp1 fp2) (hn : n ≤ sizeLine)
    (hz : IsZip s.heap z TI TO .none) (hTO : ∃ a1 a2, IsTupOf2 s.heap TO a1 a2) (hTI : IsTupOf2 s.heap TI (.ref i1) (.ref i2)) (st1 : St1 0 s.heap) (st2 : St2 0 s.heap)
    (h : ∀ (h' : Heap) (tk : Nat) (as : List Addr), (∀ b o, b ≠ z → b ≠ TO → b ≠ i1 → b ≠ i2 → s.heap.get? b = some o → h'.get? b = some o) → as.length = n → ZG P1 P2 s.heap.objs.size h' as →
      Q₁ (.ref h'.objs.size) { s with heap := h'.push { cls := .type "tuple", data := .seq (as.map Value.ref).toArray }, toks := tk }) :
    codeAny (model prog w) A (.call (.builtin "tuple.__new__") ⟨[.type "tuple", .ref z], []⟩) (wants Q₁ E) s := by
  refine codeAny_of_tree ?_
  show wpAny _ A.in1 (do checkBuiltinCall "tuple.__new__" ⟨[.type "tuple", .ref z], []⟩; again (.builtin "tuple.__new__" ⟨[.type "tuple", .ref z], []⟩)) _ _ s
  refine wpAny_bind (wpAny_of_eq (PySem.F.newCall_tuple_1 _) (wpAny_pure ⟨plainId_quiet PySem.F.plain_tuple_new _, codeAny_builtin PySem.F.entry_tuple_new ?_⟩))
  rw [Around.under_plainId PySem.F.plain_tuple_new _]
  have hsub := sub_tuple_self
  have hinit := init_tuple_lookup
  have hmh := madeHere_tuple
  have hTI' : s.TypeIs (.ref z) "zip" := ⟨_, hz, rfl⟩
  wp_walk using wpAny_typeOf hTI', zl_collect (A := A.in1) hh Z D1 D2 b hn hz hTO hTI st1 st2
  intro h' tk as hk hl hG
  show wpAny _ _ (Builtin.Tuple.tupleExact (as.map Value.ref).toArray >>= fun v => ret v) _ _ _
  unfold Builtin.Tuple.tupleExact
  refine wpAny_bind (wpAny_newObj_type ?_ (by show (as.map Value.ref).toArray.size ≤ sizeLine; rw [List.size_toArray, List.length_map, hl]; exact hn))
  refine wpAny_pure ?_
  exact h h' tk as hk hl hG
theorem zl_tuple {Q : Value → Shared → Prop} (hh : A.handled = none) (Z : ZipSep2 z TI TO i1 i2 fp1 fp2) (D1 : Draws prog w A.in1.in1.in1.in1 i1 fp1 n P1 St1) (D2 : Draws prog w A.in1.in1.in1.in1 i2 fp2 n P2 St2) (b : Beh z TI TO i1 i2 s.heap.objs.size fp1 fp2) (hn : n ≤ sizeLine)
    (hz : IsZip s.heap z TI TO .none) (hTO : ∃ a1 a2, IsTupOf2 s.heap TO a1 a2) (hTI : IsTupOf2 s.heap TI (.ref i1) (.ref i2)) (st1 : St1 0 s.heap) (st2 : St2 0 s.heap)
    (hQ : ∀ (h' : Heap) (tk : Nat) (as : List Addr), (∀ b o, b ≠ z → b ≠ TO → b ≠ i1 → b ≠ i2 → s.heap.get? b = some o → h'.get? b = some o) → as.length = n → ZG P1 P2 s.heap.objs.size h' as →
      Q (.ref h'.objs.size) { s with heap := h'.push { cls := .type "tuple", data := .seq (as.map Value.ref).toArray }, toks := tk }) :
    wpAny (model prog w) A (call (.type "tuple") [.ref z]) Q E s := by
  refine callType_codes (Q₁ := fun obj s₁ => s₁.TypeIs obj "tuple" ∧ Q obj s₁) PySem.F.called_tuple (PySem.F.typeCall_tuple_1 _) PySem.F.entry_object_init
    (zl_codeT (A := A.in1) hh Z D1 D2 b hn hz hTO hTI st1 st2 fun h' tk as hk hl hG => ⟨⟨_, Heap.get?_push_size _ rfl, rfl⟩, hQ h' tk as hk hl hG⟩) fun obj s₁ h₁ => ?_
  exact ⟨h₁.1, PySem.F.args_object_init_2 obj _, object_init_meets PySem.F.called_tuple.init.lookup PySem.F.called_tuple.made (by decide) prog w A.in1 _ s₁ ⟨h₁.1, rfl, h₁.2⟩⟩
end
end U6R
set_option Elab.async false
set_option linter.all false
set_option maxRecDepth 100000
set_option maxHeartbeats 4000000
/-! The rules over the layer: list(zip(a, b)), tuple(zip(a, b)), dict(t). -/
namespace U6R
open PySem PySem.Spec PyProof.Rows L2
theorem put_laid {X : Cx} {pins : List (Addr × Obj)} {σ : L2.St} {H : Hp} {s : Shared} {h' : Heap} {tk : Nat} {kvs : List (Key × V)} {as : List Addr} {S : Addr} {u : HO} (I : Inv X pins σ H s)
    (hk : ∀ b o, s.heap.get? b = some o → h'.get? b = some o) (lo : s.heap.objs.size ≤ S) (hS : ∀ H', ObjOk X.prog X.w H' h' S u) (hSn : S ∉ as) (hl : as.length = kvs.length) (nd : as.Nodup) (ab : ∀ a ∈ as, s.heap.objs.size ≤ a)
    (hp : ∀ (j : Nat) (a : Addr), as[j]? = some a → ∃ q x1 x2, kvs[j]? = some q ∧ RelV (kV q.1) x1 ∧ RelV q.2 x2 ∧ IsTupOf2 h' a x1 x2) :
    ∃ H' : Hp, Same H H' ∧ H S = none ∧ (∀ t ∈ as, H t = none) ∧ H' S = some u ∧ Paired (fun (t : Addr) (q : Key × V) => H' t = some (.tup [kV q.1, q.2])) as kvs ∧ Inv X pins σ H' { s with heap := h', toks := tk } := by
  have new : ∀ t ∈ as, H t = none := fun t ht => I.hok.fresh (ab t ht)
  have newS : H S = none := I.hok.fresh lo
  have atP := LiI.putT_at as kvs (upd H S u) hl nd
  have off : ∀ b, b ∉ as → b ≠ S → LiI.putT (upd H S u) as kvs b = H b := fun b h1 h2 => by rw [LiI.putT_off as kvs _ h1, upd_ne h2]
  have low : ∀ b o, s.heap.get? b = some o → b ∉ as ∧ b ≠ S := fun b o e => ⟨fun z => absurd (Heap.lt_size e) (Nat.not_lt.mpr (ab b z)), Nat.ne_of_lt (Nat.lt_of_lt_of_le (Heap.lt_size e) lo)⟩
  have kp : ∀ b v, H b = some v → (LiI.putT (upd H S u) as kvs) b = some v := fun b v e => by
    rw [off b (fun z => by rw [new b z] at e; cases e) (fun z => by rw [z, newS] at e; cases e)]
    exact e
  have eS : LiI.putT (upd H S u) as kvs S = some u := by rw [LiI.putT_off as kvs _ hSn, upd_same]
  refine ⟨LiI.putT (upd H S u) as kvs, kp, newS, new, eS, atP, ?_⟩
  refine I.call' (ch := []) rfl ⟨fun b o q _ _ _ => hk b o q, fun b o q _ _ _ => ⟨o.slots, hk b o q⟩, fun b o q n _ => ?_, fun b o q _ => ⟨o, hk b o q⟩, fun b xs q => kp b _ q, fun b o u q => kp b _ q, fun b ps q => ⟨#[], by rw [kp b _ q]; simp⟩⟩ (fun b v q => ?_) I.bare fun b z => by simp at z
  · obtain ⟨z1, z2⟩ := low b o q
    rw [off b z1 z2]
    exact n
  · by_cases hb : b ∈ as
    · obtain ⟨j, pk, e1, e2, e3⟩ := LiI.paired_ix atP hb
      rw [e3] at q
      cases q
      obtain ⟨q', x1, x2, f1, f2, f3, f4⟩ := hp j b e1
      rw [e2] at f1
      cases f1
      exact ⟨by show 2 ≤ sizeLine; decide, [x1, x2], .cons f2 (.cons f3 .nil), ⟨_, f4, rfl, _, rfl⟩⟩
    · by_cases hb2 : b = S
      · rw [hb2] at q ⊢
        rw [eS] at q
        cases q
        exact hS _
      · rw [off b hb hb2] at q
        exact (I.hok b v q).stay (fun d v _ y => hk d v y) (fun d y => kp d _ y) fun d xs y => kp d _ y
/-- the pairs of a list and a tuple, in new tuples -/
def ZipOut (K : PySem.W.Frag) (mk : List Addr → HO → Prop) : List V → Hp → VK → Prop := fun vs H1 Q => ∃ (a b : Addr) (ks : List Key) (ys : List V), vs = [.ref a, .ref b] ∧ SqL K H1 a (ks.map kV) ∧ SqT K H1 b ys ∧ ks.length = ys.length ∧
  ∀ (H' : Hp) (p : Addr) (ts : List Addr) (u : HO), Same H1 H' → H1 p = none → (∀ t ∈ ts, H1 t = none) → mk ts u → H' p = some u → Paired (fun (t : Addr) (q : Key × V) => H' t = some (.tup [kV q.1, q.2])) ts (ks.zip ys) → Q (.ref p) H'
def mkL (ts : List Addr) (u : HO) : Prop := u = .lst (ts.map V.ref)
def mkT (ts : List Addr) (u : HO) : Prop := ∃ o, u = .frz o (.tup (ts.map V.ref)) ∧ o.cls = .type "tuple" ∧ o.dict = none ∧ o.data = .seq (ts.map Value.ref).toArray
def tZipOut (K : PySem.W.Frag) (mk : List Addr → HO → Prop) (ta : TA) : TE := fun σ H Q => ta σ H fun vs H1 => ZipOut K mk vs H1 Q
section
variable {X : Cx} {e e2 : Expr} {ta : TA} {p p2 pos zpos : Pos} {mk : List Addr → HO → Prop}
theorem zip_get {ks : List Key} {ys : List V} {us ws : List Value} (r1 : Vals (ks.map kV) us) (r2 : Vals ys ws) (hl : ks.length = ys.length) {j : Nat} {x1 x2 : Value} (h1 : us.toArray[j]? = some x1) (h2 : ws.toArray[j]? = some x2) :
    ∃ q, (ks.zip ys)[j]? = some q ∧ RelV (kV q.1) x1 ∧ RelV q.2 x2 := by
  have g1 : us[j]? = some x1 := by simpa using h1
  have g2 : ws[j]? = some x2 := by simpa using h2
  obtain ⟨v1, e1, rv1⟩ := U6.paired_at' r1 g1
  obtain ⟨v2, e2, rv2⟩ := U6.paired_at' r2 g2
  rw [List.getElem?_map] at e1
  cases ek : ks[j]? with
  | none => rw [ek] at e1; cases e1
  | some k =>
    rw [ek] at e1
    have z : kV k = v1 := Option.some.inj e1
    subst z
    refine ⟨(k, v2), ?_, rv1, rv2⟩
    rw [List.getElem?_zip_eq_some]
    exact ⟨ek, e2⟩
theorem pe_listZip (hc : X.calm = true) (ha : PA X [e, e2] ta) (hg : Gl X "list") (hm : X.mg "list" = none) (hgz : Gl X "zip") (hmz : X.mg "zip" = none) (hv : bootBuiltins "list" = some (.type "list") := by decide +kernel)
    (hs : starEach [.Call (.Name "zip" p2) [e, e2] [] zpos] X.env = (false, eval (.Call (.Name "zip" p2) [e, e2] [] zpos) X.env) :: starEach [] X.env := by rfl)
    (hs2 : starEach [e, e2] X.env = (false, eval e X.env) :: starEach [e2] X.env := by rfl) (hpl : (backTo zpos (starEach [e2] X.env)).any (·.1) = false := by rfl) :
    PE X (.Call (.Name "list" p) [.Call (.Name "zip" p2) [e, e2] [] zpos] [] pos) (tZipOut X.K mkL ta) := by
  refine ⟨fun pins s σ H Q I hq => ?_⟩
  refine wpAny_Call_Name_kw (ld_blt I hg hm hv ?_)
  refine PyProof.Rows.callWith_type1 ?_ hs rfl
  rw [hs]
  show wpAny _ _ (spliced ((false, eval (.Call (.Name "zip" p2) [e, e2] [] zpos) X.env) :: backTo pos (starEach [] X.env))) _ _ s
  refine Calls.spliced_cons ?_
  refine Call_ (ld_blt I hgz hmz PyProof.Rows.boot_zip (PyProof.Rows.callWith_type1 (thn (ha.run zpos pins s σ H _ I hq) fun us s1 ⟨vs, H1, I1, r1, q1⟩ => ?_) hs2 hpl))
  obtain ⟨a, b, ks, ys, ex, hx, hy, hl, q⟩ := q1
  subst ex
  cases r1 with
  | cons r rr =>
  cases rr with
  | cons r' rr =>
  cases rr
  cases r
  cases r'
  obtain ⟨its, rv, pl, hz⟩ := I1.list hx
  obtain ⟨its2, rv2, pt, _⟩ := I1.tuple hy
  have pt : s1.heap.IsTuple b its2.toArray := pt
  have l1 := rv.length
  have l2 := rv2.length
  rw [List.length_map] at l1 hz
  have la : a < s1.heap.objs.size := by obtain ⟨o, _, ho, _⟩ := pl; exact Heap.lt_size ho
  have lb : b < s1.heap.objs.size := by obtain ⟨o, ho, _⟩ := id pt; exact Heap.lt_size ho
  refine zip_begins2 (begins_list a its.toArray) (begins_tuple b its2.toArray) pl.isList pt fun h' hzp hTI hTO g1 g2 hsz hk => ?_
  refine Calls.spliced_nil ?_
  have na : a ≠ s1.heap.objs.size := Nat.ne_of_lt la
  have nb : b ≠ s1.heap.objs.size + 1 := Nat.ne_of_lt (Nat.lt_succ_of_lt lb)
  have Z := zip_sep2 (N := s1.heap.objs.size) (fp1 := [a]) (fp2 := [b]) (fun c hc => by rw [List.mem_singleton.mp hc]; exact la) (fun c hc => by rw [List.mem_singleton.mp hc]; exact lb)
  have hh := I1.ok.hd hc
  have szN : its.toArray.size = ks.length := by rw [List.size_toArray]; exact l1.symm
  have szM : its2.toArray.size = ks.length := by rw [List.size_toArray, ← l2]; exact hl.symm
  have D1 := Draws.list (prog := X.prog) (w := X.w) (A := X.A.in1.in1.in1) hh s1.heap.objs.size a na its.toArray
  have D2 := Draws.tuple (prog := X.prog) (w := X.w) (A := X.A.in1.in1.in1) hh (s1.heap.objs.size + 1) b nb its2.toArray
  rw [szN] at D1
  rw [szM] at D2
  have B : Beh (s1.heap.objs.size + 4) (s1.heap.objs.size + 2) (s1.heap.objs.size + 3) s1.heap.objs.size (s1.heap.objs.size + 1) h'.objs.size [s1.heap.objs.size, a] [s1.heap.objs.size + 1, b] := by
    rw [hsz]
    refine ⟨Nat.lt_succ_self _, Nat.add_lt_add_left (by decide) _, Nat.add_lt_add_left (by decide) _, Nat.lt_add_of_pos_right (by decide), Nat.add_lt_add_left (by decide) _, fun c hc => ?_, fun c hc => ?_⟩
    · rcases List.mem_cons.mp hc with z | z
      · rw [z]; exact Nat.lt_add_of_pos_right (by decide)
      · rw [List.mem_singleton.mp z]; exact Nat.lt_of_lt_of_le la (Nat.le_add_right _ _)
    · rcases List.mem_cons.mp hc with z | z
      · rw [z]; exact Nat.add_lt_add_left (by decide) _
      · rw [List.mem_singleton.mp z]; exact Nat.lt_of_lt_of_le lb (Nat.le_add_right _ _)
  refine zl_call (s := { s1 with heap := h' }) hh Z D1 D2 B hz hzp ⟨_, _, hTO⟩ hTI ⟨⟨_, g1, rfl, rfl⟩, pl.isList.at fun o e => hk _ o e⟩ ⟨⟨_, g2, rfl, rfl⟩, pt.at fun o e => hk _ o e⟩ fun h2 tk acc c as hk2 hS hal hG hacc => ?_
  have lo : s1.heap.objs.size ≤ h'.objs.size := by rw [hsz]; exact Nat.le_add_right _ _
  have keep : ∀ c o, s1.heap.get? c = some o → h2.get? c = some o := fun c o e => by
    have lc := Heap.lt_size e
    have r0 : ∀ k, c ≠ s1.heap.objs.size + k := fun k => Nat.ne_of_lt (Nat.lt_of_lt_of_le lc (Nat.le_add_right _ _))
    exact hk2 c o (r0 4) (r0 3) (r0 0) (r0 1) (hk c o e)
  have nS : h'.objs.size ∉ as := fun z => Nat.lt_irrefl _ (hG.above _ z)
  obtain ⟨H', k1, k2, k3, k4, k5, J⟩ := put_laid (tk := tk) (kvs := ks.zip ys) (as := as) (S := h'.objs.size) (u := .lst (as.map V.ref)) I1 keep lo
    (fun _ => ⟨by rw [List.length_map, hal]; exact hz, acc.toList, c, by rw [hacc]; exact LiI.vals_refs as, by rw [Array.toArray_toList]; exact hS⟩) nS (by rw [List.length_zip, hal, ← hl, Nat.min_self])
    (List.Pairwise.imp (fun {a b} (h : a < b) => Nat.ne_of_lt h) hG.rise) (fun t ht => Nat.le_of_lt (Nat.lt_of_le_of_lt lo (hG.above t ht))) (fun j t hj => by
      obtain ⟨x1, x2, p1, p2, e3⟩ := hG.pairs j t hj
      obtain ⟨q', f1, f2, f3⟩ := zip_get rv rv2 hl p1 p2
      exact ⟨q', x1, x2, f1, f2, f3, e3⟩)
  exact ⟨.ref _, H', J, rfl, q H' _ as _ k1 k2 k3 rfl k4 k5⟩
theorem pe_tupZip (hc : X.calm = true) (ha : PA X [e, e2] ta) (hg : Gl X "tuple") (hm : X.mg "tuple" = none) (hgz : Gl X "zip") (hmz : X.mg "zip" = none) (hv : bootBuiltins "tuple" = some (.type "tuple") := by decide +kernel)
    (hs : starEach [.Call (.Name "zip" p2) [e, e2] [] zpos] X.env = (false, eval (.Call (.Name "zip" p2) [e, e2] [] zpos) X.env) :: starEach [] X.env := by rfl)
    (hs2 : starEach [e, e2] X.env = (false, eval e X.env) :: starEach [e2] X.env := by rfl) (hpl : (backTo zpos (starEach [e2] X.env)).any (·.1) = false := by rfl) :
    PE X (.Call (.Name "tuple" p) [.Call (.Name "zip" p2) [e, e2] [] zpos] [] pos) (tZipOut X.K mkT ta) := by
  refine ⟨fun pins s σ H Q I hq => ?_⟩
  refine wpAny_Call_Name_kw (ld_blt I hg hm hv ?_)
  refine PyProof.Rows.callWith_type1 ?_ hs rfl
  rw [hs]
  show wpAny _ _ (spliced ((false, eval (.Call (.Name "zip" p2) [e, e2] [] zpos) X.env) :: backTo pos (starEach [] X.env))) _ _ s
  refine Calls.spliced_cons ?_
  refine Call_ (ld_blt I hgz hmz PyProof.Rows.boot_zip (PyProof.Rows.callWith_type1 (thn (ha.run zpos pins s σ H _ I hq) fun us s1 ⟨vs, H1, I1, r1, q1⟩ => ?_) hs2 hpl))
  obtain ⟨a, b, ks, ys, ex, hx, hy, hl, q⟩ := q1
  subst ex
  cases r1 with
  | cons r rr =>
  cases rr with
  | cons r' rr =>
  cases rr
  cases r
  cases r'
  obtain ⟨its, rv, pl, hz⟩ := I1.list hx
  obtain ⟨its2, rv2, pt, _⟩ := I1.tuple hy
  have pt : s1.heap.IsTuple b its2.toArray := pt
  have l1 := rv.length
  have l2 := rv2.length
  rw [List.length_map] at l1 hz
  have la : a < s1.heap.objs.size := by obtain ⟨o, _, ho, _⟩ := pl; exact Heap.lt_size ho
  have lb : b < s1.heap.objs.size := by obtain ⟨o, ho, _⟩ := id pt; exact Heap.lt_size ho
  refine zip_begins2 (begins_list a its.toArray) (begins_tuple b its2.toArray) pl.isList pt fun h' hzp hTI hTO g1 g2 hsz hk => ?_
  refine Calls.spliced_nil ?_
  have na : a ≠ s1.heap.objs.size := Nat.ne_of_lt la
  have nb : b ≠ s1.heap.objs.size + 1 := Nat.ne_of_lt (Nat.lt_succ_of_lt lb)
  have Z := zip_sep2 (N := s1.heap.objs.size) (fp1 := [a]) (fp2 := [b]) (fun c hc => by rw [List.mem_singleton.mp hc]; exact la) (fun c hc => by rw [List.mem_singleton.mp hc]; exact lb)
  have hh := I1.ok.hd hc
  have szN : its.toArray.size = ks.length := by rw [List.size_toArray]; exact l1.symm
  have szM : its2.toArray.size = ks.length := by rw [List.size_toArray, ← l2]; exact hl.symm
  have D1 := Draws.list (prog := X.prog) (w := X.w) (A := X.A.in1.in1.in1.in1) hh s1.heap.objs.size a na its.toArray
  have D2 := Draws.tuple (prog := X.prog) (w := X.w) (A := X.A.in1.in1.in1.in1) hh (s1.heap.objs.size + 1) b nb its2.toArray
  rw [szN] at D1
  rw [szM] at D2
  have B : Beh (s1.heap.objs.size + 4) (s1.heap.objs.size + 2) (s1.heap.objs.size + 3) s1.heap.objs.size (s1.heap.objs.size + 1) h'.objs.size [s1.heap.objs.size, a] [s1.heap.objs.size + 1, b] := by
    rw [hsz]
    refine ⟨Nat.lt_succ_self _, Nat.add_lt_add_left (by decide) _, Nat.add_lt_add_left (by decide) _, Nat.lt_add_of_pos_right (by decide), Nat.add_lt_add_left (by decide) _, fun c hc => ?_, fun c hc => ?_⟩
    · rcases List.mem_cons.mp hc with z | z
      · rw [z]; exact Nat.lt_add_of_pos_right (by decide)
      · rw [List.mem_singleton.mp z]; exact Nat.lt_of_lt_of_le la (Nat.le_add_right _ _)
    · rcases List.mem_cons.mp hc with z | z
      · rw [z]; exact Nat.add_lt_add_left (by decide) _
      · rw [List.mem_singleton.mp z]; exact Nat.lt_of_lt_of_le lb (Nat.le_add_right _ _)
  refine zl_tuple (s := { s1 with heap := h' }) hh Z D1 D2 B hz hzp ⟨_, _, hTO⟩ hTI ⟨⟨_, g1, rfl, rfl⟩, pl.isList.at fun o e => hk _ o e⟩ ⟨⟨_, g2, rfl, rfl⟩, pt.at fun o e => hk _ o e⟩ fun h2 tk as hk2 hal hG => ?_
  have lo : s1.heap.objs.size ≤ h'.objs.size := by rw [hsz]; exact Nat.le_add_right _ _
  have keep0 : ∀ c o, s1.heap.get? c = some o → h2.get? c = some o := fun c o e => by
    have lc := Heap.lt_size e
    have r0 : ∀ k, c ≠ s1.heap.objs.size + k := fun k => Nat.ne_of_lt (Nat.lt_of_lt_of_le lc (Nat.le_add_right _ _))
    exact hk2 c o (r0 4) (r0 3) (r0 0) (r0 1) (hk c o e)
  have up : ∀ c o, h2.get? c = some o → (h2.push { cls := .type "tuple", data := .seq (as.map Value.ref).toArray }).get? c = some o := fun c o e => Heap.get?_push_of_some _ e
  have keep : ∀ c o, s1.heap.get? c = some o → (h2.push { cls := .type "tuple", data := .seq (as.map Value.ref).toArray }).get? c = some o := fun c o e => up c o (keep0 c o e)
  have lo2 : s1.heap.objs.size ≤ h2.objs.size := by
    have q := hk2 _ _ Z.TIz Z.TITO Z.TIi1 Z.TIi2 hTI
    exact Nat.le_of_lt (Nat.lt_of_le_of_lt (Nat.le_add_right _ 2) (Heap.lt_size q))
  have nS : h2.objs.size ∉ as := fun z => Nat.lt_irrefl _ (hG.there z)
  have own : (h2.push { cls := .type "tuple", data := .seq (as.map Value.ref).toArray }).get? h2.objs.size = some { cls := .type "tuple", data := .seq (as.map Value.ref).toArray } := Heap.get?_push_size _ rfl
  obtain ⟨H', k1, k2, k3, k4, k5, J⟩ := put_laid (tk := tk) (kvs := ks.zip ys) (as := as) (S := h2.objs.size) (u := .frz { cls := .type "tuple", data := .seq (as.map Value.ref).toArray } (.tup (as.map V.ref))) I1 keep lo2
    (fun _ => ⟨own, by rw [List.length_map, hal]; exact hz, as.map Value.ref, LiI.vals_refs as, ⟨_, own, rfl, _, rfl⟩⟩) nS (by rw [List.length_zip, hal, ← hl, Nat.min_self])
    (List.Pairwise.imp (fun {a b} (h : a < b) => Nat.ne_of_lt h) hG.rise) (fun t ht => Nat.le_of_lt (Nat.lt_of_le_of_lt lo (hG.above t ht))) (fun j t hj => by
      obtain ⟨x1, x2, p1, p2, e3⟩ := hG.pairs j t hj
      obtain ⟨q', f1, f2, f3⟩ := zip_get rv rv2 hl p1 p2
      exact ⟨q', x1, x2, f1, f2, f3, up _ _ e3⟩)
  exact ⟨.ref _, H', J, rfl, q H' _ as _ k1 k2 k3 ⟨_, rfl, rfl, rfl, rfl⟩ k4 k5⟩
end
section
variable {X : Cx}
theorem pairs_of2 {pins : List (Addr × Obj)} {σ : L2.St} {H : Hp} {s : Shared} (I : Inv X pins σ H s) : ∀ {ps : List Addr} {kvs : List (Key × V)}, Paired (fun p kv => SqT X.K H p [kV kv.1, kv.2]) ps kvs →
    ∃ (prs : List (Key × Value)) (ws : List (Value × Value)), KV kvs prs ∧ prs.length = ps.length ∧ ws.length = ps.length ∧ ∀ (j : Nat) (k v : Value), ws[j]? = some (k, v) → ∃ b q, ps[j]? = some b ∧ prs[j]? = some (q, v) ∧ IsTup s.heap b #[k, v] ∧ keyIs q k = true
  | _, _, .nil => ⟨[], [], .nil, rfl, rfl, fun j k v e => by simp at e⟩
  | _, _, .cons (a := p) (b := kv) h t => by
    obtain ⟨prs, ws, r, hl, hw, hp⟩ := pairs_of2 I t
    obtain ⟨its, rv, ht, _⟩ := I.tuple h
    obtain ⟨u, y, ei, ru, ry⟩ := vals2 rv
    subst ei
    refine ⟨(kv.1, y) :: prs, (u, y) :: ws, .cons ⟨rfl, ry⟩ r, by rw [List.length_cons, List.length_cons, hl], by rw [List.length_cons, List.length_cons, hw], fun j k v e => ?_⟩
    cases j with
    | zero =>
      have e' : (u, y) = (k, v) := Option.some.inj e
      cases e'
      exact ⟨p, kv.1, rfl, rfl, ht, kV_is (P := X.prog) (w := X.w) ru⟩
    | succ j =>
      obtain ⟨b, q, e1, e2, e3, e4⟩ := hp j k v (by simpa using e)
      exact ⟨b, q, by simpa using e1, by simpa using e2, e3, e4⟩
/-- dict(t) of a known tuple of pairs -/
def rDictT (K : PySem.W.Frag) : List V → Hp → VK → Prop := fun xs H Q => ∃ (a : Addr) (o : Obj) (ps : List Addr) (kvs : List (Key × V)), xs = [.ref a] ∧ H a = some (.frz o (.tup (ps.map V.ref))) ∧ o.cls = .type "tuple" ∧ o.dict = none ∧ o.data = .seq (ps.map Value.ref).toArray ∧
  Paired (fun p kv => SqT K H p [kV kv.1, kv.2]) ps kvs ∧ ∀ p, H p = none → Q (.ref p) (upd H p (.dK (mergeK [] kvs)))
theorem call_dictT (hcalm : X.calm = true) : CallR X (.type "dict") (rDictT X.K) := by
  intro pins s σ H xs us Q I r q
  obtain ⟨a, o, ps, kvs, ex, hH, hc, hd, hdat, hp, q⟩ := q
  subst ex
  obtain ⟨u, eu, rx⟩ := vals1 r
  subst eu
  cases rx
  obtain ⟨ho, hu⟩ := I.hok a _ hH
  have hz : (ps.map V.ref).length ≤ sizeLine := hu.1
  rw [List.length_map] at hz
  obtain ⟨prs, ws, rel, hl, hw, hpr⟩ := pairs_of2 I hp
  have ok : PlainSeq "tuple" s.heap a (ps.map Value.ref).toArray ∧ PairItems s.heap (ps.map Value.ref).toArray (fun j => ps.getD j 0) ws := by
    refine ⟨⟨o, _, ho, hc, hd, hdat⟩, by rw [List.size_toArray, List.length_map, hw], fun j k v e => ?_⟩
    obtain ⟨b, q', e1, _, e3, _⟩ := hpr j k v e
    have eb : ps.getD j 0 = b := by rw [List.getD_eq_getElem?_getD, e1]; rfl
    show (ps.map Value.ref).toArray[j]? = some (Value.ref (ps.getD j 0)) ∧ PairAt s.heap (ps.getD j 0) k v
    rw [eb]
    exact ⟨by simp [e1], .inl e3⟩
  have have' : PairsHave (mixKind X.prog X.w) ws.length (PairRel ws) prs := ⟨by rw [hl, hw], fun i key v e => by
    obtain ⟨b, q', _, e2, _, e4⟩ := hpr i key v e
    exact ⟨q', e2, e4⟩⟩
  refine PySem.call_dict_pairs (PairArg.tuple a (ps.map Value.ref).toArray (fun j => ps.getD j 0) ws) (I.ok.hd hcalm) ok have' (by rw [hw]; exact hz) fun h' tk hd' k => ?_
  have hm : (s.heap.objs.size == sysModules) = false := beq_eq_false_iff_ne.mpr (Nat.ne_of_gt I.big)
  have hlen : (mergeK [] kvs).length ≤ sizeLine := by
    refine Nat.le_trans (length_mergeK kvs []) ?_
    rw [List.length_nil, Nat.zero_add, rel.length, hl]
    exact hz
  exact ⟨.ref s.heap.objs.size, upd H s.heap.objs.size (.dK (mergeK [] kvs)), I.laid (t' := tk) (fun b o e => k b o (by simp) e) (Nat.le_refl _) (show ObjOk X.prog X.w _ _ _ (.dK (mergeK [] kvs)) from ⟨hlen, hm, merged [] prs, KV.merge rel .nil, hd'⟩), rfl, q _ (I.hok.fresh (Nat.le_refl _))⟩
end
end U6R
set_option Elab.async false
set_option linter.all false
set_option maxRecDepth 100000
set_option maxHeartbeats 8000000
/-! filled, known_row, _law_is_true. -/
namespace U6
open PySem PySem.Spec PyProof.Rows L2 U6R
theorem same_seqT {K : PySem.W.Frag} {H H' : Hp} {a : Addr} {xs : List V} (s : Same H H') (h : SqT K H a xs) : SqT K H' a xs := by
  rcases h with (h | ⟨o, h⟩) | h
  · exact .inl (.inl (s _ _ h))
  · exact .inl (.inr ⟨o, s _ _ h⟩)
  · exact .inr h
/-! ### a table of names -/
def tabOf (own : List Str) (l : List Key) : List (Key × V) := (own.map Sum.inr).zip (l.map kV)
theorem val_merge {t : Key} : ∀ (own : List Str) (l : List Key) (acc : List (Key × V)), own.Nodup → own.length = l.length → (∀ s ∈ own, valV acc (.inr s) = none) →
    valV (mergeK acc (tabOf own l)) t = match (own.zip l).find? fun p => decide (Sum.inr p.1 = t) with | some p => some (kV p.2) | none => valV acc t
  | [], _, _, _, _, _ => by simp [tabOf, mergeK]
  | s :: own, [], _, _, h, _ => by cases h
  | s :: own, x :: l, acc, nd, hl, h => by
    obtain ⟨n1, n2⟩ := List.nodup_cons.mp nd
    show valV (mergeK (putK acc (.inr s) (kV x)) (tabOf own l)) t = _
    rw [val_merge own l (putK acc (.inr s) (kV x)) n2 (Nat.succ.inj hl) (fun s' hs' => by
      rw [valV_put, if_neg (fun z => n1 (by rw [← Sum.inr.inj z]; exact hs'))]
      exact h s' (List.mem_cons_of_mem _ hs'))]
    rw [List.zip_cons_cons, List.find?_cons]
    by_cases e : Sum.inr s = t
    · rw [decide_eq_true e]
      have no : (own.zip l).find? (fun p => decide (Sum.inr p.1 = t)) = none := List.find?_eq_none.mpr fun p hp => by
        have m := (List.of_mem_zip hp).1
        rw [decide_eq_true_iff, ← e]
        exact fun z => n1 (by rw [← Sum.inr.inj z]; exact m)
      rw [no]
      show valV (putK acc (.inr s) (kV x)) t = some (kV x)
      rw [valV_put, if_pos e.symm]
    · rw [decide_eq_false e]
      show _ = match (own.zip l).find? (fun p => decide (Sum.inr p.1 = t)) with | some p => some (kV p.2) | none => valV acc t
      cases q : (own.zip l).find? fun p => decide (Sum.inr p.1 = t) with
      | some p => rfl
      | none =>
        show valV (putK acc (.inr s) (kV x)) t = valV acc t
        rw [valV_put, if_neg fun z => e z.symm]
/-- the table answers as asgn does -/
theorem tab_get {own : List Str} {l : List Key} (nd : own.Nodup) (hl : own.length = l.length) (t : Key) : (valV (mergeK [] (tabOf own l)) t).getD (kV t) = kV (asgn own l t) := by
  rw [val_merge own l [] nd hl fun _ _ => rfl]
  unfold asgn
  cases (own.zip l).find? fun p => decide (Sum.inr p.1 = t) with
  | some p => rfl
  | none => rfl
theorem tab_in {own : List Str} {l : List Key} (nd : own.Nodup) (hl : own.length = l.length) {s : Str} (hs : s ∈ own) : valV (mergeK [] (tabOf own l)) (.inr s) = some (kV (asgn own l (.inr s))) := by
  have q := tab_get nd hl (.inr s)
  cases e : valV (mergeK [] (tabOf own l)) (.inr s) with
  | some v =>
    rw [e] at q
    exact congrArg some q
  | none =>
    rw [val_merge own l [] nd hl fun _ _ => rfl] at e
    obtain ⟨i, hi⟩ := List.mem_iff_getElem?.mp hs
    have lt : i < l.length := by rw [← hl]; exact (List.getElem?_eq_some_iff.mp hi).1
    have m : (s, l[i]) ∈ own.zip l := by
      rw [List.mem_iff_getElem?]
      exact ⟨i, List.getElem?_zip_eq_some.mpr ⟨hi, List.getElem?_eq_getElem lt⟩⟩
    cases f : (own.zip l).find? fun p => decide ((Sum.inr p.1 : Key) = Sum.inr s) with
    | some p => rw [f] at e; cases e
    | none =>
      have z := List.find?_eq_none.mp f _ m
      exact absurd (decide_eq_true rfl) z
/-- what the law holds: a known tuple of pairs, own with l -/
def Held (H : Hp) (h : Addr) (own : List Str) (l : List Key) : Prop := ∃ (o : Obj) (ts : List Addr), H h = some (.frz o (.tup (ts.map V.ref))) ∧ o.cls = .type "tuple" ∧ o.dict = none ∧ o.data = .seq (ts.map Value.ref).toArray ∧
  Paired (fun (t : Addr) (q : Key × V) => H t = some (.tup [kV q.1, q.2])) ts (tabOf own l)
theorem Held.pairs {K : PySem.W.Frag} {H : Hp} {ts : List Addr} {own : List Str} {l : List Key} (h : Paired (fun (t : Addr) (q : Key × V) => H t = some (.tup [kV q.1, q.2])) ts (tabOf own l)) : Paired (fun p kv => SqT K H p [kV kv.1, kv.2]) ts (tabOf own l) :=
  paired_mono (fun _ _ e => SqT.of e) h
section
variable {P : Program} {w : World} {K : PySem.W.Frag} {mg : Str → Option Value} {base : Heap}
/-! ### filled -/
def spFilled (K : PySem.W.Frag) : Sp := fun vs H Q _ => ∃ (a h : Addr) (ks : List Key) (own : List Str) (l : List Key), vs = [.ref a, .ref h] ∧ SqT K H a (ks.map kV) ∧ ks.length ≤ 2000 ∧ (∀ t ∈ ks, Sh t) ∧ Held H h own l ∧ own.Nodup ∧ own.length = l.length ∧ (∀ s ∈ own, isVar (.inr s) = true) ∧
  ∀ H' p, Same H H' → H p = none → H' p = some (.tup ((ks.map (asgn own l)).map kV)) → Q (.ref p) H'
theorem scFi : FnScope ["pattern", "known", "values", "term"] ["pattern", "known"] (defScope sFilled) := ⟨rfl, rfl, rfl, by decide +kernel, rfl, by decide +kernel, by decide +kernel⟩
theorem ok_filled {f fF : Addr} {fd fdF : FuncData} (D : Df K mg "filled" sFilled ["pattern", "known"] f fd) (B : Bl mg) (DF : Df K mg "is_free" sFree ["term"] fF fdF) : FnOk P w K mg base CX0 2 f fd ["pattern", "known"] (spFilled K) := by
  have GF : FnOk P w K mg base CX0 1 fF fdF ["term"] spFree := ok_free DF B
  refine D.F.ok scFi (fun vs H Q E h => ?_) (fun cdv A outer s H vs Q E hr h => ?_)
  · obtain ⟨a, h, ks, own, l, rfl, _⟩ := h
    rfl
  · obtain ⟨a, h, ks, own, l, rfl, ha, hn, hsh, ⟨o, ts, hh, hc, hd, hdat, hp⟩, nd, hl, hv, k⟩ := h
    have hu := hu_of hr
    refine ⟨_, pss_cons (ps_set (i := 2) scFi.nd rfl (Or.inr rfl) (pe_callTy (call_dictT rfl) (by rfl) B.dct (by decide +kernel) (pa_cons (pv 1) pa_nil)))
      (pss_one (ps_ret (pe_callTy call_tuple_of (by rfl) B.tup (by decide +kernel) (pa_cons (pe_lc (own := [("term", 3)]) (g := gName 3) rfl scFi.nd (pi_tup (pv 0))
        (blkOk_by (N := ["pattern", "known", "values", "term"]) (sc := defScope sFilled) (by decide +kernel)) (fun _ _ _ _ _ => pg_name (i := 3) scFi.nd rfl (Or.inl rfl)) (fun _ _ _ _ _ => pts_nil)
        (fun _ _ _ _ _ => pe_ifExp (PW.pt (pw_and (pt_val (pe_call GF hr rfl DF.g DF.k DF.b .nil pass0 (pa_cons (pv 3) pa_nil))) (pw_and1 (pt_cmp (pc_din hu (pv 3) (pv 2)))))) (pe_dget hu (pv 2) (pv 3) (fun _ _ => rfl)) (pv 3))) pa_nil)))), ?_⟩
    refine ⟨_, rfl, h, o, ts, tabOf own l, rfl, hh, hc, hd, hdat, Held.pairs hp, fun d hdn => ?_⟩
    have s1 : Same H (upd H d (.dK (mergeK [] (tabOf own l)))) := same_upd hdn
    refine ⟨_, rfl, a, rfl, ⟨_, same_seqT s1 ha⟩, fun G hG => ?_⟩
    have dG : d ≠ G := fun z => by rw [← z, upd_same] at hG; cases hG
    have hG0 := s1.free hG
    refine lc_tup (K := K) (a := a) (xs := ks.map kV) (fun i H' => H' G = some (.lst (((ks.take i).map (asgn own l)).map kV)) ∧ Same H H' ∧ H' d = some (.dK (mergeK [] (tabOf own l)))) ⟨upd_same, same_put s1 hG0, by rw [upd_ne dG, upd_same]⟩ (fun i H' _ p => same_seqT p.2.1 ha) ?_ ?_
    · rintro i x H' hx ⟨h1, h2, h3⟩
      rw [List.getElem?_map] at hx
      cases e : ks[i]? with
      | none => rw [e] at hx; cases hx
      | some t =>
        rw [e] at hx
        have ex : kV t = x := Option.some.inj hx
        subst ex
        have lt : i < ks.length := (List.getElem?_eq_some_iff.mp e).1
        have put : ∃ acc, H' G = some (.lst acc) ∧ acc.length < sizeLine ∧ (upd H' G (.lst (acc ++ [kV (asgn own l t)]))) G = some (.lst (((ks.take (i + 1)).map (asgn own l)).map kV)) ∧ Same H (upd H' G (.lst (acc ++ [kV (asgn own l t)]))) ∧ (upd H' G (.lst (acc ++ [kV (asgn own l t)]))) d = some (.dK (mergeK [] (tabOf own l))) := by
          refine ⟨_, h1, ?_, ?_, same_put h2 hG0, by rw [upd_ne dG]; exact h3⟩
          · rw [List.length_map, List.length_map, List.length_take]
            exact Nat.lt_of_le_of_lt (Nat.le_trans (Nat.min_le_right _ _) hn) (by decide)
          · rw [upd_same, List.take_add_one, e, List.map_append, List.map_append]
            rfl
        have out : (∀ s ∈ own, t ≠ .inr s) → asgn own l t = t := asgn_out
        refine ⟨rfl, ?_⟩
        refine ⟨_, rfl, t, rfl, hsh t (List.mem_of_getElem? e), _, rfl, ?_⟩
        cases vt : isVar t with
        | false =>
          refine iteF (iteF ?_)
          rw [out fun s hs z => by rw [z, hv s hs] at vt; cases vt] at put
          exact ⟨_, rfl, put⟩
        | true =>
          refine iteT ?_
          refine ⟨_, rfl, _, rfl, d, _, rfl, DGet.k (k := t) h3, ?_⟩
          have tg := tab_get nd hl t
          cases q : valV (mergeK [] (tabOf own l)) t with
          | none =>
            rw [q] at tg
            have tt : kV t = kV (asgn own l t) := tg
            refine ⟨false, rfl, iteF ?_⟩
            rw [← tt] at put
            exact ⟨_, rfl, put⟩
          | some v =>
            rw [q] at tg
            have tt : v = kV (asgn own l t) := tg
            subst tt
            refine ⟨true, rfl, iteT ?_⟩
            refine ⟨_, rfl, _, rfl, d, _, rfl, ?_, put⟩
            rw [← q]
            exact DGet.k (k := t) h3
    · rintro H' ⟨h1, h2, h3⟩
      rw [List.length_map, List.take_length] at h1
      refine ⟨G, _, rfl, .inl ⟨SqL.of h1, fun p hp => ?_⟩⟩
      exact k _ p (same_put h2 (h2.free hp)) (h2.free hp) upd_same
end
end U6
set_option Elab.async false
set_option linter.all false
set_option maxRecDepth 100000
set_option maxHeartbeats 8000000
/-! known_row, _law_is_true, _law_told, _law_terms. -/
namespace U6
open PySem PySem.Spec PyProof.Rows L2 U6R
section
variable {P : Program} {w : World} {K : PySem.W.Frag} {mg : Str → Option Value} {base : Heap}
/-! ### known_row -/
def spKrow (K : PySem.W.Frag) : Sp := fun vs H Q _ => ∃ (h a : Addr) (own : List Str) (l : List Key), vs = [.ref h, .ref a] ∧ SqT K H a (own.map V.str) ∧ own.length ≤ 2000 ∧ Held H h own l ∧ own.Nodup ∧ own.length = l.length ∧
  ∀ H' p, Same H H' → H p = none → H' p = some (.tup ((own.map fun s => asgn own l (.inr s)).map kV)) → Q (.ref p) H'
theorem scKr : FnScope ["known", "variables", "values", "variable"] ["known", "variables"] (defScope sKrow) := ⟨rfl, rfl, rfl, by decide +kernel, rfl, by decide +kernel, by decide +kernel⟩
theorem ok_krow {f : Addr} {fd : FuncData} (D : Df K mg "known_row" sKrow ["known", "variables"] f fd) (B : Bl mg) : FnOk P w K mg base CX0 1 f fd ["known", "variables"] (spKrow K) := by
  refine D.F.ok scKr (fun vs H Q E h => ?_) (fun cdv A outer s H vs Q E hr h => ?_)
  · obtain ⟨h, a, own, l, rfl, _⟩ := h
    rfl
  · obtain ⟨h, a, own, l, rfl, ha, hn, ⟨o, ts, hh, hc, hd, hdat, hp⟩, nd, hl, k⟩ := h
    have hu := hu_of hr
    refine ⟨_, pss_cons (ps_set (i := 2) scKr.nd rfl (Or.inr rfl) (pe_callTy (call_dictT rfl) (by rfl) B.dct (by decide +kernel) (pa_cons (pv 0) pa_nil)))
      (pss_one (ps_ret (pe_callTy call_tuple_of (by rfl) B.tup (by decide +kernel) (pa_cons (pe_lc (own := [("variable", 3)]) (g := gName 3) rfl scKr.nd (pi_tup (pv 1))
        (blkOk_by (N := ["known", "variables", "values", "variable"]) (sc := defScope sKrow) (by decide +kernel)) (fun _ _ _ _ _ => pg_name (i := 3) scKr.nd rfl (Or.inl rfl)) (fun _ _ _ _ _ => pts_nil)
        (fun _ _ _ _ _ => pe_dget hu (pv 2) (pv 3) (fun _ _ => rfl))) pa_nil)))), ?_⟩
    refine ⟨_, rfl, h, o, ts, tabOf own l, rfl, hh, hc, hd, hdat, Held.pairs hp, fun d hdn => ?_⟩
    have s1 : Same H (upd H d (.dK (mergeK [] (tabOf own l)))) := same_upd hdn
    refine ⟨_, rfl, a, rfl, ⟨_, same_seqT s1 ha⟩, fun G hG => ?_⟩
    have dG : d ≠ G := fun z => by rw [← z, upd_same] at hG; cases hG
    have hG0 := s1.free hG
    refine lc_tup (K := K) (a := a) (xs := own.map V.str) (fun i H' => H' G = some (.lst (((own.take i).map fun s => asgn own l (.inr s)).map kV)) ∧ Same H H' ∧ H' d = some (.dK (mergeK [] (tabOf own l)))) ⟨upd_same, same_put s1 hG0, by rw [upd_ne dG, upd_same]⟩ (fun i H' _ p => same_seqT p.2.1 ha) ?_ ?_
    · rintro i x H' hx ⟨h1, h2, h3⟩
      rw [List.getElem?_map] at hx
      cases e : own[i]? with
      | none => rw [e] at hx; cases hx
      | some t =>
        rw [e] at hx
        have ex : V.str t = x := Option.some.inj hx
        subst ex
        refine ⟨rfl, ?_⟩
        refine ⟨_, rfl, _, rfl, d, kV (asgn own l (.inr t)), rfl, ?_, _, h1, ?_, ?_, same_put h2 hG0, by rw [upd_ne dG]; exact h3⟩
        · rw [← tab_in nd hl (List.mem_of_getElem? e)]
          exact DGet.k (k := .inr t) h3
        · rw [List.length_map, List.length_map, List.length_take]
          exact Nat.lt_of_le_of_lt (Nat.le_trans (Nat.min_le_right _ _) hn) (by decide)
        · rw [upd_same, List.take_add_one, e, List.map_append, List.map_append]
          rfl
    · rintro H' ⟨h1, h2, h3⟩
      rw [List.length_map, List.take_length] at h1
      refine ⟨G, _, rfl, .inl ⟨SqL.of h1, fun p hp => ?_⟩⟩
      exact k _ p (same_put h2 (h2.free hp)) (h2.free hp) upd_same
/-! ### _law_is_true -/
def spIsTrue (K : PySem.W.Frag) : Sp := fun vs H Q _ => ∃ (a d : Addr) (es : Eqs) (kvs : List (Key × V)) (g : Key → Key), vs = [.ref a, .ref d] ∧ EqsAt K H a es ∧ H d = some (.dK kvs) ∧ (∀ t, (valV kvs t).getD (kV t) = kV (g t)) ∧ Q (.bl (sat es g)) H
theorem scTr : FnScope ["_law_pairs_here", "_law_table", "_law_one", "_law_two"] ["_law_pairs_here", "_law_table"] (defScope sIsTrue) := ⟨rfl, rfl, rfl, by decide +kernel, rfl, by decide +kernel, by decide +kernel⟩
theorem ok_istrue {f : Addr} {fd : FuncData} (D : Df K mg "_law_is_true" sIsTrue ["_law_pairs_here", "_law_table"] f fd) : FnOk P w K mg base CX0 1 f fd ["_law_pairs_here", "_law_table"] (spIsTrue K) := by
  refine D.F.ok scTr (fun vs H Q E h => ?_) (fun cdv A outer s H vs Q E hr h => ?_)
  · obtain ⟨a, d, es, kvs, g, rfl, _⟩ := h
    rfl
  · obtain ⟨a, d, es, kvs, g, rfl, ⟨ps, hps, hpr⟩, hd, hg, k⟩ := h
    have hu := hu_of hr
    refine ⟨_, pss_cons (ps_for PassesOwn.never rfl (pi_tup (pv 0)) (pg_tup rfl (pgs_cons (pg_name (i := 2) scTr.nd rfl (Or.inl rfl)) (pgs_cons (pg_name (i := 3) scTr.nd rfl (Or.inl rfl)) pgs_nil)))
        (pss_one (ps_if (pt_cmpR op_ne (pe_dget2 hu (pv 1) (pv 2) (pv 2) ⟨rfl, rfl, rfl, rfl⟩) (pe_dget2 hu (pv 1) (pv 3) (pv 3) ⟨rfl, rfl, rfl, rfl⟩) (nomark _)) (pss_one (ps_ret pe_bl)) pss_nil)))
      (pss_one (ps_ret pe_bl)), ?_⟩
    refine ⟨_, rfl, a, rfl, ⟨_, SqT.of hps⟩, for_tup (K := K) (a := a) (xs := ps.map V.ref) (fun i σ H' => ∃ y2 y3 : Option V, σ = [some (.ref a), some (.ref d), y2, y3] ∧ H' = H ∧ sat (es.take i) g = true) ⟨none, none, rfl, rfl, rfl⟩ (fun i σ H' _ ⟨_, _, _, e, _⟩ => by rw [e]; exact SqT.of hps) ?_ ?_⟩
    · rintro i x σ H' hx ⟨y2, y3, rfl, rfl, hs⟩
      rw [List.getElem?_map] at hx
      cases ep : ps[i]? with
      | none => rw [ep] at hx; cases hx
      | some p =>
        rw [ep] at hx
        have ex : V.ref p = x := Option.some.inj hx
        subst ex
        obtain ⟨e, ee, hpe⟩ := paired_at hpr ep
        refine ⟨p, _, rfl, SqT.of hpe, rfl, _, _, rfl, _, _, rfl, rfl, ?_⟩
        have isd : IsD H' d := .inl ⟨kvs, .inl hd⟩
        refine ⟨_, rfl, d, rfl, isd, _, rfl, _, rfl, _, DGet.k (k := e.1) hd, _, rfl, d, rfl, isd, _, rfl, _, rfl, _, DGet.k (k := e.2) hd, ?_⟩
        rw [hg, hg]
        refine ⟨kV_scal _ _, _, rfl, ?_⟩
        rw [kV_dec]
        have st : sat (es.take (i + 1)) g = (sat (es.take i) g && decide (g e.1 = g e.2)) := by
          unfold sat
          rw [List.take_add_one, ee, List.all_append]
          simp
        by_cases z : g e.1 = g e.2
        · rw [decide_eq_true z]
          refine iteF ⟨_, _, rfl, rfl, ?_⟩
          rw [st, hs, decide_eq_true z]
          rfl
        · rw [decide_eq_false z]
          refine iteT ?_
          have no : sat es g = false := by
            unfold sat
            rw [List.all_eq_false]
            exact ⟨e, List.mem_of_getElem? ee, by rw [decide_eq_false z]; exact Bool.false_ne_true⟩
          rw [no] at k
          exact k
    · rintro σ H' ⟨y2, y3, rfl, rfl, hs⟩
      have lps : ps.length = es.length := Paired.length hpr
      rw [List.length_map, lps, List.take_length] at hs
      rw [hs] at k
      exact k
/-! ### _law_told -/
def spTold (K : PySem.W.Frag) : Sp := fun vs H Q _ => ∃ (a : Addr) (es : Eqs), vs = [.ref a] ∧ EqsAt K H a es ∧ (∀ t ∈ terms es, Sh t) ∧ es.length ≤ 2000 ∧
  (∀ d, told es = some d → ∀ H' p, Same H H' → H p = none → EqsAt K H' p d → Q (.ref p) H') ∧ (told es = none → ∀ H', Same H H' → Q .non H')
theorem scTo : FnScope ["_law_pairs_here"] ["_law_pairs_here"] (defScope sTold) := ⟨rfl, rfl, rfl, by decide +kernel, rfl, by decide +kernel, by decide +kernel⟩
theorem ok_told {f fU C C0 fI : Addr} {fd fdU fdI : FuncData} (D : Df K mg "_law_told" sTold ["_law_pairs_here"] f fd) (DU : Df K mg "unified" sUnified ["equations"] fU fdU) (X : Ex K mg C C0 fI fdI)
    (GU : FnOk P w K mg base (L2.CX P w) 4 fU fdU ["equations"] (spUnified K C)) : FnOk P w K mg base CX0 5 f fd ["_law_pairs_here"] (spTold K) := by
  refine D.F.ok scTo (fun vs H Q E h => ?_) (fun cdv A outer s H vs Q E hr h => ?_)
  · obtain ⟨a, es, rfl, _⟩ := h
    rfl
  · obtain ⟨a, es, rfl, ha, hsh, hlen, kS, kN⟩ := h
    refine ⟨_, pss_one (ps_try_only (c := .ref C) (tb := fun W => tRet (tCallS (spUnified K C) (WE W) (tCons (tVar 0) tNil))) (ts := fun _ _ _ => tRet (tC .non)) (Wout := fun _ _ _ _ => False) rfl rfl ⟨rfl, by decide, Or.inl X.gC⟩ takes0
          (fun W pn xe tk _ => pss_one (ps_ret (pe_callS GU hr rfl DU.g DU.k DU.b (fun σ => passAt tk σ) (by exact (pa_cons (pv 0) pa_nil)))))
          (fun _ _ _ _ _ _ _ => pss_one (ps_ret pe_non))), ?_⟩
    refine ⟨_, rfl, a, es, rfl, ha, hsh, hlen, fun d hd H' p s1 hp he => kS d hd H' p s1 hp he, fun hn H' x s1 => ?_⟩
    exact ⟨true, X.te, fun _ b _ => kN hn H' s1, fun z => nomatch z⟩
end
end U6
set_option Elab.async false
set_option linter.all false
set_option maxRecDepth 100000
set_option maxHeartbeats 8000000
/-! _law_terms, _law_lots. -/
namespace U6
open PySem PySem.Spec PyProof.Rows L2 U6R
/-- the terms of ts of that kind, once each -/
structure Col (b : Bool) (ts xs : List Key) : Prop where
  nd : xs.Nodup
  mem : ∀ k, k ∈ xs ↔ (k ∈ ts ∧ isVar k = b)
  len : xs.length ≤ ts.length
theorem Col.nil (b : Bool) : Col b [] [] := ⟨List.nodup_nil, fun k => by simp, Nat.le_refl _⟩
theorem Col.skip {b : Bool} {ts xs : List Key} {t : Key} (c : Col b ts xs) (h : isVar t = b → t ∈ xs) : Col b (ts ++ [t]) xs where
  nd := c.nd
  mem := fun k => by
    rw [c.mem, List.mem_append, List.mem_singleton]
    constructor
    · rintro ⟨h1, h2⟩
      exact ⟨.inl h1, h2⟩
    · rintro ⟨h1 | rfl, h2⟩
      · exact ⟨h1, h2⟩
      · exact (c.mem k).mp (h h2)
  len := by rw [List.length_append]; exact Nat.le_succ_of_le c.len
theorem Col.add {b : Bool} {ts xs : List Key} {t : Key} (c : Col b ts xs) (h : isVar t = b) (n : t ∉ xs) : Col b (ts ++ [t]) (xs ++ [t]) where
  nd := List.nodup_append.mpr ⟨c.nd, by simp, fun x hx y hy z => n (by rw [List.mem_singleton.mp hy] at z; rw [← z]; exact hx)⟩
  mem := fun k => by
    rw [List.mem_append, List.mem_append, List.mem_singleton, c.mem]
    constructor
    · rintro (⟨h1, h2⟩ | rfl)
      · exact ⟨.inl h1, h2⟩
      · exact ⟨.inr rfl, h⟩
    · rintro ⟨h1 | rfl, h2⟩
      · exact .inl ⟨h1, h2⟩
      · exact .inr rfl
  len := by rw [List.length_append, List.length_append]; exact Nat.succ_le_succ c.len
theorem Col.keys {ts xs : List Key} (c : Col true ts xs) : ∃ zs : List Str, xs = zs.map Sum.inr ∧ zs.Nodup ∧ ∀ z, z ∈ zs ↔ z ∈ varsOf ts := by
  have key : ∀ l : List Key, (∀ k ∈ l, isVar k = true) → ∃ zs : List Str, l = zs.map Sum.inr := by
    intro l
    induction l with
    | nil => exact fun _ => ⟨[], rfl⟩
    | cons k l ih =>
      intro h
      obtain ⟨zs, e⟩ := ih fun k hk => h k (List.mem_cons_of_mem _ hk)
      obtain ⟨s, es⟩ := var_str (h k List.mem_cons_self)
      exact ⟨s :: zs, by rw [e, es]; rfl⟩
  obtain ⟨zs, e⟩ := key xs fun k hk => ((c.mem k).mp hk).2
  have mm : ∀ z : Str, (.inr z : Key) ∈ xs ↔ z ∈ zs := fun z => by
    rw [e, List.mem_map]
    exact ⟨fun ⟨a, h, q⟩ => by rw [← Sum.inr.inj q]; exact h, fun h => ⟨z, h, rfl⟩⟩
  refine ⟨zs, e, ?_, fun z => by rw [← mm, c.mem, mem_vars]⟩
  have nd := c.nd
  rw [e] at nd
  exact (List.pairwise_map.mp nd).imp fun h z => h (by rw [z])
section
variable {P : Program} {w : World} {K : PySem.W.Frag} {mg : Str → Option Value} {base : Heap}
def spTerms (K : PySem.W.Frag) : Sp := fun vs H Q _ => ∃ (a : Addr) (es : Eqs) (b : Bool), vs = [.ref a, .bl b] ∧ EqsAt K H a es ∧ (∀ t ∈ terms es, Sh t) ∧ es.length ≤ 30 ∧
  (b = true → ∀ H' p, Same H H' → H p = none → H' p = some (.lst ((vars es).map V.str)) → Q (.ref p) H') ∧
  (b = false → ∀ H' p cs, Same H H' → H p = none → H' p = some (.lst (cs.map kV)) → Col false (terms es) cs → Q (.ref p) H')
theorem scTe : FnScope ["_law_pairs_here", "_law_is_names", "_law_found", "_law_pair", "_law_term"] ["_law_pairs_here", "_law_is_names"] (defScope sTerms) := ⟨rfl, rfl, rfl, by decide +kernel, rfl, by decide +kernel, by decide +kernel⟩
theorem ok_terms {f fN : Addr} {fd fdN : FuncData} (D : Df K mg "_law_terms" sTerms ["_law_pairs_here", "_law_is_names"] f fd) (B : Bl mg) (DN : Df K mg "_law_is_name" sIsName ["_law_term"] fN fdN) : FnOk P w K mg base CX0 2 f fd ["_law_pairs_here", "_law_is_names"] (spTerms K) := by
  have GN : FnOk P w K mg base CX0 1 fN fdN ["_law_term"] spFree := ok_isname DN B
  refine D.F.ok scTe (fun vs H Q E h => ?_) (fun cdv A outer s H vs Q E hr h => ?_)
  · obtain ⟨a, es, b, rfl, _⟩ := h
    rfl
  · obtain ⟨a, es, b, rfl, ⟨ps, hps, hpr⟩, hsh, hlen, kT, kF⟩ := h
    refine ⟨_, pss_cons (ps_set (i := 2) scTe.nd rfl (Or.inl rfl) (pe_lst pa_nil))
      (pss_cons (ps_for PassesOwn.never rfl (pi_tup (pv 0)) (pg_name (i := 3) scTe.nd rfl (Or.inl rfl))
        (pss_one (ps_for PassesOwn.never rfl (pi_tup (pv 3)) (pg_name (i := 4) scTe.nd rfl (Or.inl rfl))
          (pss_one (ps_if (PW.pt (pw_and (pt_cmpR op_eq (pe_call GN hr rfl DN.g DN.k DN.b .nil pass0 (pa_cons (pv 4) pa_nil)) (pv 1) (nomark _)) (pw_and1 (pt_cmpR op_notIn_seq (pv 4) (pv 2) (by with_unfolding_all rfl)))))
            (pss_one (ps_expr (pe_bm PySem.F.plainAttrs_list PySem.F.slot_list_append PySem.F.type_list_append mt_append (pv 2) (pa_cons (pv 4) pa_nil)))) pss_nil)))))
      (pss_one (ps_ret (pe_ifExp (pt_val (pv 1)) (pe_callB cr_sortedS (by rfl) B.srt (by decide +kernel) (pa_cons (pv 2) pa_nil)) (pv 2))))), ?_⟩
    refine ⟨Nat.zero_le _, fun l hl => ?_⟩
    have big : ∀ {ts xs : List Key}, Col b ts xs → ts.length ≤ 62 → (xs.map kV).length < sizeLine := fun c h => by
      rw [List.length_map]
      exact Nat.lt_of_le_of_lt (Nat.le_trans c.len h) (by decide)
    refine ⟨_, rfl, a, rfl, ⟨_, SqT.of (same_upd hl _ _ hps)⟩, for_tup (K := K) (a := a) (xs := ps.map V.ref) (fun i σ H' => ∃ (y3 y4 : Option V) (xs : List Key), σ = [some (.ref a), some (.bl b), some (.ref l), y3, y4] ∧ Same H H' ∧ H' l = some (.lst (xs.map kV)) ∧ Col b (terms (es.take i)) xs)
      ⟨none, none, [], rfl, same_upd hl, upd_same, Col.nil b⟩ (fun i σ H' _ ⟨_, _, _, _, s, _⟩ => SqT.of (s _ _ hps)) ?_ ?_⟩
    · rintro i x σ H' hx ⟨y3, y4, xs, rfl, s, hL, hC⟩
      rw [List.getElem?_map] at hx
      cases ep : ps[i]? with
      | none => rw [ep] at hx; cases hx
      | some p =>
        rw [ep] at hx
        have ex : V.ref p = x := Option.some.inj hx
        subst ex
        obtain ⟨e, ee, hpe⟩ := paired_at hpr ep
        have hil : i < es.length := (List.getElem?_eq_some_iff.mp ee).1
        have m2 : ∀ t ∈ [e.1, e.2], t ∈ terms es := fun t ht => mem_terms.mpr ⟨e, List.mem_of_getElem? ee, by simpa using ht⟩
        have tl : (terms (es.take i)).length ≤ 60 := by rw [terms_len, List.length_take]; omega
        refine ⟨_, rfl, p, rfl, ⟨_, SqT.of (s _ _ hpe)⟩, for_tup (K := K) (a := p) (xs := [e.1, e.2].map kV) (fun j σ H' => ∃ (y4 : Option V) (xs : List Key), σ = [some (.ref a), some (.bl b), some (.ref l), some (.ref p), y4] ∧ Same H H' ∧ H' l = some (.lst (xs.map kV)) ∧ Col b (terms (es.take i) ++ [e.1, e.2].take j) xs)
          ⟨y4, xs, rfl, s, hL, by rw [List.take_zero, List.append_nil]; exact hC⟩ (fun i σ H' _ ⟨_, _, _, s, _⟩ => SqT.of (s _ _ hpe)) ?_ ?_⟩
        · rintro j x σ H' hx ⟨y4, xs, rfl, s, hL, hC⟩
          rw [List.getElem?_map] at hx
          cases et : [e.1, e.2][j]? with
          | none => rw [et] at hx; cases hx
          | some t =>
            rw [et] at hx
            have ex : kV t = x := Option.some.inj hx
            subst ex
            have mt := m2 t (List.mem_of_getElem? et)
            have tk : terms (es.take i) ++ [e.1, e.2].take (j + 1) = (terms (es.take i) ++ [e.1, e.2].take j) ++ [t] := by
              rw [List.take_add_one, et, List.append_assoc]
              rfl
            have tl2 : (terms (es.take i) ++ [e.1, e.2].take j).length ≤ 62 := by
              rw [List.length_append, List.length_take]
              exact Nat.add_le_add tl (Nat.min_le_right _ _)
            have skip : (isVar t = b → t ∈ xs) → ∃ (y4 : Option V) (xs : List Key), ([some (.ref a), some (.bl b), some (.ref l), some (.ref p), some (kV t)] : L2.St) = [some (.ref a), some (.bl b), some (.ref l), some (.ref p), y4] ∧ Same H H' ∧ H' l = some (.lst (xs.map kV)) ∧ Col b (terms (es.take i) ++ [e.1, e.2].take (j + 1)) xs :=
              fun h => ⟨_, xs, rfl, s, hL, by rw [tk]; exact hC.skip h⟩
            refine ⟨_, rfl, t, rfl, hsh t mt, _, rfl, rfl, _, rfl, ?_⟩
            by_cases vb : isVar t = b
            · rw [show decide (V.bl (isVar t) = V.bl b) = true from decide_eq_true (by rw [vb])]
              refine iteT ?_
              refine ⟨_, rfl, _, rfl, l, _, rfl, .inl (SqL.of hL), kV_flat t, allFlat xs, _, rfl, ?_⟩
              show if (!inV (kV t) (xs.map kV)) = true then _ else _
              by_cases hm : t ∈ xs
              · rw [(inV_keys t xs).mpr hm]
                exact iteF (skip fun _ => hm)
              · rw [show inV (kV t) (xs.map kV) = false by
                  cases z : inV (kV t) (xs.map kV) with
                  | false => rfl
                  | true => exact absurd ((inV_keys t xs).mp z) hm]
                refine iteT ?_
                refine ⟨_, rfl, .inl ⟨rfl, _, SqL.of hL⟩, _, rfl, l, _, _, rfl, rfl, hL, big hC tl2, ?_⟩
                exact ⟨_, xs ++ [t], rfl, same_put s hl, by rw [upd_same, List.map_append]; rfl, by rw [tk]; exact hC.add vb hm⟩
            · rw [show decide (V.bl (isVar t) = V.bl b) = false from decide_eq_false (fun z => vb (V.bl.inj z))]
              exact iteF (iteF (skip fun z => absurd z vb))
        · rintro σ H' ⟨y4, xs, rfl, s, hL, hC⟩
          refine ⟨_, _, xs, rfl, s, hL, ?_⟩
          rw [terms_take ee]
          exact hC
    · rintro σ H' ⟨y3, y4, xs, rfl, s, hL, hC⟩
      have lps : ps.length = es.length := Paired.length hpr
      rw [List.length_map, lps, List.take_length] at hC
      refine ⟨_, rfl, _, rfl, ?_⟩
      cases b with
      | false => exact iteF ⟨_, rfl, kF rfl H' l xs s hl hL hC⟩
      | true =>
        refine iteT ?_
        obtain ⟨zs, ez, nd, mm⟩ := hC.keys
        have lz : zs.length ≤ 60 := by
          have q := hC.len
          rw [ez, List.length_map, terms_len] at q
          omega
        have eL : xs.map kV = zs.map V.str := by rw [ez, List.map_map]; rfl
        rw [eL] at hL
        refine ⟨_, rfl, l, zs, rfl, SqL.of hL, by omega, fun ys p hperm hso hpn => ?_⟩
        have ey : ys = vars es := varsOf_is hso (hperm.nodup_iff.mpr nd) fun k => by
          rw [hperm.mem_iff, mm, mem_vars, mem_vlist]
        subst ey
        exact kT rfl _ p (same_put s (s.free hpn)) (s.free hpn) upd_same
end
end U6
set_option Elab.async false
set_option linter.all false
set_option maxRecDepth 100000
set_option maxHeartbeats 8000000
/-! _law_lots. -/
namespace U6
open PySem PySem.Spec PyProof.Rows L2 U6R
def LotsOf (H : Hp) (ts : List Addr) (ls : List (List Key)) : Prop := Paired (fun (t : Addr) (l : List Key) => H t = some (.tup (l.map kV))) ts ls
def LotsAt (H : Hp) (p : Addr) (ls : List (List Key)) : Prop := ∃ ts : List Addr, H p = some (.lst (ts.map V.ref)) ∧ LotsOf H ts ls
theorem LotsOf.tups {H H' : Hp} {ts : List Addr} {ls : List (List Key)} (h : LotsOf H ts ls) (s : Tups H H') : LotsOf H' ts ls := paired_mono (fun _ _ e => s _ _ e) h
theorem LotsAt.same {H H' : Hp} {p : Addr} {ls : List (List Key)} (h : LotsAt H p ls) (s : Same H H') : LotsAt H' p ls := let ⟨ts, h1, h2⟩ := h; ⟨ts, s _ _ h1, h2.tups (sameTups s)⟩
theorem LotsOf.snoc {H : Hp} {ts : List Addr} {ls : List (List Key)} {t : Addr} {l : List Key} (h : LotsOf H ts ls) (e : H t = some (.tup (l.map kV))) : LotsOf H (ts ++ [t]) (ls ++ [l]) :=
  paired_snoc (R := fun (t : Addr) (l : List Key) => H t = some (.tup (l.map kV))) e h
theorem LotsOf.app {H : Hp} {ts ts2 : List Addr} {ls ls2 : List (List Key)} (h : LotsOf H ts ls) (h2 : LotsOf H ts2 ls2) : LotsOf H (ts ++ ts2) (ls ++ ls2) :=
  paired_app (R := fun (t : Addr) (l : List Key) => H t = some (.tup (l.map kV))) h h2
theorem pow5 {m n : Nat} (h1 : m ≤ 5) (h2 : n ≤ 5) : m ^ n ≤ 3125 := Nat.le_trans (Nat.pow_le_pow_left h1 n) (Nat.le_trans (Nat.pow_le_pow_right (by decide) h2) (by decide))
section
variable {P : Program} {w : World} {K : PySem.W.Frag} {mg : Str → Option Value} {base : Heap}
def spLots (K : PySem.W.Frag) : Sp := fun vs H Q _ => ∃ (m : Addr) (menu : List Key) (size : Nat), vs = [.ref m, .int (size : Nat)] ∧ SqL K H m (menu.map kV) ∧ menu.length ≤ 5 ∧ size ≤ 5 ∧
  ∀ H' p, Same H H' → H p = none → LotsAt H' p (lots menu size) → Q (.ref p) H'
theorem scLo : FnScope ["_law_menu", "_law_size", "_law_found", "_law_turn", "_law_longer", "_law_begin", "_law_one"] ["_law_menu", "_law_size"] (defScope sLots) := ⟨rfl, rfl, rfl, by decide +kernel, rfl, by decide +kernel, by decide +kernel⟩
theorem ok_lots {f : Addr} {fd : FuncData} (D : Df K mg "_law_lots" sLots ["_law_menu", "_law_size"] f fd) (B : Bl mg) : FnOk P w K mg base CX0 1 f fd ["_law_menu", "_law_size"] (spLots K) := by
  refine D.F.ok scLo (fun vs H Q E h => ?_) (fun cdv A outer s H vs Q E hr h => ?_)
  · obtain ⟨m, menu, size, rfl, _⟩ := h
    rfl
  · obtain ⟨m, menu, size, rfl, hm, hml, hsz, k⟩ := h
    refine ⟨_, pss_cons (ps_set (i := 2) scLo.nd rfl (Or.inl rfl) (pe_lst (pa_cons (pe_tup pa_nil) pa_nil)))
      (pss_cons (ps_for PassesOwn.never rfl (pi_range1 (by rfl) B.rng (pa_cons (pv 1) pa_nil)) (pg_name (i := 3) scLo.nd rfl (Or.inl rfl))
        (pss_cons (ps_set (i := 4) scLo.nd rfl (Or.inl rfl) (pe_lst pa_nil))
        (pss_cons (ps_for PassesOwn.never rfl (pi_list (pv 2)) (pg_name (i := 5) scLo.nd rfl (Or.inr rfl))
          (pss_one (ps_set (i := 4) scLo.nd rfl (Or.inl rfl) (pe_op op_cat (pv 4) (pe_lc (own := [("_law_one", 6)]) (g := gName 6) rfl scLo.nd (pi_list (pv 0))
            (blkOk_by (N := ["_law_menu", "_law_size", "_law_found", "_law_turn", "_law_longer", "_law_begin", "_law_one"]) (sc := defScope sLots) (by decide +kernel)) (fun _ _ _ _ _ => pg_name (i := 6) scLo.nd rfl (Or.inl rfl)) (fun _ _ _ _ _ => pts_nil)
            (fun _ _ _ _ _ => pe_op (r := rCatA K) (by exact op_catA) (pv 5) (pe_tup (pa_cons (pv 6) pa_nil))))))))
        (pss_one (ps_set (i := 2) scLo.nd rfl (Or.inl rfl) (pv 4))))))
      (pss_one (ps_ret (pv 2)))), ?_⟩
    refine ⟨Nat.zero_le _, fun t0 ht0 => ⟨(show 1 ≤ sizeLine by decide), fun f0 hf0 => ?_⟩⟩
    have s0 : Same H (upd H t0 (.tup [])) := same_upd ht0
    have s1 := same_put (o := .lst [.ref t0]) s0 (s0.free hf0)
    have tf : t0 ≠ f0 := fun z => by rw [← z, upd_same] at hf0; cases hf0
    have lsz : ((size : Int)).toNat = size := rfl
    have lt5 : ∀ i, i ≤ size → (lots menu i).length ≤ 3125 := fun i hi => by rw [lots_len]; exact pow5 hml (Nat.le_trans hi hsz)
    refine ⟨_, rfl, size, rfl, by omega, by omega, for_range (fun i σ H' => ∃ (y3 y4 y5 : Option V) (F : Addr), σ = [some (.ref m), some (.int (size : Nat)), some (.ref F), y3, y4, y5, none] ∧ Same H H' ∧ H F = none ∧ LotsAt H' F (lots menu i))
      ⟨none, none, none, f0, rfl, s1, s0.free hf0, [t0], upd_same, .cons (by rw [upd_ne tf, upd_same]; rfl) .nil⟩ ?_ ?_⟩
    · rintro i σ H' hi ⟨y3, y4, y5, F, rfl, s, hF, ts, hts, hls⟩
      have hi : i < size := hi
      have lts : ts.length = (lots menu i).length := Paired.length hls
      refine ⟨Nat.zero_le _, fun L0 hL0 => ?_⟩
      have hFts : F ≠ L0 := ne_of_none hts hL0
      have s2 := same_put (o := .lst []) s (s.free hL0)
      have sz2 : ∀ j, ((((lots menu i).take j).flatMap fun b => menu.map fun o => b ++ [o]).length ≤ 3125) := fun j => by
        have q := lt5 (i + 1) hi
        refine Nat.le_trans ?_ q
        show _ ≤ ((lots menu i).flatMap fun b => menu.map fun o => b ++ [o]).length
        conv => rhs; rw [← List.take_append_drop j (lots menu i), List.flatMap_append, List.length_append]
        exact Nat.le_add_right _ _
      refine ⟨_, rfl, F, rfl, ⟨_, SqL.of (same_upd hL0 _ _ hts)⟩, for_list (K := K) (a := F) (xs := ts.map V.ref) (fun j σ H2 => ∃ (y5 : Option V) (L : Addr), σ = [some (.ref m), some (.int (size : Nat)), some (.ref F), some (.int (0 + (i : Nat))), some (.ref L), y5, none] ∧ Same H H2 ∧ H L = none ∧ Same H' H2 ∧
          LotsAt H2 L (((lots menu i).take j).flatMap fun b => menu.map fun o => b ++ [o]))
        ⟨y5, L0, rfl, s2, s.free hL0, same_upd hL0, [], upd_same, .nil⟩ (fun j σ H2 _ ⟨_, _, _, _, _, z, _⟩ => SqL.of (z _ _ hts)) ?_ ?_⟩
      · rintro j x σ H2 hx ⟨y5, L, rfl, sH, hL, sH', us, hus, hlu⟩
        rw [List.getElem?_map] at hx
        cases et : ts[j]? with
        | none => rw [et] at hx; cases hx
        | some t =>
          rw [et] at hx
          have ex : V.ref t = x := Option.some.inj hx
          subst ex
          obtain ⟨b, eb, hb⟩ := paired_at hls et
          have hb2 := sH' _ _ hb
          have bm : b ∈ lots menu i := List.mem_of_getElem? eb
          have bl : b.length ≤ 5 := by rw [(mem_lots.mp bm).1]; omega
          refine ⟨_, rfl, _, rfl, m, rfl, ⟨_, sH.seq hm⟩, fun D hD => ?_⟩
          have hD0 := sH.free hD
          have hD' := sH'.free hD
          refine lc_list (K := K) (a := m) (xs := menu.map kV) (fun q H3 => ∃ ws : List Addr, H3 D = some (.lst (ws.map V.ref)) ∧ LotsOf H3 ws ((menu.take q).map fun o => b ++ [o]) ∧ Same H2 H3)
            ⟨[], upd_same, .nil, same_upd hD⟩ (fun q H3 _ ⟨_, _, _, z⟩ => (sH.trans z).seq hm) ?_ ?_
          · rintro q x H3 hx ⟨ws, h1, h2, h3⟩
            rw [List.getElem?_map] at hx
            cases eo : menu[q]? with
            | none => rw [eo] at hx; cases hx
            | some o =>
              rw [eo] at hx
              have ex : kV o = x := Option.some.inj hx
              subst ex
              have lq : q < menu.length := (List.getElem?_eq_some_iff.mp eo).1
              have lws : ws.length ≤ 5 := by
                have z := Paired.length h2
                rw [List.length_map, List.length_take] at z
                omega
              have tk : (menu.take (q + 1)).map (fun o => b ++ [o]) = (menu.take q).map (fun o => b ++ [o]) ++ [b ++ [o]] := by
                rw [List.take_add_one, eo, List.map_append]
                rfl
              have fin : ∀ (H4 : Hp) (T : Addr), Same H3 H4 → H4 T = some (.tup ((b ++ [o]).map kV)) → ∃ acc, H4 D = some (.lst acc) ∧ acc.length < sizeLine ∧ ∃ ws : List Addr, (upd H4 D (.lst (acc ++ [V.ref T]))) D = some (.lst (ws.map V.ref)) ∧ LotsOf (upd H4 D (.lst (acc ++ [V.ref T]))) ws ((menu.take (q + 1)).map fun o => b ++ [o]) ∧ Same H2 (upd H4 D (.lst (acc ++ [V.ref T]))) := fun H4 T s4 hT => by
                have d4 := s4 _ _ h1
                have tt : Tups H4 (upd H4 D (.lst (ws.map V.ref ++ [V.ref T]))) := Tups.put d4 fun xs z => by cases z
                refine ⟨_, d4, by rw [List.length_map]; exact Nat.lt_of_le_of_lt lws (by decide), ws ++ [T], by rw [upd_same, List.map_append]; rfl, ?_, same_put (h3.trans s4) hD⟩
                rw [tk]
                exact (h2.tups ((sameTups s4).trans tt)).snoc (tt _ _ hT)
              refine ⟨rfl, ?_⟩
              refine ⟨_, rfl, _, rfl, (show 1 ≤ sizeLine by decide), fun T hT => ?_⟩
              have s4 : Same H3 (upd H3 T (.tup [kV o])) := same_upd hT
              have hb4 := s4 _ _ (h3 _ _ hb2)
              refine ⟨t, T, _, _, rfl, rfl, SqT.of hb4, SqT.of upd_same, ?_, fun hbe => ?_, (fun _ z => nomatch z), fun hbn _ p hp => ?_⟩
              · rw [List.length_map]
                exact Nat.le_trans (Nat.add_le_add_right bl 1) (by decide)
              · have be : b = [] := by simpa using hbe
                exact fin _ T s4 (by rw [upd_same, be]; rfl)
              · refine fin _ p (same_put s4 (s4.free hp)) ?_
                rw [upd_same, List.map_append]
                rfl
          · rintro H3 ⟨ws, h1, h2, h3⟩
            rw [List.length_map, List.take_length] at h2
            have lws : ws.length = menu.length := by rw [Paired.length h2, List.length_map]
            have lus : us.length ≤ 3125 := by rw [Paired.length hlu]; exact sz2 j
            refine ⟨L, D, _, _, rfl, rfl, h3 _ _ hus, h1, ?_, fun p hp => ?_⟩
            · rw [List.length_map, List.length_map, lws]
              exact Nat.le_trans (Nat.add_le_add lus hml) (by decide)
            have s5 := same_upd (o := .lst (us.map V.ref ++ ws.map V.ref)) hp
            refine ⟨_, p, rfl, (sH.trans h3).trans s5, (sH.trans h3).free hp, (sH'.trans h3).trans s5, us ++ ws, by rw [upd_same, List.map_append], ?_⟩
            have tk : ((lots menu i).take (j + 1)).flatMap (fun b => menu.map fun o => b ++ [o]) = ((lots menu i).take j).flatMap (fun b => menu.map fun o => b ++ [o]) ++ menu.map (fun o => b ++ [o]) := by
              rw [List.take_add_one, eb, List.flatMap_append]
              simp
            rw [tk]
            exact (hlu.tups (sameTups (h3.trans s5))).app (h2.tups (sameTups s5))
      · rintro σ H2 ⟨y5, L, rfl, sH, hL, sH', hLA⟩
        refine ⟨_, rfl, _, _, _, L, rfl, sH, hL, ?_⟩
        rw [List.length_map, lts, List.take_length] at hLA
        exact hLA
    · rintro σ H' ⟨y3, y4, y5, F, rfl, s, hF, hls⟩
      exact ⟨_, rfl, k H' F s hF hls⟩
end
end U6
set_option Elab.async false
set_option linter.all false
set_option maxRecDepth 100000
set_option maxHeartbeats 8000000
/-! list.count of keys; _law_due. -/
namespace U6R
open PySem PySem.Spec PyProof.Rows L2
/-! ### xs.count(k) of ints and texts -/
def eqKey (k : Key) : Value → Bool
  | .int i _ => decide (Sum.inl i = k)
  | .str x _ => decide (Sum.inr x = k)
  | _ => false
theorem eqKey_is {y k : Key} {u : Value} (r : RelV (kV y) u) : eqKey k u = decide (y = k) := by
  cases y with
  | inl i =>
    obtain ⟨t, rfl⟩ := r
    rfl
  | inr s =>
    obtain ⟨t, rfl⟩ := r
    rfl
theorem eqV_keys (a b : Key) : eqV (kV a) (kV b) = decide (a = b) := by
  cases a with
  | inl i =>
    cases b with
    | inl j =>
      show (i == j) = _
      by_cases e : i = j
      · subst e; simp
      · rw [decide_eq_false fun z => e (Sum.inl.inj z)]; simpa using e
    | inr s => rw [decide_eq_false fun z => nomatch z]; rfl
  | inr s =>
    cases b with
    | inl j => rw [decide_eq_false fun z => nomatch z]; rfl
    | inr u =>
      show (s == u) = _
      by_cases e : s = u
      · subst e; simp
      · rw [decide_eq_false fun z => e (Sum.inr.inj z)]; simpa using e
def cnt (k : Key) (l : List Key) : Nat := l.countP fun y => decide (y = k)
theorem countP_keys {k : Key} : ∀ {l : List Key} {us : List Value}, Vals (l.map kV) us → us.countP (eqKey k) = cnt k l
  | [], us, r => by
    rw [List.map_nil] at r
    cases r
    rfl
  | y :: l, us, r => by
    rw [List.map_cons] at r
    cases r with
    | cons h t =>
      show _ = List.countP _ (y :: l)
      rw [List.countP_cons, List.countP_cons, countP_keys t, eqKey_is h]
      rfl
def rCntK (K : PySem.W.Frag) : V → List V → Hp → VK → Prop := fun x xs H Q => ∃ (p : Addr) (ks : List Key) (k : Key), x = .ref p ∧ xs = [kV k] ∧ SqL K H p (ks.map kV) ∧ Q (.int (cnt k ks : Nat)) H
section
variable {X : Cx}
theorem mt_countK : MtR X "list.count" (rCntK X.K) := by
  intro pins s σ H x xs v us Q I rx rxs h
  obtain ⟨p, ks, k, rfl, rfl, hs, q⟩ := h
  cases rx
  obtain ⟨u, rfl, ru⟩ := rxs.one
  obtain ⟨its, rv, ⟨⟨cls, dd, data, sl⟩, n, ho, hc, hdn, hd⟩, hlen⟩ := I.list hs
  simp only at hc hd
  subst hc hd
  have items : ∀ y ∈ its, ∃ z : Key, RelV (kV z) y := fun y hy => by
    obtain ⟨j, hj⟩ := List.mem_iff_getElem?.mp hy
    obtain ⟨v, e1, rv1⟩ := U6.paired_at' rv hj
    rw [List.getElem?_map] at e1
    cases ek : ks[j]? with
    | none => rw [ek] at e1; cases e1
    | some z =>
      rw [ek] at e1
      have ez : kV z = v := Option.some.inj e1
      subst ez
      exact ⟨z, rv1⟩
  refine call_meets PySem.F.slot_list_count ⟨_, ho, rfl⟩ PySem.F.entry_list_count (PySem.F.args_list_count_2 _ _)
    (SeqAt.list_countAt p its.toArray n dd sl u (eqKey k)) ⟨ho, fun y hy => ?_, ?_⟩
  · obtain ⟨z, rz⟩ := items y (by simpa using hy)
    have q1 : SeqAt.EqAt X.A.in1 s y u (eqV (kV z) (kV k)) := eqAt_V rz ru (U6.kV_flat z) (U6.kV_flat k)
    rw [eqV_keys, ← eqKey_is rz] at q1
    exact q1
  · have ec : its.toArray.toList.countP (eqKey k) = cnt k ks := countP_keys rv
    refine ⟨.int (cnt k ks : Nat), H, I.tok _, ⟨s.toks, ?_⟩, q⟩
    show Value.int ((its.toArray.toList.countP (eqKey k) : Nat) : Int) s.toks = Value.int ((cnt k ks : Nat) : Int) s.toks
    rw [ec]
theorem cnt_all {k : Key} {l : List Key} : cnt k l = l.length ↔ l.all (fun x => decide (x = k)) = true := by
  unfold cnt
  rw [List.countP_eq_length, List.all_eq_true]
end
end U6R
namespace U6
open PySem PySem.Spec PyProof.Rows L2 U6R
section
variable {P : Program} {w : World} {K : PySem.W.Frag} {mg : Str → Option Value} {base : Heap}
theorem atI_zero {α : Type} (x : α) (r : List α) : atI (x :: r) 0 = some x := by
  unfold atI ixN
  rw [if_pos (by decide), if_pos (by rw [List.length_cons]; omega)]
  rfl
def dueOf (own : List Str) (ls : List (List Key)) : Eqs := (List.range own.length).map fun i => (.inr (own.getD i Str.empty), dueAt own ls i)
def spDue (K : PySem.W.Frag) : Sp := fun vs H Q _ => ∃ (n b : Addr) (own : List Str) (ls : List (List Key)), vs = [.ref n, .ref b] ∧ H n = some (.lst (own.map V.str)) ∧ LotsAt H b ls ∧ own.length ≤ 100 ∧ ls ≠ [] ∧ ls.length ≤ 10000 ∧ (∀ l ∈ ls, l.length = own.length ∧ ∀ x ∈ l, Tm x) ∧
  ∀ H' p, Same H H' → H p = none → EqsAt K H' p (dueOf own ls) → Q (.ref p) H'
def nDue : List Str := ["_law_names_here", "_law_lots_here", "_law_found", "_law_at", "_law_name", "_law_values", "_law_alike", "_law_to", "_law_lot"]
def scTo2 : Scope := { kind := .function, names := [(".0", .local), ("_law_to", .cell), ("_law_lots_here", .cell), ("_law_values", .cell)], isGenerator := false, isCoroutine := false }
theorem scDu : FnScope nDue ["_law_names_here", "_law_lots_here"] (defScope sDue) := ⟨rfl, rfl, rfl, by decide +kernel, rfl, by decide +kernel, by decide +kernel⟩
theorem ok_due {f : Addr} {fd : FuncData} (D : Df K mg "_law_due" sDue ["_law_names_here", "_law_lots_here"] f fd) (B : Bl mg) : FnOk P w K mg base CX0 1 f fd ["_law_names_here", "_law_lots_here"] (spDue K) := by
  refine D.F.ok scDu (fun vs H Q E h => ?_) (fun cdv A outer s H vs Q E hr h => ?_)
  · obtain ⟨n, b, own, ls, rfl, _⟩ := h
    rfl
  · obtain ⟨n, b, own, ls, rfl, hn, ⟨ts, hts, hls⟩, lown, lne, lls, hlt, k⟩ := h
    refine ⟨_, pss_cons (ps_set (i := 2) scDu.nd rfl (Or.inl rfl) (pe_lst pa_nil))
      (pss_cons (ps_for PassesOwn.never rfl (pi_enum (by rfl) B.enm (pa_cons (pv 0) pa_nil)) (pg_tup rfl (pgs_cons (pg_name (i := 3) scDu.nd rfl (Or.inr rfl)) (pgs_cons (pg_name (i := 4) scDu.nd rfl (Or.inl rfl)) pgs_nil)))
        (pss_cons (ps_set (i := 5) scDu.nd rfl (Or.inr rfl) (pe_lc (own := [("_law_lot", 8)]) (g := gName 8) rfl scDu.nd (pi_list (pv 1))
            (blkOk_by (N := nDue) (sc := defScope sDue) (by decide +kernel)) (fun _ _ _ _ _ => pg_name (i := 8) scDu.nd rfl (Or.inl rfl)) (fun _ _ _ _ _ => pts_nil)
            (fun _ _ _ _ _ => pe_ix (r := rIxT K) (by exact ix_tup) (pv 8) (pv 3) (fun _ _ => rfl))))
        (pss_one (ps_if (pt_cmpR op_eq (pe_bm PySem.F.plainAttrs_list PySem.F.slot_list_count PySem.F.type_list_count mt_countK (pv 5) (pa_cons (pe_ix ix_list (pv 5) pe_int (fun _ _ => rfl)) pa_nil)) (pe_callB call_len_seq (by rfl) B.len PySem.boot_len (pa_cons (pv 5) pa_nil)) (nomark _))
          (pss_one (ps_expr (pe_bm PySem.F.plainAttrs_list PySem.F.slot_list_append PySem.F.type_list_append mt_append (pv 2) (pa_cons (pe_tup (pa_cons (pv 4) (pa_cons (pe_ix ix_list (pv 5) pe_int (fun _ _ => rfl)) pa_nil))) pa_nil))))
          (pss_cons (ps_setLc (i := 6) (own := [("_law_to", 7)]) (g := gName 7) rfl scDu.nd rfl rfl rfl (pi_range1 (by rfl) B.rng (pa_cons (pe_callB call_len_seq (by rfl) B.len PySem.boot_len (pa_cons (pv 0) pa_nil)) pa_nil))
              (blkOk_by (N := nDue) (sc := defScope sDue) (by decide +kernel)) (fun _ _ _ _ _ => pg_name (i := 7) scDu.nd rfl (Or.inr rfl))
              (fun _ _ _ _ _ => pts_one (pt_cmpR (r := rEqD K) (by exact op_eqD hr.units) (pe_lc (wi := iList K (tVar 1)) (own := [("_law_lot", 8)]) (g := gName 8) rfl scDu.nd (by exact pi_list (pv 1))
                (blkOk_by (N := nDue) (sc := scTo2) (by decide +kernel)) (fun _ _ _ _ _ => pg_name (i := 8) scDu.nd rfl (Or.inl rfl)) (fun _ _ _ _ _ => pts_nil)
                (fun _ _ _ _ _ => pe_ix (r := rIxT K) (by exact ix_tup) (pv 8) (pv 7) (fun _ _ => rfl))) (pv 5) (nomark _)))
              (fun _ _ _ _ _ => pv 7))
          (pss_one (ps_expr (pe_bm PySem.F.plainAttrs_list PySem.F.slot_list_append PySem.F.type_list_append mt_append (pv 2) (pa_cons (pe_tup (pa_cons (pv 4) (pa_cons (pe_ix ix_list (pv 0) (pe_ix ix_list (pv 6) pe_int (fun _ _ => rfl)) (fun _ _ => rfl)) pa_nil))) pa_nil)))))))))
      (pss_one (ps_ret (pe_callTy call_tuple_of (by rfl) B.tup (by decide +kernel) (pa_cons (pv 2) pa_nil))))), ?_⟩
    refine ⟨Nat.zero_le _, fun l hl => ?_⟩
    have s0 : Same H (upd H l (.lst [])) := same_upd hl
    have lts : ts.length = ls.length := Paired.length hls
    have ld : (dueOf own ls).length = own.length := by unfold dueOf; rw [List.length_map, List.length_range]
    refine ⟨_, rfl, n, own.map V.str, rfl, SqL.of (s0 _ _ hn), for_it (walk_enum (K := K) (a := n) (xs := own.map V.str)) (fun i σ H' => ∃ (v3 v4 v5 v6 : Option V) (ps : List Addr), σ = [some (.ref n), some (.ref b), some (.ref l), v3, v4, v5, v6, none, none] ∧ Same H H' ∧ H' l = some (.lst (ps.map V.ref)) ∧ PairsAt K H' ps ((dueOf own ls).take i))
      ⟨none, none, none, none, [], rfl, s0, upd_same, .nil⟩ (fun i σ H' _ ⟨_, _, _, _, _, _, s, _⟩ => SqL.of (s _ _ hn)) ?_ ?_⟩
    · rintro i x σ H' H1 hi ⟨v3, v4, v5, v6, ps, rfl, s, hL, hP⟩ ⟨T, x1, y1, rfl, hT, rfl, e1, e2⟩
      cases e1
      rw [List.length_map] at hi
      have e2 : (own.map V.str)[i]? = some y1 := e2
      rw [List.getElem?_map, List.getElem?_eq_getElem hi] at e2
      cases e2
      have sT : Same H' (upd H' T (.tup [.int (i : Nat), .str own[i]])) := same_upd hT
      have s1 := s.trans sT
      refine ⟨T, _, rfl, SqT.of upd_same, rfl, _, _, rfl, _, _, rfl, rfl, ?_⟩
      have lps : ps.length ≤ 100 := by
        have z := Paired.length hP
        rw [List.length_take, ld] at z
        omega
      -- values
      refine ⟨_, rfl, b, rfl, ⟨_, SqL.of (s1 _ _ hts)⟩, fun D hD => ?_⟩
      have hD0 := s1.free hD
      have colTake : ∀ (j q : Nat) (lt : List Key), ls[q]? = some lt → col (ls.take (q + 1)) j = col (ls.take q) j ++ [lt.getD j (.inl 0)] := fun j q lt e => by
        unfold col
        rw [List.take_add_one, e, List.map_append]
        rfl
      have lotAt : ∀ (q j : Nat) (t : Addr) (Hx : Hp), j < own.length → ts[q]? = some t → Same H Hx → ∃ lt, ls[q]? = some lt ∧ SqT K Hx t (lt.map kV) ∧ atI (lt.map kV) ((j : Nat) : Int) = some (kV (lt.getD j (.inl 0))) := fun q j t Hx hj et sx => by
        obtain ⟨lt, e3, e4⟩ := paired_at hls et
        have e4 : H t = some (.tup (lt.map kV)) := e4
        have ll := (hlt lt (List.mem_of_getElem? e3)).1
        refine ⟨lt, e3, SqT.of (sx _ _ e4), ?_⟩
        unfold atI ixN
        rw [if_pos (by omega), if_pos (by rw [List.length_map]; omega)]
        show (lt.map kV)[((j : Nat) : Int).toNat]? = _
        rw [Int.toNat_natCast, List.getElem?_map, List.getD_eq_getElem?_getD, List.getElem?_eq_getElem (by omega)]
        rfl
      refine lc_list (K := K) (a := b) (xs := ts.map V.ref) (fun q H3 => H3 D = some (.lst ((col (ls.take q) i).map kV)) ∧ Same (upd H' T (.tup [.int (i : Nat), .str own[i]])) H3) ⟨upd_same, same_upd hD⟩ (fun q H3 _ z => SqL.of (z.2 _ _ (s1 _ _ hts))) ?_ ?_
      · rintro q x H3 hx ⟨h1, h2⟩
        rw [List.getElem?_map] at hx
        cases et : ts[q]? with
        | none => rw [et] at hx; cases hx
        | some t =>
          rw [et] at hx
          have ex : V.ref t = x := Option.some.inj hx
          subst ex
          obtain ⟨lt, e3, e4, e5⟩ := lotAt q i t H3 hi et (s1.trans h2)
          refine ⟨rfl, ?_⟩
          refine ⟨_, rfl, _, rfl, t, _, _, _, rfl, rfl, e4, e5, _, h1, ?_, ?_, same_put h2 hD⟩
          · rw [List.length_map]
            unfold col
            rw [List.length_map, List.length_take]
            exact Nat.lt_of_le_of_lt (Nat.le_trans (Nat.min_le_right _ _) lls) (by decide)
          · rw [upd_same, colTake i q lt e3, List.map_append]
            rfl
      · rintro H3 ⟨h1, h2⟩
        rw [List.length_map, lts, List.take_length] at h1
        have s3 := s1.trans h2
        have hL3 : H3 l = some (.lst (ps.map V.ref)) := h2 _ _ (sT _ _ hL)
        have hn3 := s3 _ _ hn
        obtain ⟨v0, r, ec⟩ : ∃ v0 r, col ls i = v0 :: r := by
          cases ls with
          | nil => exact absurd rfl lne
          | cons a q => exact ⟨_, _, rfl⟩
        have at0 : atI ((col ls i).map kV) 0 = some (kV v0) := by rw [ec]; exact atI_zero _ _
        have lp : ∀ (y : Key) (H4 : Hp) (T2 : Addr), Same H3 H4 → H4 T2 = none → y = dueAt own ls i → (upd H4 T2 (.tup [V.str own[i], kV y])) l = some (.lst (ps.map V.ref)) ∧ (ps.map V.ref).length < sizeLine ∧
            ∃ ps' : List Addr, Same H (upd (upd H4 T2 (.tup [V.str own[i], kV y])) l (.lst (ps.map V.ref ++ [.ref T2]))) ∧ (upd (upd H4 T2 (.tup [V.str own[i], kV y])) l (.lst (ps.map V.ref ++ [.ref T2]))) l = some (.lst (ps'.map V.ref)) ∧ PairsAt K (upd (upd H4 T2 (.tup [V.str own[i], kV y])) l (.lst (ps.map V.ref ++ [.ref T2]))) ps' ((dueOf own ls).take (i + 1)) := fun y H4 T2 s4 hT2 ey => by
          have g4 := s4 _ _ hL3
          have lT : l ≠ T2 := ne_of_none g4 hT2
          have g5 : (upd H4 T2 (.tup [V.str own[i], kV y])) l = some (.lst (ps.map V.ref)) := (upd_ne lT).trans g4
          have tt : Tups (upd H4 T2 (.tup [V.str own[i], kV y])) (upd (upd H4 T2 (.tup [V.str own[i], kV y])) l (.lst (ps.map V.ref ++ [.ref T2]))) := Tups.put g5 fun xs z => by cases z
          refine ⟨g5, by rw [List.length_map]; exact small1000 (by omega), ps ++ [T2], same_put (same_put (s3.trans s4) ((s3.trans s4).free hT2)) hl, by rw [upd_same, List.map_append]; rfl, ?_⟩
          have tk : (dueOf own ls).take (i + 1) = (dueOf own ls).take i ++ [(.inr own[i], y)] := by
            rw [List.take_add_one, ey]
            unfold dueOf
            rw [List.getElem?_map, List.getElem?_range hi]
            show _ ++ [((Sum.inr (own.getD i Str.empty) : Key), dueAt own ls i)] = _
            rw [List.getD_eq_getElem?_getD, List.getElem?_eq_getElem hi]
            rfl
          rw [tk]
          exact (hP.tups ((sameTups ((sT.trans h2).trans s4)).trans ((Tups.new hT2).trans tt))).snoc (tt _ _ upd_same)
        refine ⟨_, rfl, .inl ⟨rfl, _, SqL.of h1⟩, _, rfl, D, _, 0, _, rfl, rfl, SqL.of h1, at0, D, col ls i, v0, rfl, rfl, SqL.of h1, _, rfl, D, _, rfl, .inl (SqL.of h1), rfl, _, rfl, ?_⟩
        have all : decide (V.int ((cnt v0 (col ls i) : Nat) : Int) = V.int ((((col ls i).map kV).length : Nat) : Int)) = (col ls i).all (fun x => decide (x = v0)) := by
          rw [Bool.eq_iff_iff, decide_eq_true_iff, ← cnt_all, List.length_map]
          exact ⟨fun z => by have := V.int.inj z; omega, fun z => by rw [z]⟩
        have hd0 : (col ls i).headD (.inl 0) = v0 := by rw [ec]; rfl
        rw [all]
        refine ite2 (fun ha => ?_) (fun ha => ?_)
        · refine ⟨_, rfl, .inl ⟨rfl, _, SqL.of hL3⟩, _, rfl, _, rfl, D, _, 0, _, rfl, rfl, SqL.of h1, at0, two_line, fun T2 hT2 => ?_⟩
          obtain ⟨g5, g6, ps', g7, g8, g9⟩ := lp v0 H3 T2 (fun _ _ e => e) hT2 (by unfold dueAt; rw [hd0, if_pos ha])
          exact ⟨l, _, _, rfl, rfl, g5, g6, _, _, _, _, ps', rfl, g7, g8, g9⟩
        · refine ⟨_, rfl, n, _, rfl, .inl (SqL.of hn3), _, rfl, by rw [List.length_map]; omega, by rw [List.length_map]; omega, fun D2 hD2 => ?_⟩
          have hD2' := h2.free hD2
          rw [List.length_map, Int.toNat_natCast]
          refine lc_range (fun q H4 => H4 D2 = some (.lst (((List.range q).filter fun j => decide (col ls j = col ls i)).map fun j => V.int ((j : Nat) : Int))) ∧ Same H3 H4) ⟨upd_same, same_upd hD2⟩ ?_ ?_
          · rintro q H4 hq ⟨k1, k2⟩
            have s4 := s3.trans k2
            refine ⟨rfl, ?_⟩
            refine ⟨_, rfl, b, rfl, ⟨_, SqL.of (s4 _ _ hts)⟩, fun D3 hD3 => ?_⟩
            refine lc_list (K := K) (a := b) (xs := ts.map V.ref) (fun q2 H5 => H5 D3 = some (.lst ((col (ls.take q2) q).map kV)) ∧ Same H4 H5) ⟨upd_same, same_upd hD3⟩ (fun q2 H5 _ z => SqL.of (z.2 _ _ (s4 _ _ hts))) ?_ ?_
            · rintro q2 x H5 hx ⟨m1, m2⟩
              rw [List.getElem?_map] at hx
              cases et : ts[q2]? with
              | none => rw [et] at hx; cases hx
              | some t =>
                rw [et] at hx
                have ex : V.ref t = x := Option.some.inj hx
                subst ex
                obtain ⟨lt, e3, e4, e5⟩ := lotAt q2 q t H5 hq et (s4.trans m2)
                refine ⟨rfl, ?_⟩
                refine ⟨_, rfl, _, rfl, t, _, _, kV (lt.getD q (.inl 0)), rfl, rfl, e4, ?_, _, m1, ?_, ?_, same_put m2 hD3⟩
                · rw [Int.zero_add]
                  exact e5
                · rw [List.length_map]
                  unfold col
                  rw [List.length_map, List.length_take]
                  exact Nat.lt_of_le_of_lt (Nat.le_trans (Nat.min_le_right _ _) lls) (by decide)
                · rw [upd_same, colTake q q2 lt e3, List.map_append]
                  rfl
            · rintro H5 ⟨m1, m2⟩
              rw [List.length_map, lts, List.take_length] at m1
              have tmc : ∀ j, ∀ x ∈ col ls j, Tm x := fun j x hx => by
                unfold col at hx
                obtain ⟨lt, hlm, e⟩ := List.mem_map.mp hx
                rw [← e]
                cases z : lt[j]? with
                | none => rw [List.getD_eq_getElem?_getD, z]; exact Nat.zero_le _
                | some y => rw [List.getD_eq_getElem?_getD, z]; exact (hlt lt hlm).2 y (List.mem_of_getElem? z)
              refine ⟨_, rfl, _, _, dp_keysL (SqL.of m1), dp_keysL (SqL.of (m2 _ _ (k2 _ _ h1))), shaped_keysL (tmc q), shaped_keysL (tmc i), _, rfl, ?_⟩
              rw [eqvL, eqvAll_keys]
              have k5 := m2 _ _ k1
              have rg : (List.range (q + 1)).filter (fun j => decide (col ls j = col ls i)) = (List.range q).filter (fun j => decide (col ls j = col ls i)) ++ if col ls q = col ls i then [q] else [] := by
                rw [List.range_succ, List.filter_append]
                congr 1
                by_cases z : col ls q = col ls i
                · rw [if_pos z]; exact List.filter_cons_of_pos (by exact decide_eq_true z)
                · rw [if_neg z]; exact List.filter_cons_of_neg (by rw [decide_eq_false z]; exact Bool.false_ne_true)
              refine ite2 (fun hc => ?_) (fun hc => ?_)
              · refine ⟨_, rfl, _, k5, ?_, ?_, same_put (k2.trans m2) hD2⟩
                · rw [List.length_map]
                  refine Nat.lt_of_le_of_lt (List.length_filter_le _ _) ?_
                  rw [List.length_range]
                  exact small1000 (by omega)
                · rw [upd_same, rg, if_pos (of_decide_eq_true hc), List.map_append, Int.zero_add]
                  rfl
              · rw [rg, if_neg (fun z => hc (decide_eq_true z)), List.append_nil]
                exact ⟨k5, k2.trans m2⟩
          · rintro H4 ⟨k1, k2⟩
            have fi : ((List.range own.length).find? fun j => decide (col ls j = col ls i)) ≠ none := by
              rw [Ne, List.find?_eq_none]
              exact fun z => z i (List.mem_range.mpr hi) (decide_eq_true rfl)
            obtain ⟨j0, ej⟩ := Option.ne_none_iff_exists'.mp fi
            have jl : j0 < own.length := List.mem_range.mp (List.mem_of_find?_eq_some ej)
            have at1 : atI (((List.range own.length).filter fun j => decide (col ls j = col ls i)).map fun j => V.int ((j : Nat) : Int)) 0 = some (.int ((j0 : Nat) : Int)) := by
              have hh : ((List.range own.length).filter fun j => decide (col ls j = col ls i)).head? = (List.range own.length).find? fun j => decide (col ls j = col ls i) := List.head?_filter
              rw [ej] at hh
              cases z : (List.range own.length).filter fun j => decide (col ls j = col ls i) with
              | nil => rw [z] at hh; cases hh
              | cons y q =>
                rw [z] at hh
                have z2 : y = j0 := Option.some.inj hh
                rw [z2]
                exact atI_zero _ _
            have at2 : atI (own.map V.str) ((j0 : Nat) : Int) = some (.str own[j0]) := by
              unfold atI ixN
              rw [if_pos (by omega), if_pos (by rw [List.length_map]; omega)]
              show (own.map V.str)[((j0 : Nat) : Int).toNat]? = _
              rw [Int.toNat_natCast, List.getElem?_map, List.getElem?_eq_getElem jl]
              rfl
            refine ⟨_, rfl, .inl ⟨rfl, _, SqL.of (k2 _ _ hL3)⟩, _, rfl, _, rfl, _, rfl, D2, _, 0, _, rfl, rfl, SqL.of k1, at1, n, _, _, _, rfl, rfl, SqL.of (k2 _ _ hn3), at2, two_line, fun T2 hT2 => ?_⟩
            obtain ⟨g5, g6, ps', g7, g8, g9⟩ := lp (.inr own[j0]) H4 T2 k2 hT2 (by
              unfold dueAt
              rw [hd0, if_neg ha, ej]
              show _ = Sum.inr (own.getD j0 Str.empty)
              rw [List.getD_eq_getElem?_getD, List.getElem?_eq_getElem jl]
              rfl)
            exact ⟨l, _, _, rfl, rfl, g5, g6, _, _, _, _, ps', rfl, g7, g8, g9⟩
    · rintro σ H' ⟨v3, v4, v5, v6, ps, rfl, s, hL, hP⟩
      rw [List.length_map, ← ld, List.take_length] at hP
      refine ⟨_, rfl, l, _, rfl, .inl ⟨SqL.of hL, fun p hp => ?_⟩⟩
      exact k _ p (same_put s (s.free hp)) (s.free hp) ⟨ps, upd_same, hP.tups (Tups.new hp)⟩
end
end U6
set_option Elab.async false
set_option linter.all false
set_option maxRecDepth 100000
set_option maxHeartbeats 8000000
/-! _law_by_classes. -/
namespace U6
open PySem PySem.Spec PyProof.Rows L2 U6R
structure MkInv (es : Eqs) (S : Key → Prop) (m : Key → Nat) (kvs : List (Key × V)) : Prop where
  in_ : ∀ k, S k → valV kvs k = some (.int ((m k : Nat) : Int))
  out : ∀ k, ¬ S k → valV kvs k = none
  mks : Marks S (Al es) m kvs.length
theorem putK_new {kvs : List (Key × V)} {k : Key} {u : V} (h : valV kvs k = none) : (putK kvs k u).length = kvs.length + 1 := by
  have a : (kvs.any fun kv => decide (kv.1 = k)) = false := by
    rw [valV_any, h]
    rfl
  unfold putK
  rw [if_neg (by rw [a]; exact Bool.false_ne_true), List.length_append]
  rfl
theorem MkInv.had {es : Eqs} {S S' : Key → Prop} {m : Key → Nat} {kvs : List (Key × V)} {t : Key} {v : V} (M : MkInv es S m kvs) (h : valV kvs t = some v) (e : ∀ k, S' k ↔ S k ∨ k = t) : MkInv es S' m kvs := by
  have st : S t := Classical.byContradiction fun n => by rw [M.out t n] at h; cases h
  have e' : ∀ k, S' k ↔ S k := fun k => (e k).trans ⟨fun z => z.elim id fun z => by rw [z]; exact st, .inl⟩
  exact ⟨fun k hk => M.in_ k ((e' k).mp hk), fun k hk => M.out k fun z => hk ((e' k).mpr z), M.mks.congr fun k hk => (e' k).mp hk⟩
theorem MkInv.new {es : Eqs} {S S' : Key → Prop} {m : Key → Nat} {kvs : List (Key × V)} {t : Key} (M : MkInv es S m kvs) (hs : ∀ k, k ∈ terms es → S k) (h : valV kvs t = none) (e : ∀ k, S' k ↔ S k ∨ k = t) :
    MkInv es S' (mark1 m t kvs.length) (putK kvs t (.int ((kvs.length : Nat) : Int))) := by
  have st : ¬ S t := fun n => by rw [M.in_ t n] at h; cases h
  refine ⟨fun k hk => ?_, fun k hk => ?_, ?_⟩
  · rw [valV_put]
    unfold mark1
    by_cases z : k = t
    · rw [if_pos z, if_pos z]
    · rw [if_neg z, if_neg z]
      exact M.in_ k (((e k).mp hk).resolve_right z)
  · have n1 : ¬ (S k ∨ k = t) := fun z => hk ((e k).mpr z)
    rw [valV_put, if_neg fun z => n1 (.inr z)]
    exact M.out k fun z => n1 (.inl z)
  · rw [putK_new h]
    exact (M.mks.add hs st).congr fun k hk => (e k).mp hk
theorem merge_again (m : Key → Nat) (lo hi : Nat) (t : Key) : (if merge m lo hi t = hi then lo else merge m lo hi t) = merge m lo hi t := by
  unfold merge
  by_cases a : m t = hi
  · rw [if_pos a]
    by_cases b : lo = hi
    · rw [if_pos b]
    · rw [if_neg b]
  · rw [if_neg a, if_neg a]
/-- halfway through the renaming -/
structure Half (S : Key → Prop) (m : Key → Nat) (lo hi : Nat) (done : List Key) (n : Nat) (kvs : List (Key × V)) : Prop where
  len : kvs.length = n
  out : ∀ k, ¬ S k → valV kvs k = none
  in_ : ∀ k, S k → ∃ v : Nat, valV kvs k = some (.int (v : Int)) ∧ (k ∈ done → v = merge m lo hi k) ∧ (k ∉ done → v = m k)
theorem Half.step {S : Key → Prop} {m : Key → Nat} {lo hi n : Nat} {done : List Key} {kvs : List (Key × V)} {t : Key} (h : Half S m lo hi done n kvs) (st : S t) :
    ∃ v : Nat, valV kvs t = some (.int (v : Int)) ∧ (v = hi → Half S m lo hi (done ++ [t]) n (putK kvs t (.int (lo : Int)))) ∧ (v ≠ hi → Half S m lo hi (done ++ [t]) n kvs) := by
  obtain ⟨v, h1, h2, h3⟩ := h.in_ t st
  have key : (if v = hi then lo else v) = merge m lo hi t := by
    by_cases d : t ∈ done
    · rw [h2 d]; exact merge_again m lo hi t
    · rw [h3 d]; rfl
  have mem : ∀ k, k ≠ t → (k ∈ done ++ [t] ↔ k ∈ done) := fun k n => by
    rw [List.mem_append, List.mem_singleton]
    exact ⟨fun z => z.resolve_right n, .inl⟩
  refine ⟨v, h1, fun e => ⟨?_, fun k hk => ?_, fun k hk => ?_⟩, fun e => ⟨h.len, h.out, fun k hk => ?_⟩⟩
  · rw [putK_len h1]; exact h.len
  · rw [valV_put, if_neg fun z => hk (by rw [z]; exact st)]
    exact h.out k hk
  · rw [valV_put]
    by_cases z : k = t
    · rw [if_pos z]
      refine ⟨lo, rfl, fun _ => ?_, fun n => absurd (by rw [z]; simp) n⟩
      rw [if_pos e] at key
      rw [z]; exact key
    · rw [if_neg z, mem k z]
      exact h.in_ k hk
  · by_cases z : k = t
    · refine ⟨v, by rw [z]; exact h1, fun _ => ?_, fun n => absurd (by rw [z]; simp) n⟩
      rw [if_neg e] at key
      rw [z]; exact key
    · rw [mem k z]
      exact h.in_ k hk
section
variable {P : Program} {w : World} {K : PySem.W.Frag} {mg : Str → Option Value} {base : Heap}
def spClasses (K : PySem.W.Frag) : Sp := fun vs H Q _ => ∃ (a : Addr) (es : Eqs), vs = [.ref a] ∧ EqsAt K H a es ∧ (∀ t ∈ terms es, Sh t) ∧ es.length ≤ 30 ∧
  (∀ d, told es = some d → ∀ H' p, Same H H' → H p = none → EqsAt K H' p d → Q (.ref p) H') ∧ (told es = none → ∀ H', Same H H' → Q .non H')
def nCl : List Str := ["_law_pairs_here", "_law_marks", "_law_pair", "_law_term", "_law_low", "_law_high", "_law_owners", "_law_leaders", "_law_names_here", "_law_name"]
theorem scCl : FnScope nCl ["_law_pairs_here"] (defScope sClasses) := ⟨rfl, rfl, rfl, by decide +kernel, rfl, by decide +kernel, by decide +kernel⟩
theorem ok_classes {f fT fN : Addr} {fd fdT fdN : FuncData} (D : Df K mg "_law_by_classes" sClasses ["_law_pairs_here"] f fd) (B : Bl mg) (DT : Df K mg "_law_terms" sTerms ["_law_pairs_here", "_law_is_names"] fT fdT) (DN : Df K mg "_law_is_name" sIsName ["_law_term"] fN fdN) :
    FnOk P w K mg base CX0 3 f fd ["_law_pairs_here"] (spClasses K) := by
  have GT : FnOk P w K mg base CX0 2 fT fdT ["_law_pairs_here", "_law_is_names"] (spTerms K) := ok_terms DT B DN
  refine D.F.ok scCl (fun vs H Q E h => ?_) (fun cdv A outer s H vs Q E hr h => ?_)
  · obtain ⟨a, es, rfl, _⟩ := h
    rfl
  · obtain ⟨a, es, rfl, ⟨ps, hps, hpr⟩, hsh, hlen, kS, kN⟩ := h
    have hu := hu_of hr
    refine ⟨_, pss_cons (ps_set (i := 1) scCl.nd rfl (Or.inr rfl) pe_dnewK)
      (pss_cons (ps_for PassesOwn.never rfl (pi_tup (pv 0)) (pg_name (i := 2) scCl.nd rfl (Or.inl rfl))
        (pss_cons (ps_for PassesOwn.never rfl (pi_tup (pv 2)) (pg_name (i := 3) scCl.nd rfl (Or.inl rfl))
          (pss_one (ps_expr (pe_dsetd (pv 1) (pv 3) (pe_callB call_lenD (by rfl) B.len PySem.boot_len (pa_cons (pv 1) pa_nil)) ⟨rfl, rfl, rfl, rfl⟩))))
        (pss_cons (ps_par (i := 4) (j := 5) rfl scCl.nd rfl rfl (by decide) rfl rfl (pa_cons (pe_dget hu (pv 1) (pe_ix ix_tup (pv 2) pe_int (fun _ _ => rfl)) (fun _ _ => rfl)) (pa_cons (pe_dget hu (pv 1) (pe_ix ix_tup (pv 2) pe_int (fun _ _ => rfl)) (fun _ _ => rfl)) pa_nil)) rfl)
        (pss_one (ps_for PassesOwn.never rfl (pi_list (pe_callTy (call_list_dK rfl) (by rfl) B.lst (by decide +kernel) (pa_cons (pv 1) pa_nil))) (pg_name (i := 3) scCl.nd rfl (Or.inl rfl))
          (pss_one (ps_if (pt_cmpR op_eq (pe_dget hu (pv 1) (pv 3) (fun _ _ => rfl)) (pv 5) (nomark _)) (pss_one (ps_dput hu (pv 1) (pv 3) (pv 4) rfl)) pss_nil)))))))
      (pss_cons (ps_asg (pe_tup (pa_cons pe_dnewK (pa_cons pe_dnewK (pa_cons (pe_call GT hr rfl DT.g DT.k DT.b .nil pass0 (pa_cons (pv 0) (pa_cons pe_bl pa_nil))) pa_nil))))
          (pg_tup rfl (pgs_cons (pg_name (i := 6) scCl.nd rfl (Or.inr rfl)) (pgs_cons (pg_name (i := 7) scCl.nd rfl (Or.inr rfl)) (pgs_cons (pg_name (i := 8) scCl.nd rfl (Or.inl rfl)) pgs_nil)))))
      (pss_cons (ps_for PassesOwn.never rfl (pi_list (pe_call GT hr rfl DT.g DT.k DT.b .nil pass0 (pa_cons (pv 0) (pa_cons pe_bl pa_nil)))) (pg_name (i := 3) scCl.nd rfl (Or.inl rfl))
        (pss_cons (ps_if (pt_cmp (pc_din hu (pe_dget hu (pv 1) (pv 3) (fun _ _ => rfl)) (pv 6))) (pss_one (ps_ret pe_non)) pss_nil)
        (pss_one (ps_dput hu (pv 6) (pe_dget hu (pv 1) (pv 3) (fun _ _ => rfl)) (pv 3) rfl))))
      (pss_cons (ps_for PassesOwn.never rfl (pi_list (pv 8)) (pg_name (i := 9) scCl.nd rfl (Or.inl rfl))
        (pss_one (ps_expr (pe_dsetd (pv 7) (pe_dget hu (pv 1) (pv 9) (fun _ _ => rfl)) (pv 9) ⟨rfl, rfl, rfl, rfl⟩))))
      (pss_one (ps_ret (pe_callTy call_tuple_of (by rfl) B.tup (by decide +kernel) (pa_cons (pe_lc (own := [("_law_name", 9)]) (g := gName 9) rfl scCl.nd (pi_list (pv 8))
          (blkOk_by (N := nCl) (sc := defScope sClasses) (by decide +kernel)) (fun _ _ _ _ _ => pg_name (i := 9) scCl.nd rfl (Or.inl rfl)) (fun _ _ _ _ _ => pts_nil)
          (fun _ _ _ _ _ => pe_tup (pa_cons (pv 9) (pa_cons (pe_dget2 hu (pv 6) (pe_dget hu (pv 1) (pv 9) (fun _ _ => rfl)) (pe_dget hu (pv 7) (pe_dget hu (pv 1) (pv 9) (fun _ _ => rfl)) (fun _ _ => rfl)) ⟨rfl, rfl, rfl, rfl⟩) pa_nil)))) pa_nil)))))))), ?_⟩
    intro d hd
    have s0 : Same H (upd H d (.dK [])) := same_upd hd
    refine ⟨_, rfl, a, rfl, ⟨_, SqT.of (s0 _ _ hps)⟩, for_tup (K := K) (a := a) (xs := ps.map V.ref) (fun i σ H' => ∃ (v2 v3 v4 v5 : Option V) (kvs : List (Key × V)) (m : Key → Nat), σ = [some (.ref a), some (.ref d), v2, v3, v4, v5, none, none, none, none] ∧ Same H H' ∧ H' d = some (.dK kvs) ∧
        MkInv (es.take i) (fun k => k ∈ terms (es.take i)) m kvs ∧ kvs.length ≤ 2 * i)
      ⟨none, none, none, none, [], fun _ => 0, rfl, s0, upd_same, ⟨fun _ h => (nomatch h), fun _ _ => rfl, fun _ h => (nomatch h), fun _ _ h => (nomatch h)⟩, Nat.le_refl _⟩ (fun i σ H' _ ⟨_, _, _, _, _, _, _, s, _⟩ => SqT.of (s _ _ hps)) ?_ ?_⟩
    · rintro i x σ H' hx ⟨v2, v3, v4, v5, kvs, m, rfl, s, hk, hM, hl⟩
      rw [List.getElem?_map] at hx
      cases ep : ps[i]? with
      | none => rw [ep] at hx; cases hx
      | some p =>
        rw [ep] at hx
        have ex : V.ref p = x := Option.some.inj hx
        subst ex
        obtain ⟨e, ee, hpe⟩ := paired_at hpr ep
        have hil : i < es.length := (List.getElem?_eq_some_iff.mp ee).1
        refine ⟨_, rfl, p, rfl, ⟨_, SqT.of (s _ _ hpe)⟩, for_tup (K := K) (a := p) (xs := [e.1, e.2].map kV) (fun j σ H' => ∃ (v3 : Option V) (kvs : List (Key × V)) (m : Key → Nat), σ = [some (.ref a), some (.ref d), some (.ref p), v3, v4, v5, none, none, none, none] ∧ Same H H' ∧ H' d = some (.dK kvs) ∧
            MkInv (es.take i) (fun k => k ∈ terms (es.take i) ∨ k ∈ [e.1, e.2].take j) m kvs ∧ kvs.length ≤ 2 * i + j)
          ⟨v3, kvs, m, rfl, s, hk, ⟨fun k h => hM.in_ k (h.resolve_right fun z => nomatch z), fun k h => hM.out k fun z => h (.inl z), hM.mks.congr fun k h => h.resolve_right fun z => nomatch z⟩, hl⟩ (fun j σ H' _ ⟨_, _, _, _, s, _⟩ => SqT.of (s _ _ hpe)) ?_ ?_⟩
        · rintro j x σ H' hx ⟨v3, kvs, m, rfl, s, hk, hM, hl⟩
          rw [List.getElem?_map] at hx
          cases et : [e.1, e.2][j]? with
          | none => rw [et] at hx; cases hx
          | some t =>
            rw [et] at hx
            have ex : kV t = x := Option.some.inj hx
            subst ex
            have hj : j < 2 := (List.getElem?_eq_some_iff.mp et).1
            have sE : ∀ k, (k ∈ terms (es.take i) ∨ k ∈ [e.1, e.2].take (j + 1)) ↔ ((k ∈ terms (es.take i) ∨ k ∈ [e.1, e.2].take j) ∨ k = t) := fun k => by
              rw [List.take_add_one, et, List.mem_append]
              show _ ∨ (_ ∨ k ∈ [t]) ↔ _
              rw [List.mem_singleton, or_assoc]
            refine ⟨_, rfl, d, rfl, .inl ⟨kvs, .inl hk⟩, _, rfl, _, rfl, d, kvs, rfl, hk, kvs, t, hk, rfl, Nat.lt_of_le_of_lt (show kvs.length ≤ 100 by omega) (by decide), fun v hv => ?_, fun hn => ?_⟩
            · exact ⟨_, kvs, m, rfl, s, hk, hM.had hv sE, by omega⟩
            · refine ⟨_, _, _, rfl, same_put s hd, upd_same, hM.new (fun k h => .inl h) hn sE, ?_⟩
              rw [putK_new hn]
              omega
        · rintro σ H' ⟨v3, kvs, m, rfl, s, hk, hM, hl⟩
          have hl : kvs.length ≤ 2 * i + 2 := hl
          have hp' := s _ _ hpe
          have m1 : e.1 ∈ [e.1, e.2].take 2 := by simp
          have m2 : e.2 ∈ [e.1, e.2].take 2 := by simp
          have g1 : DGet H' d (kV e.1) (some (.int ((m e.1 : Nat) : Int))) := by rw [← hM.in_ e.1 (.inr m1)]; exact DGet.k (k := e.1) hk
          have g2 : DGet H' d (kV e.2) (some (.int ((m e.2 : Nat) : Int))) := by rw [← hM.in_ e.2 (.inr m2)]; exact DGet.k (k := e.2) hk
          refine ⟨_, rfl, _, rfl, p, _, 0, _, rfl, rfl, SqT.of hp', rfl, d, _, rfl, g1, _, rfl, _, rfl, p, _, 1, _, rfl, rfl, SqT.of hp', rfl, d, _, rfl, g2, _, _, rfl, ?_⟩
          refine ⟨_, rfl, d, kvs, rfl, hk, fun q hq => ⟨q, rfl, ⟨_, SqL.of upd_same⟩, ?_⟩⟩
          have qd : d ≠ q := ne_of_none hk hq
          have hq0 := s.free hq
          refine for_list (K := K) (a := q) (xs := kvs.map fun kv => kV kv.1) (fun j σ H2 => ∃ (v3 : Option V) (kvs2 : List (Key × V)), σ = [some (.ref a), some (.ref d), some (.ref p), v3, some (.int ((m e.1 : Nat) : Int)), some (.int ((m e.2 : Nat) : Int)), none, none, none, none] ∧ Same H H2 ∧ H2 q = some (.lst (kvs.map fun kv => kV kv.1)) ∧ H2 d = some (.dK kvs2) ∧
              Half (fun k => k ∈ terms (es.take i) ∨ k ∈ [e.1, e.2].take 2) m (m e.1) (m e.2) ((kvs.map (·.1)).take j) kvs.length kvs2)
            ⟨v3, kvs, rfl, same_put s hq0, upd_same, by rw [upd_ne qd]; exact hk, rfl, hM.out, fun k h => ⟨m k, hM.in_ k h, fun z => (nomatch z), fun _ => rfl⟩⟩ (fun j σ H2 _ ⟨_, _, _, _, z, _⟩ => SqL.of z) ?_ ?_
          · rintro j x σ H2 hx ⟨v3, kvs2, rfl, s2, h2q, h2d, hH⟩
            rw [List.getElem?_map] at hx
            cases et : kvs[j]? with
            | none => rw [et] at hx; cases hx
            | some kv =>
              rw [et] at hx
              have ex : kV kv.1 = x := Option.some.inj hx
              subst ex
              have km : kv.1 ∈ kvs.map (·.1) := List.mem_map.mpr ⟨kv, List.mem_of_getElem? et, rfl⟩
              have st := Classical.byContradiction fun n => valV_not (hM.out kv.1 n) km
              have tk : (kvs.map (·.1)).take (j + 1) = (kvs.map (·.1)).take j ++ [kv.1] := by
                rw [List.take_add_one, List.getElem?_map, et]
                rfl
              obtain ⟨v, k1, k2, k3⟩ := hH.step st
              rw [← tk] at k2 k3
              refine ⟨_, rfl, _, rfl, d, .int (v : Int), rfl, by rw [← k1]; exact DGet.k (k := kv.1) h2d, _, rfl, rfl, _, rfl, ?_⟩
              refine ite2 (fun hc => ?_) (fun hc => ?_)
              · have ev : v = m e.2 := by have := V.int.inj (of_decide_eq_true hc); omega
                refine ⟨_, rfl, _, rfl, _, rfl, d, _, rfl, DPut.k (k := kv.1) h2d (by rw [hH.len]; exact Nat.lt_of_le_of_lt (show kvs.length ≤ 100 by omega) (by decide)), ?_⟩
                exact ⟨_, _, rfl, same_put s2 hd, by rw [upd_ne qd.symm]; exact h2q, upd_same, k2 ev⟩
              · exact ⟨_, kvs2, rfl, s2, h2q, h2d, k3 fun ev => hc (decide_eq_true (by rw [ev]))⟩
          · rintro σ H2 ⟨v3, kvs2, rfl, s2, h2q, h2d, hH⟩
            rw [List.length_map, ← List.length_map (f := (·.1)) (as := kvs), List.take_length] at hH
            have tt : ∀ k, k ∈ terms (es.take (i + 1)) ↔ (k ∈ terms (es.take i) ∨ k ∈ [e.1, e.2].take 2) := fun k => by rw [terms_take ee, List.mem_append]; rfl
            refine ⟨_, _, _, _, kvs2, merge m (m e.1) (m e.2), rfl, s2, h2d, ⟨fun k hk' => ?_, fun k hk' => hH.out k fun z => hk' ((tt k).mpr z), ?_⟩, by rw [hH.len, List.length_map]; omega⟩
            · obtain ⟨v, z1, z2, _⟩ := hH.in_ k ((tt k).mp hk')
              rw [z1, z2 (valV_in (hM.in_ k ((tt k).mp hk')))]
            · rw [hH.len, List.length_map]
              have z := hM.mks.merge (.inr m1) (.inr m2)
              have et1 : es.take (i + 1) = es.take i ++ [(e.1, e.2)] := by rw [List.take_add_one, ee]; rfl
              rw [et1] at tt ⊢
              exact z.congr fun k hk' => (tt k).mp hk'
    · rintro σ H1 ⟨v2, v3, v4, v5, kvs, m, rfl, s, hk, hM, hl⟩
      have lps : ps.length = es.length := Paired.length hpr
      rw [List.length_map, lps, List.take_length] at hM
      have hlk : kvs.length ≤ 60 := by rw [List.length_map, lps] at hl; omega
      have vin : ∀ {H'' : Hp} {t : Key}, H'' d = some (.dK kvs) → t ∈ terms es → DGet H'' d (kV t) (some (.int ((m t : Nat) : Int))) := fun h ht => by rw [← hM.in_ _ ht]; exact DGet.k h
      intro o ho ld hld
      have s2 := same_put (o := .dK []) (same_put (o := .dK []) s (s.free ho)) ((same_put (o := .dK []) s (s.free ho)).free hld)
      have do_ : d ≠ o := ne_of_none hk ho
      have dl : d ≠ ld := ne_of_none ((upd_ne do_).trans hk) hld
      have ol : o ≠ ld := fun z => by rw [← z, upd_same] at hld; cases hld
      have ho0 := s.free ho
      have hld0 := (same_put (o := .dK []) s ho0).free hld
      have s12 : Same H1 (upd (upd H1 o (.dK [])) ld (.dK [])) := same_put (same_upd ho) ((same_upd ho).free hld)
      refine ⟨_, rfl, a, es, true, rfl, ⟨ps, s2 _ _ hps, hpr.tups (sameTups s2)⟩, hsh, hlen, fun _ H2 p s3 hp hv => ?_, fun z => nomatch z⟩
      refine ⟨(show 3 ≤ sizeLine by decide), fun T hT => ?_⟩
      have s4 := s3.trans (same_upd (o := .tup [.ref o, .ref ld, .ref p]) hT)
      refine ⟨T, _, rfl, SqT.of upd_same, rfl, _, _, rfl, _, _, rfl, _, _, rfl, rfl, ?_⟩
      have pT : p ≠ T := ne_of_none hv hT
      have f1 : (upd H2 T (.tup [.ref o, .ref ld, .ref p])) d = some (.dK kvs) := s4 _ _ (s12 _ _ hk)
      have f2 : (upd H2 T (.tup [.ref o, .ref ld, .ref p])) o = some (.dK []) := s4 _ _ (by rw [upd_ne ol, upd_same])
      have f3 : (upd H2 T (.tup [.ref o, .ref ld, .ref p])) ld = some (.dK []) := s4 _ _ upd_same
      have f4 : (upd H2 T (.tup [.ref o, .ref ld, .ref p])) p = some (.lst ((vars es).map V.str)) := (upd_ne pT).trans hv
      have s5 := s2.trans s4
      generalize upd H2 T (.tup [.ref o, .ref ld, .ref p]) = H3 at f1 f2 f3 f4 s5 ⊢
      refine ⟨_, rfl, a, es, false, rfl, ⟨ps, s5 _ _ hps, hpr.tups (sameTups s5)⟩, hsh, hlen, (fun z => nomatch z), fun _ H4 p2 cs s6 hp2 hcs hC => ?_⟩
      have hcm : ∀ c, c ∈ cs ↔ (c ∈ terms es ∧ isVar c = false) := hC.mem
      have lcs : cs.length ≤ 60 := by have := hC.len; rw [terms_len] at this; omega
      have s7 := s5.trans s6
      have p2o : p2 ≠ o := fun z => by rw [z, f2] at hp2; cases hp2
      have p2l : p2 ≠ ld := fun z => by rw [z, f3] at hp2; cases hp2
      have po : p ≠ o := fun z => by rw [z, f2] at f4; cases f4
      have pl : p ≠ ld := fun z => by rw [z, f3] at f4; cases f4
      refine ⟨p2, rfl, ⟨_, SqL.of hcs⟩, for_list (K := K) (a := p2) (xs := cs.map kV) (fun j σ H' => ∃ (v3 : Option V) (ok : List (Key × V)), σ = [some (.ref a), some (.ref d), v2, v3, v4, v5, some (.ref o), some (.ref ld), some (.ref p), none] ∧ Same H H' ∧ H' d = some (.dK kvs) ∧ H' ld = some (.dK []) ∧ H' p = some (.lst ((vars es).map V.str)) ∧ H' p2 = some (.lst (cs.map kV)) ∧ H' o = some (.dK ok) ∧
          (∀ q : Nat, valV ok (.inl (q : Int)) = ((cs.take j).find? fun c => m c == q).map kV) ∧ ok.length ≤ j ∧ (∀ c ∈ cs.take j, ∀ c' ∈ cs.take j, m c = m c' → c = c'))
        ⟨v3, [], rfl, s7, s6 _ _ f1, s6 _ _ f3, s6 _ _ f4, hcs, s6 _ _ f2, fun _ => rfl, Nat.le_refl _, fun _ h => nomatch h⟩ (fun j σ H' _ ⟨_, _, _, _, _, _, _, z, _⟩ => SqL.of z) ?_ ?_⟩
      · rintro j x σ H' hx ⟨v3, ok, rfl, sH, g1, g2, g3, g4, g5, g6, g7, g8⟩
        rw [List.getElem?_map] at hx
        cases et : cs[j]? with
        | none => rw [et] at hx; cases hx
        | some t =>
          rw [et] at hx
          have ex : kV t = x := Option.some.inj hx
          subst ex
          have lj : j < cs.length := (List.getElem?_eq_some_iff.mp et).1
          obtain ⟨tt, tv⟩ := (hcm t).mp (List.mem_of_getElem? et)
          have tk : cs.take (j + 1) = cs.take j ++ [t] := by rw [List.take_add_one, et]; rfl
          have tn : t ∉ cs.take j := fun z => by
            obtain ⟨i2, h2⟩ := List.mem_iff_getElem?.mp z
            have l2 : i2 < j := by
              have := (List.getElem?_eq_some_iff.mp h2).1
              rw [List.length_take] at this
              omega
            rw [List.getElem?_take, if_pos l2] at h2
            have nd := hC.nd
            obtain ⟨q1, q2⟩ := List.getElem?_eq_some_iff.mp h2
            obtain ⟨q3, q4⟩ := List.getElem?_eq_some_iff.mp et
            exact List.pairwise_iff_getElem.mp nd i2 j q1 q3 l2 (q2.trans q4.symm)
          have g6t := g6 (m t)
          refine ⟨_, rfl, _, rfl, d, _, rfl, vin g1 tt, _, rfl, o, _, rfl, DGet.k (k := .inl ((m t : Nat) : Int)) g5, ?_⟩
          cases q : (cs.take j).find? fun c => m c == m t with
          | some c =>
            rw [q] at g6t
            have g6t : valV ok (.inl ((m t : Nat) : Int)) = some (kV c) := g6t
            rw [g6t]
            refine ⟨true, rfl, iteT ?_⟩
            obtain ⟨h1, h2⟩ := find_some_iff q
            obtain ⟨ct, cv⟩ := (hcm c).mp (List.mem_of_mem_take h2)
            have un : unif es = none := marks_clash hM.mks ct tt cv tv (fun z => tn (by rw [← z]; exact h2)) (by simpa using h1)
            exact kN (told_none un) H' sH
          | none =>
            rw [q] at g6t
            have g6t : valV ok (.inl ((m t : Nat) : Int)) = none := g6t
            rw [g6t]
            refine ⟨false, rfl, iteF ?_⟩
            have nf := List.find?_eq_none.mp q
            refine ⟨_, rfl, _, rfl, _, rfl, _, rfl, d, _, rfl, vin g1 tt, o, _, rfl, DPut.k (k := .inl ((m t : Nat) : Int)) g5 (Nat.lt_of_le_of_lt (show ok.length ≤ 100 by omega) (by decide)), ?_⟩
            refine ⟨_, _, rfl, same_put sH ho0, by rw [upd_ne do_]; exact g1, by rw [upd_ne ol.symm]; exact g2, by rw [upd_ne po]; exact g3, by rw [upd_ne p2o]; exact g4, upd_same, fun q' => ?_, Nat.le_trans (length_putK _ _ _) (Nat.succ_le_succ g7), ?_⟩
            · rw [valV_put, tk, List.find?_append]
              by_cases z : q' = m t
              · rw [z, if_pos rfl, q]
                simp
              · rw [if_neg fun y => z (by have := Sum.inl.inj y; omega), g6 q']
                have z2 : (m t == q') = false := by simpa using fun y => z y.symm
                rw [List.find?_cons, z2]
                simp
            · rw [tk]
              have nt : ∀ c ∈ cs.take j, m c ≠ m t := fun c hc z => by
                have := nf c hc
                rw [z] at this
                simp at this
              intro c hc c' hc' e
              rcases List.mem_append.mp hc with h | h
              · rcases List.mem_append.mp hc' with h' | h'
                · exact g8 c h c' h' e
                · rw [List.mem_singleton.mp h'] at e
                  exact absurd e (nt c h)
              · rw [List.mem_singleton.mp h] at e ⊢
                rcases List.mem_append.mp hc' with h' | h'
                · exact absurd e.symm (nt c' h')
                · exact (List.mem_singleton.mp h').symm
      · rintro σ H5 ⟨v3, ok, rfl, sH, g1, g2, g3, g4, g5, g6, g7, g8⟩
        rw [List.length_map] at g7
        rw [List.length_map, List.take_length] at g6 g8
        obtain ⟨f, ef, G⟩ := marks_good hM.mks hcm g8
        have ht' : told es = some (tell f (vars es)) := told_tell ef
        have vt : ∀ s ∈ vars es, Sum.inr s ∈ terms es := fun s hs => (mem_vars.mp hs).1
        have lv : (vars es).length ≤ 60 := by
          have z : (vars es).length ≤ (terms es).length := by
            have nd : ((vars es).map (Sum.inr : Str → Key)).Nodup := List.pairwise_map.mpr ((asc_nodup (asc_vars (terms es))).imp fun h z => h (Sum.inr.inj z))
            have q := nd.length_le_of_subset (l₂ := terms es) fun k hk => by
              obtain ⟨s, hs, e⟩ := List.mem_map.mp hk
              rw [← e]
              exact vt s hs
            rw [List.length_map] at q
            exact q
          rw [terms_len] at z
          omega
        refine ⟨_, rfl, p, rfl, ⟨_, SqL.of g3⟩, for_list (K := K) (a := p) (xs := (vars es).map V.str) (fun j σ H' => ∃ (v9 : Option V) (lk : List (Key × V)), σ = [some (.ref a), some (.ref d), v2, v3, v4, v5, some (.ref o), some (.ref ld), some (.ref p), v9] ∧ Same H H' ∧ H' d = some (.dK kvs) ∧ H' o = some (.dK ok) ∧ H' p = some (.lst ((vars es).map V.str)) ∧ H' ld = some (.dK lk) ∧
            (∀ q : Nat, valV lk (.inl (q : Int)) = (((vars es).take j).find? fun z => m (.inr z) == q).map V.str) ∧ lk.length ≤ j)
          ⟨none, [], rfl, sH, g1, g5, g3, g2, fun _ => rfl, Nat.le_refl _⟩ (fun j σ H' _ ⟨_, _, _, _, _, _, z, _⟩ => SqL.of z) ?_ ?_⟩
        · rintro j x σ H' hx ⟨v9, lk, rfl, sH, g1, g5, g3, g2, l1, l2⟩
          rw [List.getElem?_map] at hx
          cases et : (vars es)[j]? with
          | none => rw [et] at hx; cases hx
          | some t =>
            rw [et] at hx
            have ex : V.str t = x := Option.some.inj hx
            subst ex
            have lj : j < (vars es).length := (List.getElem?_eq_some_iff.mp et).1
            have tm := vt t (List.mem_of_getElem? et)
            have tk : (vars es).take (j + 1) = (vars es).take j ++ [t] := by rw [List.take_add_one, et]; rfl
            refine ⟨_, rfl, ld, rfl, .inl ⟨lk, .inl g2⟩, _, rfl, _, rfl, d, _, rfl, vin (t := .inr t) g1 tm, _, rfl, lk, .inl ((m (.inr t) : Nat) : Int), g2, rfl, Nat.lt_of_le_of_lt (show lk.length ≤ 100 by omega) (by decide), fun v hv => ?_, fun hn => ?_⟩
            · refine ⟨_, lk, rfl, sH, g1, g5, g3, g2, fun q => ?_, by omega⟩
              rw [l1 q, tk, List.find?_append]
              by_cases z : q = m (.inr t)
              · rw [l1] at hv
                rw [z]
                cases y : ((vars es).take j).find? fun z => m (.inr z) == m (.inr t) with
                | none => rw [y] at hv; cases hv
                | some u => rfl
              · have z2 : (m (.inr t) == q) = false := by simpa using fun y => z y.symm
                rw [List.find?_cons, z2]
                simp
            · refine ⟨_, _, rfl, same_put sH hld0, by rw [upd_ne dl]; exact g1, by rw [upd_ne ol]; exact g5, by rw [upd_ne pl]; exact g3, upd_same, fun q => ?_, by rw [putK_new hn]; omega⟩
              rw [valV_put, tk, List.find?_append]
              by_cases z : q = m (.inr t)
              · rw [l1] at hn
                rw [z, if_pos rfl]
                cases y : ((vars es).take j).find? fun z => m (.inr z) == m (.inr t) with
                | none => simp
                | some u => rw [y] at hn; cases hn
              · rw [if_neg fun y => z (by have := Sum.inl.inj y; omega), l1 q]
                have z2 : (m (.inr t) == q) = false := by simpa using fun y => z y.symm
                rw [List.find?_cons, z2]
                simp
        · rintro σ H6 ⟨v9, lk, rfl, sH, g1, g5, g3, g2, l1, l2⟩
          rw [List.length_map] at l2
          rw [List.length_map, List.take_length] at l1
          refine ⟨_, rfl, p, rfl, ⟨_, SqL.of g3⟩, fun D hD => ?_⟩
          have hD0 := sH.free hD
          refine lc_list (K := K) (a := p) (xs := (vars es).map V.str) (fun j H' => ∃ qs : List Addr, H' D = some (.lst (qs.map V.ref)) ∧ PairsAt K H' qs ((tell f (vars es)).take j) ∧ Same H6 H') ⟨[], upd_same, .nil, same_upd hD⟩ (fun j H' _ ⟨_, _, _, z⟩ => SqL.of (z _ _ g3)) ?_ ?_
          · rintro j x H' hx ⟨qs, h1, h2, h3⟩
            rw [List.getElem?_map] at hx
            cases et : (vars es)[j]? with
            | none => rw [et] at hx; cases hx
            | some t =>
              rw [et] at hx
              have ex : V.str t = x := Option.some.inj hx
              subst ex
              have lj : j < (vars es).length := (List.getElem?_eq_some_iff.mp et).1
              have tm := vt t (List.mem_of_getElem? et)
              have hv := List.mem_of_getElem? et
              have cl := classOf_is G hM.mks hcm hv
              have q1 := h3 _ _ g1
              have q2 := h3 _ _ g2
              have q5 := h3 _ _ g5
              obtain ⟨u, eu⟩ : ∃ u, (vars es).find? (fun z => m (.inr z) == m (.inr t)) = some u := by
                cases y : (vars es).find? fun z => m (.inr z) == m (.inr t) with
                | some u => exact ⟨u, rfl⟩
                | none =>
                  have z := List.find?_eq_none.mp y t hv
                  simp at z
              have lu := l1 (m (.inr t))
              rw [eu] at lu
              have lu : valV lk (.inl ((m (.inr t) : Nat) : Int)) = some (.str u) := lu
              have gl : DGet H' ld (.int ((m (.inr t) : Nat) : Int)) (some (.str u)) := by rw [← lu]; exact DGet.k (k := .inl ((m (.inr t) : Nat) : Int)) q2
              have et' : (tell f (vars es)).take (j + 1) = (tell f (vars es)).take j ++ [(.inr t, f (.inr t))] := by
                rw [List.take_add_one]
                unfold tell
                rw [List.getElem?_map, et]
                rfl
              refine ⟨rfl, ?_⟩
              refine ⟨_, rfl, _, rfl, o, rfl, .inl ⟨ok, .inl q5⟩, _, rfl, _, rfl, d, _, rfl, vin (t := .inr t) q1 tm, _, rfl, _, rfl, _, rfl, d, _, rfl, vin (t := .inr t) q1 tm, ld, _, rfl, gl, _, DGet.k (k := .inl ((m (.inr t) : Nat) : Int)) q5, ?_⟩
              have val : (valV ok (.inl ((m (.inr t) : Nat) : Int))).getD (.str u) = kV (f (.inr t)) := by
                rw [g6, ← cl]
                unfold classOf
                rw [eu]
                cases cs.find? fun c => m c == m (.inr t) with
                | none => rfl
                | some c => rfl
              rw [val]
              refine ⟨two_line, fun u2 hu2 => ?_⟩
              have Du : D ≠ u2 := ne_of_none h1 hu2
              have lq : qs.length ≤ 60 := by
                have z := Paired.length h2
                rw [List.length_take] at z
                omega
              have g : (upd H' u2 (.tup [V.str t, kV (f (.inr t))])) D = some (.lst (qs.map V.ref)) := (upd_ne Du).trans h1
              have tt : Tups (upd H' u2 (.tup [V.str t, kV (f (.inr t))])) (upd (upd H' u2 (.tup [V.str t, kV (f (.inr t))])) D (.lst (qs.map V.ref ++ [.ref u2]))) := Tups.put g fun xs z => by cases z
              refine ⟨_, g, by rw [List.length_map]; exact small1000 (by omega), qs ++ [u2], by rw [upd_same, List.map_append]; rfl, ?_, same_put (same_put h3 (h3.free hu2)) hD⟩
              rw [et']
              exact (h2.tups ((Tups.new hu2).trans tt)).snoc (x := .inr t) (tt _ _ upd_same)
          · rintro H' ⟨qs, h1, h2, h3⟩
            have lt : (tell f (vars es)).length = (vars es).length := by unfold tell; rw [List.length_map]
            rw [List.length_map, ← lt, List.take_length] at h2
            refine ⟨D, _, rfl, .inl ⟨SqL.of h1, fun p' hp' => ?_⟩⟩
            exact kS _ ht' _ p' (same_put (sH.trans h3) ((sH.trans h3).free hp')) ((sH.trans h3).free hp') ⟨qs, upd_same, h2.tups (Tups.new hp')⟩
end
end U6
set_option Elab.async false
set_option linter.all false
set_option maxRecDepth 100000
set_option maxHeartbeats 4000000
/-! repr of nested data: a def whose guards are known to be none. -/
namespace U6R
open PySem PySem.Spec PyProof.Rows L2
/-- a def's promise where no repr is under way -/
structure FnOkG (P : Program) (w : World) (K : PySem.W.Frag) (mg : Str → Option Value) (base : Heap) (k : Nat) (f : Addr) (fd : FuncData) (ps : List Str) (sp : Sp) : Prop where
  len : ∀ vs H Q E, sp vs H Q E → vs.length = ps.length
  run : ∀ (A : Around) (outer : List Env) (s : Shared) (H : Hp) (args : Args) (us : List Value) (vs : List V) (Q : VK) (E : XK), A.guards = some [] → Room k A → Env0 P w K mg base A outer s H → BindsTo s fd args (ps.zip us) → Vals vs us → sp vs H Q E →
    codeAny (model P w) A (.call (.ref f) args) (CR CX0 outer P w H s Q E) s
section
variable {P : Program} {w : World} {K : PySem.W.Frag} {mg : Str → Option Value} {base : Heap}
theorem fun_okG {x qual : Str} {st : Stmt} {f : Addr} {fd : FuncData} {N ps : List Str} {k : Nat} {sp : Sp} (F : Fun K x qual st f fd) (S : FnScope N ps (defScope st)) (len : ∀ vs H Q E, sp vs H Q E → vs.length = ps.length)
    (hbody : ∀ (cdv : Value) (A : Around) (outer : List Env) (s : Shared) (H : Hp) (vs : List V) (Q : VK) (E : XK), (A.deeper (envOfC qual (defScope st) s.heap.objs.size f cdv)).guards = some [] → Room k (A.deeper (envOfC qual (defScope st) s.heap.objs.size f cdv)) → sp vs H Q E →
      ∃ t, PSs (cxOf CX0 P w K mg base N qual (defScope st) f cdv A outer s H E).nox (defBody st) t ∧ t { nx := fun _ H' => Q .non H', rt := Q } (start N vs) H) : FnOkG P w K mg base (k + 1) f fd ps sp := by
  obtain ⟨oc, od, kV, doc, pm, an, cdv, ct, osl, rfl, lk, hcd⟩ := F.ex
  refine ⟨len, fun A outer s H args us vs Q E hg hr e0 hb r hsp => ?_⟩
  have hl := len _ _ _ _ hsp
  have KX : K.In s.heap := e0.mod.kin.keeps fun b o e => (e0.bs b o e).1
  have lim : s.heap.NoLimit := e0.mod.nolimit.keeps fun b o e => (e0.bs b o e).1
  refine codeAny_call_function hr.depth (KX _ _ lk) rfl S.co S.gen rfl (PySem.W.codeRec_of KX hcd) (hb _ _ _ _ ?_)
  refine wpAny_newFunctionEnv_cells S.kind (fun y hy => (S.par y.1 (List.of_mem_zip hy).1).imp id fun q => ⟨q, PySem.W.cellsFrom_some _ _ _ (.inl q)⟩) fun env he s1 x => ?_
  subst he
  refine ⟨lim.keeps x.toInCall.keep, codeAny_func ?_⟩
  obtain ⟨t, ht, hq⟩ := hbody cdv A outer s H vs Q E hg (hr.deeper _) hsp
  have I := inv_start (CX := CX0) (E := E) S hr.hd e0 hl r x
  refine wpAny_mono (ht.nox.run [] s1 (start N vs) H _ I hq) (fun fl s' hs => ?_) fun e s' hs => hs
  cases fl with
  | ret u =>
    obtain ⟨v, σ', H', J, rv, q⟩ := hs
    exact ⟨v, H', J.os, J.bare, J.base, J.hok, rv, q⟩
  | next =>
    obtain ⟨σ', H', J, q⟩ := hs
    exact ⟨V.non, H', J.os, J.bare, J.base, J.hok, rfl, q⟩
  | brk =>
    obtain ⟨_, _, _, q⟩ := hs
    exact False.elim q
  | cont =>
    obtain ⟨_, _, _, q⟩ := hs
    exact False.elim q
end
section
variable {X : Cx} {k : Nat} {f : Addr} {fd : FuncData} {ps : List Str} {sp : Sp} {x : Str} {p pos : Pos} {e : Expr} {es : List Expr} {t : TA}
theorem pe_callG (hG : X.A.guards = some []) (F : FnOkG X.prog X.w X.K X.mg X.base k f fd ps sp) (hr : Room k X.A) (hg : Gl X x) (hm : X.mg x = some (.ref f)) (hk : PySem.W.keepIn X.K (.ref f) = true) (hb : Binds X.K fd ps [])
    (ha : PA X (e :: es) t) (hdb : (x == ("__debug__" : Str)) = false := by decide) (he : starEach (e :: es) X.env = (false, eval e X.env) :: starEach es X.env := by rfl) (hpl : (backTo pos (starEach es X.env)).any (·.1) = false := by rfl) :
    PE X (.Call (.Name x p) (e :: es) [] pos) (tCall sp [] E0 t) := by
  refine ⟨fun pins s σ H Q I h => ?_⟩
  refine wpAny_Call_Name_kw (ld_glob I hg hm ?_ hdb)
  refine PySem.W.callWith_K (h₀ := X.base) I.ok.mod.kin hk (thn (ha.run pos pins s σ H _ I h) fun us s1 ⟨vs, H1, I1, r, q⟩ => ⟨I1.kIn, ?_⟩) he hpl
  have q : sp (vs ++ []) H1 Q E0 := q
  rw [List.append_nil] at q
  have hl : (us ++ []).length = ps.length := by rw [List.append_nil, ← r.length]; exact F.len _ _ _ _ q
  have b := hb s1 us I1.kIn hl
  rw [List.append_nil] at b
  refine wpAny_call (codeAny_mono (F.run X.A X.stack s1 H1 ⟨us, []⟩ us vs Q E0 hG hr I1.env0 b r q) fun r s' hq => ?_)
  cases r with
  | error e => exact False.elim hq
  | ok fl =>
    cases fl with
    | ret u => exact I1.after hq
    | next => exact False.elim hq
    | brk => exact False.elim hq
    | cont => exact False.elim hq
/-- repr(x) of data: none, or a list or tuple of data -/
def rRepr (K : PySem.W.Frag) : List V → Hp → VK → Prop := fun xs H Q => ∃ (x : V) (d : PyData), xs = [x] ∧ ((x = .non ∧ d = .none) ∨ ∃ a, x = .ref a) ∧ Dp K H x d ∧ d.canLay0 = true ∧ d.showable = true ∧ d.depth ≤ 8 ∧ d.shown.length ≤ sizeLine ∧ Q (.str d.shown) H
theorem call_reprD (hG : X.A.guards = some []) (hu : X.A.units + 64 < cLine) : CallR X (.builtin "repr") (rRepr X.K) := by
  intro pins s σ H xs us Q I r h
  obtain ⟨x, d, rfl, hx, hd, hl, hsh, hdp, hsz, q⟩ := h
  obtain ⟨u, rfl, rx⟩ := vals1 r
  rcases hx with ⟨rfl, rfl⟩ | ⟨a, rfl⟩
  · cases rx
    refine PySem.P.repr_of_none ⟨.str "None", H, I.tok _, ⟨_, rfl⟩, ?_⟩
    have e : PyData.shown .none = ("None" : Str) := by rw [PyData.shown]
    rw [e] at q
    exact q
  · obtain ⟨as, rd⟩ := Dp.reads I d _ u hd rx
    obtain rfl : u = Value.ref a := rx
    refine repr_of_reads' rd hsh (PyData.noDict_hsm (PyData.hasDict_of_canLay d hl)) hG (by omega) (fun _ _ e => e) (fun h' u tk hk => ⟨.str d.shown, H, I.kept (t' := tk) hk, ⟨_, rfl⟩, q⟩) hsz
end
/-- the law's own call -/
theorem law_callG {P : Program} {w : World} {K : PySem.W.Frag} {mg mb : Str → Option Value} {k : Nat} {fa a : Addr} {fd : FuncData} {x : Str} {sp : Sp} {s₁ : Shared} {vs : List Value} {ns : List Int}
    (KX : K.In s₁.heap) (hns : s₁.heap.Ns mainGlobals mg) (hb : s₁.heap.Ns builtinsNs mb) (hbb : ∀ x : Str, x ≠ "__name__" → mb x = bootBuiltins x) (hlim : s₁.heap.NoLimit) (hg : s₁.gens = #[])
    (ha : s₁.heap.get? a = some { cls := .type "list", data := .seq vs.toArray }) (hi : IntsAre vs ns) (hl : ns.length ≤ sizeLine) (hr : Room k callerA)
    (F : ∀ base : Heap, K.In base → base.Ns mainGlobals mg → FnOkG P w K mg base k fa fd [x] sp) (hbind : ∀ (s : Shared) (u : Value), BindsTo s fd ⟨[u], []⟩ [(x, u)])
    (hsp : ∀ H : Hp, Only H → SqL K H a (ns.map V.int) → sp [.ref a] H (fun v _ => v = .bl true) fun _ _ _ => False) :
    codeAny (model P w) callerA (.call (.ref fa) ⟨[.ref a], []⟩) (fun r s' => r = .ok (.ret (.bool true)) ∧ OldK s₁.heap s'.heap ∧ s'.os = s₁.os ∧ AllBare s'.gens) s₁ := by
  have rv := vals_ints hi
  have lenV := hi.length
  have seqNo : ∀ {es : Array DictEntry} {ep : Nat} {n : Nat}, Data.seq vs.toArray n ≠ Data.dict es ep := fun h => by cases h
  have core : ∀ H : Hp, Only H → SqL K H a (ns.map V.int) → HOk P w H s₁.heap → (∀ b, H b ≠ none → b = a) → (H a ≠ none → K.lookup a = none) →
      codeAny (model P w) callerA (.call (.ref fa) ⟨[.ref a], []⟩) (fun r s' => r = .ok (.ret (.bool true)) ∧ OldK s₁.heap s'.heap ∧ s'.os = s₁.os ∧ AllBare s'.gens) s₁ := by
    intro H hO hS hok hA hK
    have un : ∀ {b : Addr} {o : Obj}, s₁.heap.get? b = some o → (b = a → False) → (hidT s₁.heap H).get? b = some o := fun {b o} e n => hidT_get e (Classical.byContradiction fun z => n (hA b z))
    have nsK : ∀ {b : Addr} {m : Str → Option Value}, s₁.heap.Ns b m → (hidT s₁.heap H).Ns b m := fun {b m} ⟨o, es, ep, e, d, r⟩ => ⟨o, es, ep, un e fun z => by
      subst z
      rw [ha] at e
      cases e
      exact seqNo d, d, r⟩
    have hKb : K.In (hidT s₁.heap H) := fun b o e => hidT_get (KX b o e) (by
      cases q : H b with
      | none => rfl
      | some u =>
        have z : b = a := hA b (by rw [q]; simp)
        subst z
        rw [hK (by rw [q]; simp)] at e
        cases e)
    have hM : Mod K mg (hidT s₁.heap H) := ⟨hKb, nsK hns, ⟨mb, nsK hb, hbb⟩, let ⟨mc, h1, h2⟩ := hlim; ⟨mc, nsK h1, h2⟩⟩
    have e0 : Env0 P w K mg (hidT s₁.heap H) callerA [] s₁ H := ⟨rfl, hM, fun b o e => of_hidT e, Nat.le_of_eq (hidT_size _ _), trivial, fun b hb => absurd (show b ∈ ([] : List Addr) from hb) (by simp), hok, .of_eq hg⟩
    refine codeAny_mono ((F _ hKb (nsK hns)).run callerA [] s₁ H ⟨[.ref a], []⟩ [.ref a] [.ref a] _ _ rfl hr e0 (hbind s₁ (.ref a)) (.cons rfl .nil) (hsp H hO hS)) fun r s' h => ?_
    cases r with
    | error e => exact False.elim h
    | ok fl =>
      cases fl with
      | next => exact False.elim h
      | brk => exact False.elim h
      | cont => exact False.elim h
      | ret u =>
        obtain ⟨v, H', os, bare, un', hok', r', q⟩ := h
        obtain rfl : v = .bl true := q
        obtain rfl : u = Value.bool true := r'
        refine ⟨rfl, OldK.of_keep fun b o e => ?_, os, bare⟩
        cases q : H b with
        | none => exact un'.keep b o e q (by intro z; exact absurd (show b ∈ ([] : List Addr) from z) (by simp)) (by simp)
        | some u =>
          rcases hO b with z | ⟨ob, xs, z⟩
          · rw [q] at z; cases z
          · obtain ⟨e1, _⟩ := hok b _ z
            obtain ⟨e2, _⟩ := hok' b _ (un'.frzs b ob _ z)
            rw [e] at e1
            cases e1
            exact e2
  cases hk : K.lookup a with
  | some o =>
    have e := KX a o hk
    rw [ha] at e
    cases e
    exact core (fun _ => none) (fun _ => .inl rfl) (.inr ⟨_, vs.toArray, _, hk, rfl, rfl, rfl, by rw [List.size_toArray, lenV]; exact hl, by simpa using rv⟩) (fun b u z => nomatch z) (fun b z => absurd rfl z) fun z => absurd rfl z
  | none =>
    refine core (fun b => if b = a then some (.frz { cls := .type "list", data := .seq vs.toArray } (.lst (ns.map V.int))) else none) (fun b => ?_) (.inl (.inr ⟨{ cls := .type "list", data := .seq vs.toArray }, if_pos rfl⟩)) (fun b u z => ?_) (fun b z => ?_) fun _ => hk
    · by_cases hb : b = a
      · exact .inr ⟨_, _, if_pos hb⟩
      · exact .inl (if_neg hb)
    · by_cases hb : b = a
      · have z' := (if_pos hb).symm.trans z
        cases z'
        subst hb
        exact ⟨ha, by rw [List.length_map]; exact hl, vs, _, rv, ha⟩
      · cases (if_neg hb).symm.trans z
    · by_cases hb : b = a
      · exact hb
      · exact absurd (if_neg hb) z
end U6R
set_option Elab.async false
set_option linter.all false
set_option maxRecDepth 100000
set_option maxHeartbeats 4000000
/-! t[::-1] of a tuple; xs[::2], xs[1::2] of a list. -/
namespace U6R
open PySem PySem.Spec PyProof.Rows L2 HT
section
variable {prog : Program} {w : World} {A : Around} {E : Value → Shared → Prop} {s : Shared}
theorem rev_places (n : Nat) : Builtin.Slice.slicePlaces ((n : Int) - 1) (-1) (-1) = n := by
  unfold Builtin.Slice.slicePlaces
  have h1 : ¬ ((-1 : Int) > 0) := by omega
  simp only [h1, if_false, show (- -1 : Int) = 1 from rfl, Int.ediv_one]
  split <;> omega
theorem fm_congr {α β : Type} {f g : α → Option β} : ∀ {l : List α}, (∀ x ∈ l, f x = g x) → l.filterMap f = l.filterMap g
  | [], _ => rfl
  | x :: l, h => by
    rw [List.filterMap_cons, List.filterMap_cons, h x List.mem_cons_self, fm_congr (l := l) fun y hy => h y (List.mem_cons_of_mem _ hy)]
theorem sliceApplied_rev {sl : Addr} {vs : Value} {n : Nat} {Q : Int × Int × Nat → Shared → Prop} (hs : s.heap.IsSliceOf sl .none .none vs) (ps : IsPart vs (some (-1)))
    (h : Q ((n : Int) - 1, -1, n) s) : wpAny (model prog w) A (Builtin.Slice.sliceApplied (.ref sl) (pure (n : Int))) Q E s := by
  obtain ⟨os, hos, hcs, hds⟩ := id hs
  unfold Builtin.Slice.sliceApplied Builtin.Slice.sliceFields
  refine wpAny_bind (wpAny_bind (wpAny_field hos hds (x := .none) rfl (wpAny_bind (wpAny_field hos hds (x := .none) rfl (wpAny_bind (wpAny_field hos hds (x := vs) rfl (wpAny_pure ?_)))))))
  refine wpAny_bind (slicePart_ ps ?_)
  show wpAny _ _ (if ((-1 : Int) == 0) = true then _ else _) _ _ s
  rw [if_neg (by decide)]
  refine wpAny_bind (slicePart_none (wpAny_bind (slicePart_none (wpAny_bind (wpAny_pure ?_)))))
  show wpAny _ _ (match Builtin.Slice.sliceAdjust none none (-1) (n : Int) with | (lo, hi) => pure (lo, (-1 : Int), Builtin.Slice.slicePlaces lo hi (-1))) _ _ s
  have e : Builtin.Slice.sliceAdjust none none (-1) (n : Int) = ((n : Int) - 1, -1) := rfl
  rw [e]
  show wpAny _ _ (pure ((n : Int) - 1, (-1 : Int), Builtin.Slice.slicePlaces ((n : Int) - 1) (-1) (-1))) _ _ s
  rw [rev_places]
  exact wpAny_pure h
theorem pick_rev (xs : Array Value) : ((List.range xs.size).filterMap fun (m : Nat) => xs[(((xs.size : Nat) : Int) - 1 + (m : Int) * -1).toNat]?).toArray = xs.toList.reverse.toArray := by
  have e := PySem.W.krv_pick xs
  unfold slicePick at e
  rw [PySem.W.krv_bounds] at e
  have e : ((sliceRange ((xs.size : Int) - 1) (-1) (-1)).filterMap (xs[·]?)).toArray = xs.toList.reverse.toArray := e
  rw [PySem.W.krv_sliceRange, List.filterMap_map] at e
  rw [← e]
  congr 1
  refine fm_congr fun m hm => ?_
  have := List.mem_range.mp hm
  show xs[_]? = xs[xs.size - 1 - m]?
  congr 1
  omega
theorem getItem_tuple_rev {t sl : Addr} {items : Array Value} {vs : Value} {Q : Value → Shared → Prop} (ht : IsTup s.heap t items) (hs : s.heap.IsSliceOf sl .none .none vs) (ps : IsPart vs (some (-1)))
    (h : Q (.ref s.heap.objs.size) { s with heap := s.heap.push { cls := .type "tuple", data := .seq items.toList.reverse.toArray } })
    (hsz : items.size ≤ sizeLine) : wpAny (model prog w) A (getItem (.ref t) (.ref sl)) Q E s := by
  have htake : sizeOk (.seq items.toList.reverse.toArray) := by
    show items.toList.reverse.toArray.size ≤ sizeLine
    rw [List.size_toArray, List.length_reverse, Array.length_toList]
    exact hsz
  obtain ⟨os, hos, hcs, hds⟩ := id hs
  have hTs : s.TypeIs (.ref sl) "slice" := ⟨os, hos, hcs⟩
  unfold getItem
  try with_reducible refine wpAny_holding ?_
  first | refine wpAny_bind (wpAny_pure ?_) | skip
  refine wpAny_bind (wpAny_sequenceKey ht.typeIs (by decide) ?_)
  refine wpAny_bind (wpAny_callSpecial?_slot (name := Str.ofString "__getitem__") ht.typeIs PyProof.Rows.slot_tuple_getitem
    (wpAny_call_entry PyProof.Rows.slot_tuple_getitem ht.typeIs entry_tuple_getitem ?_ (args_tuple_getitem _ _)))
  show wpAny _ _ (Builtin.Tuple.tupleItemsOf (.ref t) >>= _) _ _ s
  refine wpAny_bind (tupleItemsOf_ ht ?_)
  refine wpAny_bind (wpAny_typeOf hTs ?_)
  rw [if_pos (by decide)]
  refine wpAny_bind (sliceApplied_rev hs ps ?_)
  show wpAny _ _ (if (((items.size : Int) - 1 == 0 && (-1 : Int) == 1 && items.size == items.size)) = true then _ else _) _ _ s
  rw [if_neg (by rw [show ((-1 : Int) == 1) = false from rfl, Bool.and_false, Bool.false_and]; exact Bool.false_ne_true), pick_rev]
  first
    | exact wpAny_bind (m := Builtin.Tuple.tupleExact _) (wpAny_newObj_type (wpAny_pure ⟨_, rfl, wpAny_pure h⟩) htake)
    | exact wpAny_bind (m := Builtin.Tuple.tupleExact _) (wpAny_newObj_type (wpAny_bind (wpAny_pure (wpAny_pure ⟨_, rfl, wpAny_pure h⟩))) htake)
    | exact wpAny_bind (wpAny_bind (m := Builtin.Tuple.tupleExact _) (wpAny_newObj_type (wpAny_pure (wpAny_pure ⟨_, rfl, wpAny_pure h⟩)) htake))
    | exact wpAny_bind (wpAny_bind (m := Builtin.Tuple.tupleExact _) (wpAny_newObj_type (wpAny_pure ⟨_, rfl, wpAny_pure h⟩) htake))
end
section
variable {X : Cx}
def tRevT (K : PySem.W.Frag) (te : TE) : TE := fun σ H Q => te σ H fun x H1 => ∃ a xs, x = .ref a ∧ SqT K H1 a xs ∧ ∀ p, H1 p = none → Q (.ref p) (upd H1 p (.tup xs.reverse))
theorem pe_revT {e : Expr} {te : TE} {k : Nat} {p1 p2 p3 pos : Pos} (he : PE X e te) : PE X (.Subscript e (.Slice none none (some (.UnaryOp .USub (.Constant (.int 1) k p1) p2)) p3) pos) (tRevT X.K te) := by
  refine ⟨fun pins s σ H Q I h => ?_⟩
  refine Subscript_ (thn (he.run pins s σ H _ I h) fun v s1 ⟨x, H1, I1, r1, q1⟩ => ?_)
  obtain ⟨a, xs, ex, hx, q⟩ := q1
  subst ex
  cases r1
  have hst : PO X (some (.UnaryOp .USub (.Constant (.int 1) k p1) p2)) (tPart (tUn (rU fun i => .int (-i)) (tC (.int 1)))) := po_some (pe_un un_neg pe_int)
  refine wpAny_Slice ?_
  rw [evalPart_none]
  refine wpAny_pure (wpAny_pure ?_)
  refine thn (hst.run pins s1 σ H1 (fun o H4 => o = some (-1) ∧ H4 = H1) I1 ⟨1, rfl, -1, rfl, rfl, rfl⟩) fun vs s4 ⟨o, H4, I4, ps, eo, e4⟩ => ?_
  subst eo e4
  have I5 : Inv X pins σ H4 { s4 with heap := s4.heap.push { cls := .type "slice", data := .fields #[.none, .none, vs] } } := I4.kept (t' := s4.toks) fun b ob q => Heap.get?_push_of_some _ q
  obtain ⟨its, r, ht, hz⟩ := I5.tuple hx
  have hlen := r.length
  show wpAny (model X.prog X.w) X.A (subscriptTail e (.Slice none none (some (.UnaryOp .USub (.Constant (.int 1) k p1) p2)) p3) (.ref a) (.ref s4.heap.objs.size)) (EP X pins σ Q) X.xe { s4 with heap := s4.heap.push { cls := .type "slice", data := .fields #[.none, .none, vs] } }
  refine tail_any (ops := [.ref a, .ref s4.heap.objs.size]) ht.typeIs PyProof.Rows.slot_tuple_getitem.lookup ?_ (by with_unfolding_all rfl)
  refine getItem_tuple_rev ht (Heap.IsSliceOf.new _ .none .none vs) ps ?_ (by rw [List.size_toArray]; omega)
  refine ⟨.ref _, _, I5.laid (t' := s4.toks) (o := .tup xs.reverse) (fun b ob q => Heap.get?_push_of_some _ q) (Nat.le_refl _) ?_, rfl, q _ (I5.hok.fresh (Nat.le_refl _))⟩
  exact ⟨by rw [List.length_reverse]; exact hz, _, r.reverse, IsTup.new _ _⟩
/-! ### xs[lo::2] -/
def pickI {α : Type} (idx : List Nat) (l : List α) : List α := idx.filterMap fun i => l[i]?
def idx2 (lo : Option Int) (n : Nat) : List Nat := sliceRange (sliceBounds lo none (some 2) n).1 (sliceBounds lo none (some 2) n).2.1 (sliceBounds lo none (some 2) n).2.2
theorem paired_pick {α β : Type} {R : α → β → Prop} {l : List α} {m : List β} (h : Paired R l m) : ∀ idx : List Nat, Paired R (pickI idx l) (pickI idx m)
  | [] => .nil
  | i :: idx => by
    have ih := paired_pick h idx
    unfold pickI at ih ⊢
    rw [List.filterMap_cons, List.filterMap_cons]
    cases e : l[i]? with
    | none =>
      have e2 : m[i]? = none := by
        rw [List.getElem?_eq_none_iff] at e ⊢
        rw [← Paired.length h]
        exact e
      rw [e2]
      exact ih
    | some x =>
      obtain ⟨y, e2, r⟩ := U6.paired_at h e
      rw [e2]
      exact .cons r ih
def tStep (K : PySem.W.Frag) (te : TE) (tl : TO) : TE := fun σ H Q => te σ H fun x H1 => tl σ H1 fun lo H2 => ∃ a xs, x = .ref a ∧ SqL K H2 a xs ∧ ∀ p, H2 p = none → Q (.ref p) (upd H2 p (.lst (pickI (idx2 lo xs.length) xs)))
theorem pe_stepL {e : Expr} {te : TE} {lo : Option Expr} {tl : TO} {k : Nat} {p1 p3 pos : Pos} (he : PE X e te) (hlo : PO X lo tl) : PE X (.Subscript e (.Slice lo none (some (.Constant (.int 2) k p1)) p3) pos) (tStep X.K te tl) := by
  refine ⟨fun pins s σ H Q I h => ?_⟩
  refine Subscript_ (thn (he.run pins s σ H _ I h) fun v s1 ⟨x, H1, I1, r1, q1⟩ => ?_)
  have hst : PO X (some (.Constant (.int 2) k p1)) (tPart (tC (.int 2))) := po_some pe_int
  refine wpAny_Slice (thn (hlo.run pins s1 σ H1 _ I1 q1) fun vl s2 ⟨l, H2, I2, pl, q2⟩ => ?_)
  obtain ⟨a, xs, ex, hx, q⟩ := q2
  subst ex
  cases r1
  rw [evalPart_none]
  refine wpAny_pure ?_
  refine thn (hst.run pins s2 σ H2 (fun o H4 => o = some 2 ∧ H4 = H2) I2 ⟨2, rfl, rfl, rfl⟩) fun vs s4 ⟨o, H4, I4, ps, eo, e4⟩ => ?_
  subst eo e4
  have I5 : Inv X pins σ H4 { s4 with heap := s4.heap.push { cls := .type "slice", data := .fields #[vl, .none, vs] } } := I4.kept (t' := s4.toks) fun b ob q => Heap.get?_push_of_some _ q
  obtain ⟨its, r, ht, hz⟩ := I5.list hx
  have hlen := r.length
  show wpAny (model X.prog X.w) X.A (subscriptTail e (.Slice lo none (some (.Constant (.int 2) k p1)) p3) (.ref a) (.ref s4.heap.objs.size)) (EP X pins σ Q) X.xe { s4 with heap := s4.heap.push { cls := .type "slice", data := .fields #[vl, .none, vs] } }
  refine tail_any (ops := [.ref a, .ref s4.heap.objs.size]) ht.isList.typeIs (PySem.slot_list_getitem.lookup) ?_ (by with_unfolding_all rfl)
  have szP := slicePick_size_le its.toArray l none (some 2)
  have eP : slicePick its.toArray l none (some 2) = (pickI (idx2 l xs.length) its).toArray := by
    unfold slicePick pickI idx2
    rw [List.size_toArray, hlen]
    congr 2
    funext i
    simp
  refine wpAny_getItem_list_slice ht.isList (Heap.IsSliceOf.new _ vl .none vs) pl .none ps (by decide) ?_ (by rw [List.size_toArray]; omega)
  rw [eP] at szP ⊢
  refine ⟨.ref _, _, I5.laid (t' := s4.toks) (o := .lst (pickI (idx2 l xs.length) xs)) (fun b ob q => Heap.get?_push_of_some _ q) (Nat.le_refl _) ?_, rfl, q _ (I5.hok.fresh (Nat.le_refl _))⟩
  have rp : Vals (pickI (idx2 l xs.length) xs) (pickI (idx2 l xs.length) its) := paired_pick r _
  refine ⟨?_, _, 0, rp, Heap.get?_push_size _ rfl⟩
  rw [List.size_toArray, List.size_toArray] at szP
  rw [rp.length]
  omega
end
end U6R
set_option Elab.async false
set_option linter.all false
set_option maxRecDepth 100000
set_option maxHeartbeats 8000000
/-! _law_is_filled. -/
namespace U6
open PySem PySem.Spec PyProof.Rows L2 U6R
/-- what is due: None, or the pairs -/
def DueAt (K : PySem.W.Frag) (H : Hp) (v : V) : Option Eqs → Prop
  | none => v = .non
  | some d => ∃ p, v = .ref p ∧ EqsAt K H p d
theorem DueAt.tups {K : PySem.W.Frag} {H H' : Hp} {v : V} {o : Option Eqs} (h : DueAt K H v o) (t : Tups H H') : DueAt K H' v o := by
  cases o with
  | none => exact h
  | some d => obtain ⟨p, e, q⟩ := h; exact ⟨p, e, q.tups t⟩
theorem asgn_tm {own : List Str} {l : List Key} {t : Key} (hl : ∀ x ∈ l, Tm x) (ht : Tm t) : Tm (asgn own l t) := by
  unfold asgn
  cases e : (own.zip l).find? fun p => decide (Sum.inr p.1 = t) with
  | none => exact ht
  | some p => exact hl p.2 (List.of_mem_zip (List.mem_of_find?_eq_some e)).2
theorem sat_maps (es : Eqs) (g : Key → Key) : decide ((es.map Prod.fst).map g = (es.map Prod.snd).map g) = sat es g := by
  unfold sat
  induction es with
  | nil => rfl
  | cons e es ih =>
    rw [List.all_cons, ← ih, ← Bool.decide_and]
    refine decide_eq_decide.mpr ?_
    show g e.1 :: _ = g e.2 :: _ ↔ _
    rw [List.cons.injEq]
theorem bl_ne (a b : Bool) : (!decide (V.bl a = V.bl b)) = (a != b) := by
  cases a <;> cases b <;> simp
section
variable {P : Program} {w : World} {K : PySem.W.Frag} {mg : Str → Option Value} {base : Heap}
def spIsFilled (K : PySem.W.Frag) : Sp := fun vs H Q _ => ∃ (pu g c a n e : Addr) (dv : V) (es : Eqs) (ls : List (List Key)), vs = [.ref pu, .ref a, .ref n, .ref e, dv] ∧ PurseAt H pu g c ∧ EqsAt K H a es ∧ (∀ t ∈ terms es, Tm t) ∧ es.length ≤ 30 ∧
  (H n = some (.lst ((vars es).map V.str)) ∧ n ≠ pu ∧ n ≠ g) ∧ (LotsAt H e ls ∧ e ≠ pu ∧ e ≠ g) ∧ ls ≠ [] ∧ ls.length ≤ 10000 ∧ (∀ l ∈ ls, l.length = (vars es).length ∧ ∀ x ∈ l, Tm x) ∧ DueAt K H dv (told es) ∧
  ∀ H', Ku pu g c H H' → Q (.bl true) H'
def nIf : List Str := ["_law_purse_here", "_law_pairs_here", "_law_names_here", "_law_every", "_law_due_here", "_law_left", "_law_right", "_law_turn", "_law_lot", "_law_held", "_law_is_true_here", "_law_one", "_law_two", "_law_name", "_law_term"]
def pIf : List Str := ["_law_purse_here", "_law_pairs_here", "_law_names_here", "_law_every", "_law_due_here"]
theorem scIf : FnScope nIf pIf (defScope sIsFilled) := ⟨rfl, rfl, rfl, by decide +kernel, rfl, by decide +kernel, by decide +kernel⟩
theorem ok_isfilled {f fD fP fT fF fK fI : Addr} {fd fdD fdP fdT fdF fdK fdI : FuncData} (D : Df K mg "_law_is_filled" sIsFilled pIf f fd) (B : Bl mg) (DD : Df K mg "_law_draw" sDraw ["_law_purse_here", "_law_many"] fD fdD) (DP : Df K mg "_law_pick" sPick ["_law_purse_here", "_law_some"] fP fdP)
    (DT : Df K mg "_law_is_true" sIsTrue ["_law_pairs_here", "_law_table"] fT fdT) (DF : Df K mg "filled" sFilled ["pattern", "known"] fF fdF) (DK : Df K mg "known_row" sKrow ["known", "variables"] fK fdK) (DI : Df K mg "is_free" sFree ["term"] fI fdI) :
    FnOk P w K mg base CX0 3 f fd pIf (spIsFilled K) := by
  have GP : FnOk P w K mg base CX0 2 fP fdP ["_law_purse_here", "_law_some"] spPick := ok_pick DP B DD
  have GT : FnOk P w K mg base CX0 1 fT fdT ["_law_pairs_here", "_law_table"] (spIsTrue K) := ok_istrue DT
  have GF : FnOk P w K mg base CX0 2 fF fdF ["pattern", "known"] (spFilled K) := ok_filled DF B DI
  have GK : FnOk P w K mg base CX0 1 fK fdK ["known", "variables"] (spKrow K) := ok_krow DK B
  refine D.F.ok scIf (fun vs H Q E h => ?_) (fun cdv A outer s H vs Q E hr h => ?_)
  · obtain ⟨pu, g, c, a, n, e, dv, es, ls, rfl, _⟩ := h
    rfl
  · obtain ⟨pu, g, c, a, n, e, dv, es, ls, rfl, hp, ⟨ps, hps, hpr⟩, htm, hlen, ⟨hn, n1, n2⟩, ⟨⟨ts, hts, hls⟩, e1, e2⟩, lne, llen, lok, hdue, k⟩ := h
    have hu := hu_of hr
    have hr1 : Room 1 _ := hr.mono (by decide)
    refine ⟨_, pss_cons (ps_par (i := 5) (j := 6) rfl scIf.nd rfl rfl (by decide) rfl rfl
          (pa_cons (pe_callTy call_tuple_of (by rfl) B.tup (by decide +kernel) (pa_cons (pe_lc (own := [("_law_one", 11), ("_law_two", 12)]) (g := gTup K 2 (gCons (gName 11) (gCons (gName 12) gNil))) rfl scIf.nd (pi_tup (pv 1))
              (blkOk_by (N := nIf) (sc := defScope sIsFilled) (by decide +kernel)) (fun _ _ _ _ _ => by exact pg_tup rfl (pgs_cons (pg_name (i := 11) scIf.nd rfl (Or.inl rfl)) (pgs_cons (pg_name (i := 12) scIf.nd rfl (Or.inl rfl)) pgs_nil))) (fun _ _ _ _ _ => pts_nil)
              (fun _ _ _ _ _ => pv 11)) pa_nil))
          (pa_cons (pe_callTy call_tuple_of (by rfl) B.tup (by decide +kernel) (pa_cons (pe_lc (own := [("_law_one", 11), ("_law_two", 12)]) (g := gTup K 2 (gCons (gName 11) (gCons (gName 12) gNil))) rfl scIf.nd (pi_tup (pv 1))
              (blkOk_by (N := nIf) (sc := defScope sIsFilled) (by decide +kernel)) (fun _ _ _ _ _ => by exact pg_tup rfl (pgs_cons (pg_name (i := 11) scIf.nd rfl (Or.inl rfl)) (pgs_cons (pg_name (i := 12) scIf.nd rfl (Or.inl rfl)) pgs_nil))) (fun _ _ _ _ _ => pts_nil)
              (fun _ _ _ _ _ => pv 12)) pa_nil)) pa_nil)) rfl)
      (pss_cons (ps_for PassesOwn.never rfl (pi_range1 (by rfl) B.rng (pa_cons pe_int pa_nil)) (pg_name (i := 7) scIf.nd rfl (Or.inl rfl))
        (pss_cons (ps_set (i := 8) scIf.nd rfl (Or.inl rfl) (pe_call GP hr rfl DP.g DP.k DP.b .nil pass0 (pa_cons (pv 0) (pa_cons (pv 3) pa_nil))))
        (pss_cons (ps_set (i := 9) scIf.nd rfl (Or.inl rfl) (pe_tupZip rfl (pa_cons (pv 2) (pa_cons (pv 8) pa_nil)) (by rfl) B.tup (by rfl) B.zip))
        (pss_cons (ps_set (i := 10) scIf.nd rfl (Or.inl rfl) (pe_call GT hr1 rfl DT.g DT.k DT.b .nil pass0 (pa_cons (pv 1) (pa_cons (pe_callTy (call_dictP rfl) (by rfl) B.dct (by decide +kernel) (pa_cons (pe_callTy call_list_of (by rfl) B.lst (by decide +kernel) (pa_cons (pv 9) pa_nil)) pa_nil)) pa_nil))))
        (pss_cons (ps_if (pt_cmpR op_ne (pe_cmpR (op_eqD hr.units) (pe_call GF hr rfl DF.g DF.k DF.b .nil pass0 (pa_cons (pv 5) (pa_cons (pv 9) pa_nil))) (pe_call GF hr rfl DF.g DF.k DF.b .nil pass0 (pa_cons (pv 6) (pa_cons (pv 9) pa_nil))) (nomark _)) (pv 10) (nomark _)) (pss_one (ps_ret pe_bl)) pss_nil)
        (pss_one (ps_if (pt_cmp (pc_isN (pv 4))) (pss_one (ps_if (pt_val (pv 10)) (pss_one (ps_ret pe_bl)) pss_nil))
          (pss_one (ps_if (pt_cmpR op_ne (pe_cmpR (op_eqD hr.units) (pe_call GF hr rfl DF.g DF.k DF.b .nil pass0 (pa_cons (pe_callTy call_tuple_of (by rfl) B.tup (by decide +kernel) (pa_cons (pe_lc (own := [("_law_name", 13), ("_law_term", 14)]) (g := gTup K 2 (gCons (gName 13) (gCons (gName 14) gNil))) rfl scIf.nd (pi_tup (pv 4))
              (blkOk_by (N := nIf) (sc := defScope sIsFilled) (by decide +kernel)) (fun _ _ _ _ _ => by exact pg_tup rfl (pgs_cons (pg_name (i := 13) scIf.nd rfl (Or.inl rfl)) (pgs_cons (pg_name (i := 14) scIf.nd rfl (Or.inl rfl)) pgs_nil))) (fun _ _ _ _ _ => pts_nil)
              (fun _ _ _ _ _ => pv 14)) pa_nil)) (pa_cons (pv 9) pa_nil))) (pe_call GK hr1 rfl DK.g DK.k DK.b .nil pass0 (pa_cons (pv 9) (pa_cons (pe_callTy call_tuple_of (by rfl) B.tup (by decide +kernel) (pa_cons (pv 2) pa_nil)) pa_nil))) (nomark _)) (pv 10) (nomark _)) (pss_one (ps_ret pe_bl)) pss_nil)))))))))
      (pss_one (ps_ret pe_bl))), ?_⟩
    have lps : ps.length = es.length := Paired.length hpr
    -- a comprehension over pairs: one side
    have prj : ∀ (pr : Key × Key → Key) (zs : Eqs) (qs : List Addr) (Hb Hx : Hp) (G : Addr) (i : Nat) (y : Key × Key), zs[i]? = some y → zs.length ≤ 1000 → Hx G = some (.lst (((zs.take i).map pr).map kV)) → Same Hb Hx → Hb G = none →
        ∃ acc, Hx G = some (.lst acc) ∧ acc.length < sizeLine ∧ (upd Hx G (.lst (acc ++ [kV (pr y)]))) G = some (.lst (((zs.take (i + 1)).map pr).map kV)) ∧ Same Hb (upd Hx G (.lst (acc ++ [kV (pr y)]))) := fun pr zs qs Hb Hx G i y hy hz h1 h2 h3 => by
      refine ⟨_, h1, ?_, ?_, same_put h2 h3⟩
      · rw [List.length_map, List.length_map, List.length_take]
        exact small1000 (Nat.le_trans (Nat.min_le_right _ _) hz)
      · rw [upd_same, List.take_add_one, hy, List.map_append, List.map_append]
        rfl
    refine ⟨_, rfl, a, rfl, ⟨_, SqT.of hps⟩, fun D1 hD1 => ?_⟩
    refine lc_tup (K := K) (a := a) (xs := ps.map V.ref) (fun i H' => H' D1 = some (.lst (((es.take i).map Prod.fst).map kV)) ∧ Same H H') ⟨upd_same, same_upd hD1⟩ (fun i H' _ z => SqT.of (z.2 _ _ hps)) ?_ ?_
    · rintro i x H' hx ⟨h1, h2⟩
      rw [List.getElem?_map] at hx
      cases ep : ps[i]? with
      | none => rw [ep] at hx; cases hx
      | some p =>
        rw [ep] at hx
        have ex : V.ref p = x := Option.some.inj hx
        subst ex
        obtain ⟨y, ee, hpe⟩ := paired_at hpr ep
        refine ⟨p, _, rfl, SqT.of (h2 _ _ hpe), rfl, _, _, rfl, _, _, rfl, rfl, rfl, ?_⟩
        exact ⟨_, rfl, prj Prod.fst es ps H H' D1 i y ee (by omega) h1 h2 hD1⟩
    rintro H1 ⟨h1, s1⟩
    rw [List.length_map, lps, List.take_length] at h1
    refine ⟨D1, _, rfl, .inl ⟨SqL.of h1, fun L hL => ?_⟩⟩
    have s2 := same_put (o := .tup ((es.map Prod.fst).map kV)) s1 (s1.free hL)
    have hL2 : (upd H1 L (.tup ((es.map Prod.fst).map kV))) L = some (.tup ((es.map Prod.fst).map kV)) := upd_same
    generalize upd H1 L (.tup ((es.map Prod.fst).map kV)) = H2 at s2 hL2 ⊢
    refine ⟨_, rfl, a, rfl, ⟨_, SqT.of (s2 _ _ hps)⟩, fun D2 hD2 => ?_⟩
    refine lc_tup (K := K) (a := a) (xs := ps.map V.ref) (fun i H' => H' D2 = some (.lst (((es.take i).map Prod.snd).map kV)) ∧ Same H2 H') ⟨upd_same, same_upd hD2⟩ (fun i H' _ z => SqT.of (z.2 _ _ (s2 _ _ hps))) ?_ ?_
    · rintro i x H' hx ⟨h1, h2⟩
      rw [List.getElem?_map] at hx
      cases ep : ps[i]? with
      | none => rw [ep] at hx; cases hx
      | some p =>
        rw [ep] at hx
        have ex : V.ref p = x := Option.some.inj hx
        subst ex
        obtain ⟨y, ee, hpe⟩ := paired_at hpr ep
        refine ⟨p, _, rfl, SqT.of (h2 _ _ (s2 _ _ hpe)), rfl, _, _, rfl, _, _, rfl, rfl, rfl, ?_⟩
        exact ⟨_, rfl, prj Prod.snd es ps H2 H' D2 i y ee (by omega) h1 h2 hD2⟩
    rintro H3 ⟨h3, s3⟩
    rw [List.length_map, lps, List.take_length] at h3
    refine ⟨D2, _, rfl, .inl ⟨SqL.of h3, fun R hR => ⟨_, _, rfl, ?_⟩⟩⟩
    have s4 := same_put (o := .tup ((es.map Prod.snd).map kV)) (s2.trans s3) ((s2.trans s3).free hR)
    have hR4 : (upd H3 R (.tup ((es.map Prod.snd).map kV))) R = some (.tup ((es.map Prod.snd).map kV)) := upd_same
    have hL4 : (upd H3 R (.tup ((es.map Prod.snd).map kV))) L = some (.tup ((es.map Prod.fst).map kV)) := (same_upd hR) _ _ (s3 _ _ hL2)
    generalize upd H3 R (.tup ((es.map Prod.snd).map kV)) = H4 at s4 hR4 hL4 ⊢
    have u4 := (Ku.refl hp).same s4
    have own_nd := own_nodup es
    have ownV : ∀ s ∈ vars es, isVar (.inr s) = true := fun s hs => (mem_vars.mp hs).2
    have lv : (vars es).length ≤ 60 := by
      have z : (vars es).length ≤ (terms es).length := by
        have nd : ((vars es).map (Sum.inr : Str → Key)).Nodup := List.pairwise_map.mpr (own_nd.imp fun h z => h (Sum.inr.inj z))
        have q := nd.length_le_of_subset (l₂ := terms es) fun k hk => by
          obtain ⟨s, hs, e⟩ := List.mem_map.mp hk
          rw [← e]
          exact (mem_vars.mp hs).1
        rw [List.length_map] at q
        exact q
      rw [terms_len] at z
      omega
    have ltT : ∀ x ∈ es.map Prod.fst, Tm x := fun x hx => by
      obtain ⟨y, hy, e⟩ := List.mem_map.mp hx
      exact htm x (mem_terms.mpr ⟨y, hy, .inl e.symm⟩)
    have rtT : ∀ x ∈ es.map Prod.snd, Tm x := fun x hx => by
      obtain ⟨y, hy, e⟩ := List.mem_map.mp hx
      exact htm x (mem_terms.mpr ⟨y, hy, .inr e.symm⟩)
    have mapT : ∀ {xs l : List Key}, (∀ x ∈ xs, Tm x) → (∀ x ∈ l, Tm x) → ∀ x ∈ xs.map (asgn (vars es) l), Tm x := fun hx hl x h => by
      obtain ⟨y, hy, e⟩ := List.mem_map.mp h
      rw [← e]
      exact asgn_tm hl (hx y hy)
    refine ⟨4, rfl, by omega, by omega, for_range (fun i σ H' => ∃ v7 v8 v9 v10 : Option V, σ = [some (.ref pu), some (.ref a), some (.ref n), some (.ref e), some dv, some (.ref L), some (.ref R), v7, v8, v9, v10, none, none, none, none] ∧ Ku pu g c H H' ∧ H' L = some (.tup ((es.map Prod.fst).map kV)) ∧ H' R = some (.tup ((es.map Prod.snd).map kV)))
      ⟨none, none, none, none, rfl, u4, hL4, hR4⟩ ?_ ?_⟩
    · rintro i σ H' hi ⟨v7, v8, v9, v10, rfl, u, hL', hR'⟩
      have lts : ts.length = ls.length := Paired.length hls
      refine ⟨_, rfl, _, rfl, pu, g, c, u.p, .inl ⟨e, _, rfl, e1, e2, u.at hts e1 e2, ?_, by rw [List.length_map]; omega, fun H5 j y u5 hy => ?_⟩⟩
      · intro z
        have z2 : ts = [] := by simpa using z
        rw [z2] at lts
        exact lne (List.length_eq_zero_iff.mp lts.symm)
      rw [List.getElem?_map] at hy
      cases et : ts[j]? with
      | none => rw [et] at hy; cases hy
      | some t =>
      rw [et] at hy
      have ey : V.ref t = y := Option.some.inj hy
      subst ey
      obtain ⟨l, el, ht⟩ := paired_at hls et
      have ht : H t = some (.tup (l.map kV)) := ht
      obtain ⟨ll, lT⟩ := lok l (List.mem_of_getElem? el)
      have uH := u.trans u5
      have hL5 := u5.tups _ _ hL'
      have hR5 := u5.tups _ _ hR'
      refine ⟨_, rfl, _, rfl, n, t, (vars es).map Sum.inr, l.map kV, rfl, by rw [List.map_map]; exact SqL.of (uH.at hn n1 n2), SqT.of (uH.tups _ _ ht), by rw [List.length_map, List.length_map, ll], fun H6 p ts2 uo s6 hp0 hts2 mk hp6 hpr6 => ?_⟩
      obtain ⟨o, rfl, oc, od, odat⟩ := mk
      have hHeld : ∀ {Hx : Hp}, Same H6 Hx → Held Hx p (vars es) l := fun s => ⟨o, ts2, s _ _ hp6, oc, od, odat, paired_mono (fun _ _ e => s _ _ e) hpr6⟩
      have u6 := uH.same s6
      refine ⟨_, rfl, _, rfl, p, _, rfl, .inr (.inl (.inr ⟨o, hp6⟩)), fun q hq => ?_⟩
      refine ⟨q, ts2, tabOf (vars es) l, rfl, SqL.of upd_same, Held.pairs (paired_mono (fun _ _ e => same_upd hq _ _ e) hpr6), fun d hd => ?_⟩
      have s7 : Same H6 (upd (upd H6 q (.lst (ts2.map V.ref))) d (.dK (mergeK [] (tabOf (vars es) l)))) := same_put (same_upd hq) ((same_upd hq).free hd)
      have u7 := u6.same s7
      have ge := tab_get own_nd ll.symm
      refine ⟨a, d, es, _, asgn (vars es) l, rfl, ⟨ps, u7.tups _ _ hps, hpr.tups u7.tups⟩, upd_same, ge, ?_⟩
      generalize upd (upd H6 q (.lst (ts2.map V.ref))) d (.dK (mergeK [] (tabOf (vars es) l))) = H7 at s7 u7 ⊢
      have hL7 := s7 _ _ (s6 _ _ hL5)
      have hR7 := s7 _ _ (s6 _ _ hR5)
      refine ⟨_, rfl, _, rfl, L, p, es.map Prod.fst, vars es, l, rfl, SqT.of hL7, by rw [List.length_map]; omega, fun x hx => (ltT x hx).sh, hHeld s7, own_nd, ll.symm, ownV, fun H8 x s8 hx0 hx8 => ?_⟩
      refine ⟨_, rfl, _, rfl, R, p, es.map Prod.snd, vars es, l, rfl, SqT.of (s8 _ _ hR7), by rw [List.length_map]; omega, fun x hx => (rtT x hx).sh, hHeld (s7.trans s8), own_nd, ll.symm, ownV, fun H9 y s9 hy0 hy9 => ?_⟩
      refine ⟨_, _, dp_keysT (SqT.of (s9 _ _ hx8)), dp_keysT (SqT.of hy9), shaped_keysT (mapT ltT lT), shaped_keysT (mapT rtT lT), _, rfl, rfl, _, rfl, ?_⟩
      have u9 := u7.same (s8.trans s9)
      rw [eqvT, eqvAll_keys, sat_maps, bl_ne]
      rw [show (sat es (asgn (vars es) l) != sat es (asgn (vars es) l)) = false by cases sat es (asgn (vars es) l) <;> rfl]
      refine iteF ?_
      refine ⟨_, rfl, _, rfl, ?_⟩
      cases td : told es with
      | none =>
        rw [td] at hdue
        have hdue : dv = .non := hdue
        subst hdue
        refine iteT ?_
        have un : unif es = none := by
          cases z : unif es with
          | none => rfl
          | some f => rw [told_tell z] at td; cases td
        refine ⟨_, rfl, _, rfl, ?_⟩
        rw [sat_none un (vars es) ownV l]
        exact iteF ⟨_, _, _, _, rfl, u9, (s8.trans s9) _ _ hL7, (s8.trans s9) _ _ hR7⟩
      | some dd =>
        rw [td] at hdue
        obtain ⟨pd, rfl, qs, hqs, hqr⟩ := hdue
        obtain ⟨f, uf, G, rfl⟩ := told_some td
        rw [decide_eq_false (by intro z; cases z)]
        refine iteF ?_
        have lqs : qs.length = (tell f (vars es)).length := Paired.length hqr
        have ltl : (tell f (vars es)).length = (vars es).length := by unfold tell; rw [List.length_map]
        have hqs9 := u9.tups _ _ hqs
        have hqr9 : PairsAt K H9 qs (tell f (vars es)) := hqr.tups u9.tups
        refine ⟨_, rfl, pd, rfl, ⟨_, SqT.of hqs9⟩, fun D3 hD3 => ?_⟩
        refine lc_tup (K := K) (a := pd) (xs := qs.map V.ref) (fun i H' => H' D3 = some (.lst ((((tell f (vars es)).take i).map Prod.snd).map kV)) ∧ Same H9 H') ⟨upd_same, same_upd hD3⟩ (fun i H' _ z => SqT.of (z.2 _ _ hqs9)) ?_ ?_
        · rintro i x H' hx ⟨h1, h2⟩
          rw [List.getElem?_map] at hx
          cases ep : qs[i]? with
          | none => rw [ep] at hx; cases hx
          | some p =>
            rw [ep] at hx
            have ex : V.ref p = x := Option.some.inj hx
            subst ex
            obtain ⟨y, ee, hpe⟩ := paired_at hqr9 ep
            refine ⟨p, _, rfl, SqT.of (h2 _ _ hpe), rfl, _, _, rfl, _, _, rfl, rfl, rfl, ?_⟩
            exact ⟨_, rfl, prj Prod.snd _ qs H9 H' D3 i y ee (by omega) h1 h2 hD3⟩
        rintro HA ⟨hA, sA⟩
        rw [List.length_map, lqs, List.take_length] at hA
        refine ⟨D3, _, rfl, .inl ⟨SqL.of hA, fun M hM => ?_⟩⟩
        have sB := sA.trans (same_upd (o := .tup (((tell f (vars es)).map Prod.snd).map kV)) hM)
        have hMB : (upd HA M (.tup (((tell f (vars es)).map Prod.snd).map kV))) M = some (.tup (((tell f (vars es)).map Prod.snd).map kV)) := upd_same
        generalize upd HA M (.tup (((tell f (vars es)).map Prod.snd).map kV)) = HB at sB hMB ⊢
        have eM : (tell f (vars es)).map Prod.snd = (vars es).map fun s => f (.inr s) := by unfold tell; rw [List.map_map]; rfl
        rw [eM] at hMB
        have fT : ∀ x ∈ (vars es).map fun s => f (.inr s), Tm x := fun x hx => by
          obtain ⟨s, hs, ex⟩ := List.mem_map.mp hx
          rw [← ex]
          rcases (G.self (.inr s)).inTerms with z | ⟨_, z⟩
          · rw [← z]; exact htm _ (mem_vars.mp hs).1
          · exact htm _ z
        refine ⟨_, rfl, M, p, _, vars es, l, rfl, SqT.of hMB, by rw [List.length_map]; omega, fun x hx => (fT x hx).sh, hHeld (s7.trans (s8.trans (s9.trans sB))), own_nd, ll.symm, ownV, fun HC x sC hx0 hxC => ?_⟩
        have sD := sB.trans sC
        refine ⟨_, rfl, _, rfl, n, _, rfl, .inl ⟨SqL.of (sD _ _ (u9.at hn n1 n2)), fun N hN => ?_⟩⟩
        have sE : Same HC (upd HC N (.tup ((vars es).map V.str))) := same_upd hN
        refine ⟨p, N, vars es, l, rfl, SqT.of upd_same, by omega, hHeld (s7.trans (s8.trans (s9.trans (sD.trans sE)))), own_nd, ll.symm, fun HF y sF hy0 hyF => ?_⟩
        refine ⟨_, _, dp_keysT (SqT.of (sF _ _ (sE _ _ hxC))), dp_keysT (SqT.of hyF), shaped_keysT (mapT fT lT), shaped_keysT (fun x hx => by
          obtain ⟨s, hs, ex⟩ := List.mem_map.mp hx
          rw [← ex]
          exact asgn_tm lT (htm _ (mem_vars.mp hs).1)), _, rfl, rfl, _, rfl, ?_⟩
        have sG := sD.trans (sE.trans sF)
        have eq : decide (((vars es).map fun s => f (.inr s)).map (asgn (vars es) l) = (vars es).map fun s => asgn (vars es) l (.inr s)) = sat es (asgn (vars es) l) := by
          rw [Bool.eq_iff_iff, decide_eq_true_iff, sat_iff G _ fun c hc => asgn_out fun s hs z => by rw [z, ownV s hs] at hc; cases hc]
          rw [List.map_map]
          exact List.map_inj_left
        rw [eqvT, eqvAll_keys, eq, bl_ne]
        rw [show (sat es (asgn (vars es) l) != sat es (asgn (vars es) l)) = false by cases sat es (asgn (vars es) l) <;> rfl]
        exact iteF ⟨_, _, _, _, rfl, u9.same sG, sG _ _ ((s8.trans s9) _ _ hL7), sG _ _ ((s8.trans s9) _ _ hR7)⟩
    · rintro σ H' ⟨v7, v8, v9, v10, rfl, u, hL', hR'⟩
      exact k H' u
end
end U6
set_option Elab.async false
set_option linter.all false
set_option maxRecDepth 100000
set_option maxHeartbeats 8000000
/-! _law_is_steady. -/
namespace U6R
open PySem PySem.Spec PyProof.Rows L2
section
variable {X : Cx} {CX : CXT} {k : Nat} {f : Addr} {fd : FuncData} {ps : List Str} {sp : Sp} {E : XK} {x y : Str} {p pos kpos : Pos} {e : Expr} {te : TE}
/-- f(y = e) -/
theorem pe_callK0 (F : FnOk X.prog X.w X.K X.mg X.base CX k f fd ps sp) (hr : Room k X.A) (hg : Gl X x) (hm : X.mg x = some (.ref f)) (hk : PySem.W.keepIn X.K (.ref f) = true) (hb : ∀ (s : Shared) (us : List Value), us.length = ps.length → BindsTo s fd ⟨[], [y].zip us⟩ (ps.zip us)) (hx : Passes CX X E)
    (he : PE X e te) (hall : (backToKw pos (keywordEach [⟨some y, e, kpos⟩] X.env)).all (·.1.isSome) = true := by rfl) (hks : (backToKw pos (keywordEach [⟨some y, e, kpos⟩] X.env)).filterMap (·.1) = [y] := by rfl)
    (hdb : (x == ("__debug__" : Str)) = false := by decide) (hpl : ((backTo pos (starEach [] X.env)).any (·.1) || (backToKw pos (keywordEach [⟨some y, e, kpos⟩] X.env)).any (·.1.isNone)) = false := by rfl) :
    PE X (.Call (.Name x p) [] [⟨some y, e, kpos⟩] pos) (tCall sp [] E (tCons te tNil)) := by
  refine ⟨fun pins s σ H Q I h => ?_⟩
  refine wpAny_Call_Name_kw (ld_glob I hg hm ?_ hdb)
  refine PySem.W.callWith_KW0 (h₀ := X.base) I.ok.mod.kin hk hall (thn ((pk_cons (nm := some y) (kpos := kpos) he pk_nil).run pos pins s σ H _ I h) fun us s1 ⟨vs, H1, I1, r, q⟩ => ⟨I1.kIn, ?_⟩) hpl
  have q : sp (vs ++ []) H1 Q E := q
  rw [List.append_nil] at q
  rw [hks]
  have hl : us.length = ps.length := by rw [← r.length]; exact F.len _ _ _ _ q
  refine wpAny_call (codeAny_mono (F.run X.A X.stack s1 H1 ⟨[], [y].zip us⟩ us vs Q E hr I1.env0 (hb s1 us hl) r q) fun r s' hq => ?_)
  cases r with
  | error e => exact hx pins σ H1 s1 e s' I1 hq
  | ok fl =>
    cases fl with
    | ret u => exact I1.after hq
    | next => exact False.elim hq
    | brk => exact False.elim hq
    | cont => exact False.elim hq
end
end U6R
namespace U6
open PySem PySem.Spec PyProof.Rows L2 U6R
/-! ### the data of what is told -/
def pairD (e : Key × Key) : PyData := .tuple [dk e.1, dk e.2]
def dueD : Option Eqs → PyData
  | none => .none
  | some d => .tuple (d.map pairD)
theorem dp_pairs {K : PySem.W.Frag} {H : Hp} : ∀ {ps : List Addr} {es : Eqs}, PairsAt K H ps es → DpAll K H (ps.map V.ref) (es.map pairD)
  | _, _, .nil => .nil
  | _, _, .cons h t => .cons (.tup (SqT.of h) (.cons (dp_key _) (.cons (dp_key _) .nil))) (dp_pairs t)
theorem dp_due {K : PySem.W.Frag} {H : Hp} {v : V} {o : Option Eqs} (h : DueAt K H v o) : Dp K H v (dueD o) := by
  cases o with
  | none =>
    have h : v = .non := h
    subst h
    exact .non
  | some d =>
    obtain ⟨p, rfl, ps, h1, h2⟩ := h
    exact .tup (SqT.of h1) (dp_pairs h2)
theorem dp_dues {K : PySem.W.Frag} {H : Hp} {o : Option Eqs} : ∀ {vs : List V}, (∀ v ∈ vs, DueAt K H v o) → DpAll K H vs (List.replicate vs.length (dueD o))
  | [], _ => .nil
  | v :: vs, h => .cons (dp_due (h v List.mem_cons_self)) (dp_dues fun u hu => h u (List.mem_cons_of_mem _ hu))
/-- the terms of what is told are small -/
def DueTm (o : Option Eqs) (n : Nat) : Prop := ∀ d, o = some d → (∀ t ∈ terms d, Tm t) ∧ d.length ≤ n
theorem shown_key {t : Key} (h : Tm t) : (dk t).shown.length ≤ 1002 := by
  cases t with
  | inl i =>
    show (PyData.shown (.int i)).length ≤ _
    rw [PyData.shown]
    have h : i.natAbs ≤ 10 ^ 9 := h
    have e := int_text_length_le10 (a := i) (k := 10) (by decide) (by omega)
    rw [PySem.ofString_length]
    omega
  | inr s =>
    show (PyData.shown (.str s)).length ≤ _
    rw [PyData.shown]
    obtain ⟨h1, h2⟩ := h
    have q := PySem.StrLaws.reprText_len s fun c hc => by
      unfold PyData.strOk at h2
      rw [Array.all_eq_true_iff_forall_mem] at h2
      have z := of_decide_eq_true (h2 c (by simpa using hc))
      omega
    omega
theorem sum_shown {B : Nat} : ∀ {xs : List PyData}, (∀ x ∈ xs, x.shown.length ≤ B) → ((PyData.shownAll xs).map (·.length)).sum ≤ B * xs.length
  | [], _ => by rw [PyData.shownAll]; exact Nat.zero_le _
  | x :: xs, h => by
    rw [PyData.shownAll, List.map_cons, List.sum_cons, List.length_cons, Nat.mul_succ]
    have h1 := h x List.mem_cons_self
    have h2 := sum_shown (xs := xs) fun y hy => h y (List.mem_cons_of_mem _ hy)
    omega
theorem shown_T {B : Nat} {xs : List PyData} (h : ∀ x ∈ xs, x.shown.length ≤ B) : (PyData.shown (.tuple xs)).length ≤ B * xs.length + 2 * xs.length + 3 := by
  rw [PyData.shown]
  have h1 := tupleText_len_le (PyData.shownAll xs)
  have h2 := sum_shown h
  have h3 := PyData.shownAll_length xs
  omega
theorem shown_L {B : Nat} {xs : List PyData} (h : ∀ x ∈ xs, x.shown.length ≤ B) : (PyData.shown (.list xs)).length ≤ B * xs.length + 2 * xs.length + 3 := by
  rw [PyData.shown]
  have h1 := listText_len_le (PyData.shownAll xs)
  have h2 := sum_shown h
  have h3 := PyData.shownAll_length xs
  omega
theorem shown_pair {e : Key × Key} (h1 : Tm e.1) (h2 : Tm e.2) : (pairD e).shown.length ≤ 2011 := by
  have q := shown_T (B := 1002) (xs := [dk e.1, dk e.2]) fun x hx => by
    rcases List.mem_cons.mp hx with z | z
    · rw [z]; exact shown_key h1
    · rw [List.mem_singleton.mp z]; exact shown_key h2
  exact q
theorem pairs_tm {d : Eqs} (h : ∀ t ∈ terms d, Tm t) : ∀ e ∈ d, Tm e.1 ∧ Tm e.2 := fun e he => ⟨h _ (mem_terms.mpr ⟨e, he, .inl rfl⟩), h _ (mem_terms.mpr ⟨e, he, .inr rfl⟩)⟩
theorem shown_due {o : Option Eqs} {n : Nat} (h : DueTm o n) : (dueD o).shown.length ≤ 2013 * n + 5 := by
  cases o with
  | none => show (PyData.shown .none).length ≤ _; rw [PyData.shown]; have : ("None" : Str).length = 4 := by decide +kernel
            omega
  | some d =>
    obtain ⟨h1, h2⟩ := h d rfl
    have q := shown_T (B := 2011) (xs := d.map pairD) fun x hx => by
      obtain ⟨e, he, z⟩ := List.mem_map.mp hx
      rw [← z]
      exact shown_pair (pairs_tm h1 e he).1 (pairs_tm h1 e he).2
    rw [List.length_map] at q
    show (PyData.shown (.tuple (d.map pairD))).length ≤ _
    omega
theorem lay_pair {e : Key × Key} (h1 : Tm e.1) (h2 : Tm e.2) : (pairD e).canLay0 = true ∧ (pairD e).depth ≤ 1 ∧ (pairD e).showable = true := by
  obtain ⟨a, b, c⟩ := lay_keys (l := [e.1, e.2]) fun t ht => by
    rcases List.mem_cons.mp ht with z | z
    · rw [z]; exact h1
    · rw [List.mem_singleton.mp z]; exact h2
  refine ⟨?_, ?_, ?_⟩
  · show PyData.canLay0 (.tuple _) = true; rw [PyData.canLay0]; exact a
  · show PyData.depth (.tuple _) ≤ 1; rw [PyData.depth]; exact Nat.succ_le_succ b
  · show PyData.showable (.tuple _) = true; rw [PyData.showable]; exact c
theorem lay_due {o : Option Eqs} {n : Nat} (h : DueTm o n) : (dueD o).canLay0 = true ∧ (dueD o).depth ≤ 2 ∧ (dueD o).showable = true := by
  cases o with
  | none =>
    refine ⟨?_, ?_, ?_⟩
    · show PyData.canLay0 .none = true; rw [PyData.canLay0]
    · show PyData.depth .none ≤ 2; rw [PyData.depth]; decide
    · show PyData.showable .none = true; rw [PyData.showable]
  | some d =>
    obtain ⟨h1, h2⟩ := h d rfl
    obtain ⟨a, b, c⟩ := lay_all (g := pairD) (n := 1) (l := d) fun e he => lay_pair (pairs_tm h1 e he).1 (pairs_tm h1 e he).2
    refine ⟨?_, ?_, ?_⟩
    · show PyData.canLay0 (.tuple _) = true; rw [PyData.canLay0]; exact a
    · show PyData.depth (.tuple _) ≤ 2; rw [PyData.depth]; exact Nat.succ_le_succ b
    · show PyData.showable (.tuple _) = true; rw [PyData.showable]; exact c
/-- a list of what was told, each the same: what repr wants -/
theorem repr_dues {K : PySem.W.Frag} {H : Hp} {a : Addr} {vs : List V} {o : Option Eqs} {n : Nat} (h : H a = some (.lst vs)) (hv : ∀ v ∈ vs, DueAt K H v o) (ht : DueTm o n) (hn : n ≤ 100) (hl : vs.length ≤ 20) :
    Dp K H (.ref a) (.list (List.replicate vs.length (dueD o))) ∧ (PyData.list (List.replicate vs.length (dueD o))).canLay0 = true ∧ (PyData.list (List.replicate vs.length (dueD o))).showable = true ∧ (PyData.list (List.replicate vs.length (dueD o))).depth ≤ 8 ∧ (PyData.list (List.replicate vs.length (dueD o))).shown.length ≤ sizeLine := by
  obtain ⟨l1, l2, l3⟩ := lay_due ht
  have sh := shown_due ht
  obtain ⟨a1, a2, a3⟩ := lay_all (g := fun x : Nat => dueD o) (n := 2) (l := List.range vs.length) fun _ _ => ⟨l1, l2, l3⟩
  have er : (List.range vs.length).map (fun _ => dueD o) = List.replicate vs.length (dueD o) := by rw [List.map_const', List.length_range]
  rw [er] at a1 a2 a3
  refine ⟨.lst (SqL.of h) (dp_dues hv), by rw [PyData.canLay0]; exact a1, by rw [PyData.showable]; exact a3, by rw [PyData.depth]; omega, ?_⟩
  have z := shown_L (B := 2013 * n + 5) (xs := List.replicate vs.length (dueD o)) fun x hx => by rw [(List.mem_replicate.mp hx).2]; exact sh
  rw [List.length_replicate] at z
  have z2 : (2013 * n + 5) * vs.length ≤ 201305 * 20 := Nat.mul_le_mul (by omega) hl
  rw [sizeLine_eq]
  omega
end U6
set_option Elab.async false
set_option linter.all false
set_option maxRecDepth 100000
set_option maxHeartbeats 8000000
/-! _law_is_steady. -/
namespace U6
open PySem PySem.Spec PyProof.Rows L2 U6R
theorem vars_len (es : Eqs) : (vars es).length ≤ 2 * es.length := by
  have nd : ((vars es).map (Sum.inr : Str → Key)).Nodup := List.pairwise_map.mpr ((own_nodup es).imp fun h z => h (Sum.inr.inj z))
  have q := nd.length_le_of_subset (l₂ := terms es) fun k hk => by
    obtain ⟨s, hs, e⟩ := List.mem_map.mp hk
    rw [← e]
    exact (mem_vars.mp hs).1
  rw [List.length_map, terms_len] at q
  exact q
theorem told_tm {es : Eqs} (h : ∀ t ∈ terms es, Tm t) : DueTm (told es) (2 * es.length) := fun d hd => by
  obtain ⟨f, uf, G, rfl⟩ := told_some hd
  refine ⟨fun t ht => ?_, by unfold tell; rw [List.length_map]; exact vars_len es⟩
  obtain ⟨e, he, z⟩ := mem_terms.mp ht
  unfold tell at he
  obtain ⟨v, hv, ev⟩ := List.mem_map.mp he
  have tv := (mem_vars.mp hv).1
  rw [← ev] at z
  rcases z with z | z
  · rw [z]; exact h _ tv
  · rw [z]
    rcases (G.self (.inr v)).inTerms with y | ⟨_, y⟩
    · rw [← y]; exact h _ tv
    · exact h _ y
/-- the same promise, by what is due -/
def spTold2 (K : PySem.W.Frag) : Sp := fun vs H Q _ => ∃ (r : Addr) (zs : Eqs) (o : Option Eqs), vs = [.ref r] ∧ EqsAt K H r zs ∧ told zs = o ∧ (∀ t ∈ terms zs, Tm t) ∧ zs.length ≤ 2000 ∧ ∀ H' v, Same H H' → DueAt K H' v o → Q v H'
theorem told_use {K : PySem.W.Frag} (vs : List V) (H : Hp) (Q : VK) (E : XK) (h : spTold2 K vs H Q E) : spTold K vs H Q E := by
  obtain ⟨r, zs, o, rfl, h, e, sh, len, k⟩ := h
  exact ⟨r, zs, rfl, h, fun t ht => (sh t ht).sh, len, fun d hd H' p s _ he => k H' (.ref p) s (by rw [← e, hd]; exact ⟨p, rfl, he⟩), fun hn H' s => k H' .non s (by rw [← e, hn]; rfl)⟩
theorem PairsAt.app {K : PySem.W.Frag} {H : Hp} {ps ps2 : List Addr} {es es2 : Eqs} (h : PairsAt K H ps es) (h2 : PairsAt K H ps2 es2) : PairsAt K H (ps ++ ps2) (es ++ es2) :=
  paired_app (R := fun (p : Addr) (e : Key × Key) => H p = some (.tup [kV e.1, kV e.2])) h h2
theorem EqsAt.cat {K : PySem.W.Frag} {H : Hp} {a b : Addr} {es es2 : Eqs} {Q : VK} (h : EqsAt K H a es) (h2 : EqsAt K H b es2) (hl : es.length + es2.length ≤ 1000) (k : ∀ H' r, Same H H' → EqsAt K H' r (es ++ es2) → Q (.ref r) H') : rCatA K (.ref a) (.ref b) H Q := by
  obtain ⟨ps, g1, g2⟩ := h
  obtain ⟨ps2, g3, g4⟩ := h2
  have l1 : ps.length = es.length := Paired.length g2
  have l2 : ps2.length = es2.length := Paired.length g4
  refine ⟨a, b, _, _, rfl, rfl, SqT.of g1, SqT.of g3, by rw [List.length_map, List.length_map]; exact Nat.le_of_lt (small1000 (by omega)), fun z => ?_, fun _ z => ?_, fun _ _ p hp => ?_⟩
  · have z : ps = [] := by simpa using z
    subst z
    have e : es = [] := List.length_eq_zero_iff.mp l1.symm
    subst e
    exact k H b (Same.refl H) ⟨ps2, g3, g4⟩
  · have z : ps2 = [] := by simpa using z
    subst z
    have e : es2 = [] := List.length_eq_zero_iff.mp l2.symm
    subst e
    rw [List.append_nil] at k
    exact k H a (Same.refl H) ⟨ps, g1, g2⟩
  · refine k _ p (same_upd hp) ⟨ps ++ ps2, by rw [upd_same, List.map_append], (g2.tups (Tups.new hp)).app (g4.tups (Tups.new hp))⟩
theorem paired_rev {α β : Type} {R : α → β → Prop} : ∀ {l : List α} {m : List β}, Paired R l m → Paired R l.reverse m.reverse
  | _, _, .nil => .nil
  | _, _, .cons r t => by
    rw [List.reverse_cons, List.reverse_cons]
    exact paired_snoc r (paired_rev t)
theorem paired_erase {α β : Type} {R : α → β → Prop} : ∀ {l : List α} {m : List β} (i : Nat), Paired R l m → Paired R (l.eraseIdx i) (m.eraseIdx i)
  | _, _, _, .nil => .nil
  | _, _, 0, .cons _ t => t
  | _, _, i + 1, .cons r t => .cons r (paired_erase i t)
theorem sub_rev (es : Eqs) : told es.reverse = told es := told_same (fun e h => .inl (List.mem_reverse.mp h)) fun e h => .inl (List.mem_reverse.mpr h)
theorem swp_swp (e : Key × Key) : swp (swp e) = e := rfl
theorem sub_swp (es : Eqs) : told (es.map swp) = told es := told_same (fun e h => .inr (by
    obtain ⟨x, hx, z⟩ := List.mem_map.mp h
    rw [← z, swp_swp]
    exact hx)) fun e h => .inr (List.mem_map.mpr ⟨e, h, rfl⟩)
theorem sub_two (es : Eqs) : told (es ++ es) = told es := told_same (fun e h => .inl ((List.mem_append.mp h).elim id id)) fun e h => .inl (List.mem_append_left _ h)
theorem sub_cat (es : Eqs) : told (es ++ es.map swp) = told es := told_same (fun e h => by
    rcases List.mem_append.mp h with h | h
    · exact .inl h
    · obtain ⟨x, hx, z⟩ := List.mem_map.mp h
      exact .inr (by rw [← z, swp_swp]; exact hx)) fun e h => .inl (List.mem_append_left _ h)
theorem tm_app {es es2 : Eqs} (h : ∀ t ∈ terms es, Tm t) (h2 : ∀ t ∈ terms es2, Tm t) : ∀ t ∈ terms (es ++ es2), Tm t := fun t ht => by
  obtain ⟨e, he, z⟩ := mem_terms.mp ht
  rcases List.mem_append.mp he with q | q
  · exact h t (mem_terms.mpr ⟨e, q, z⟩)
  · exact h2 t (mem_terms.mpr ⟨e, q, z⟩)
theorem tm_sub {es es2 : Eqs} (h : ∀ t ∈ terms es, Tm t) (s : Sub es2 es) : ∀ t ∈ terms es2, Tm t := fun t ht => by
  obtain ⟨e, he, z⟩ := mem_terms.mp ht
  rcases s e he with q | q
  · exact h t (mem_terms.mpr ⟨e, q, z⟩)
  · exact h t (mem_terms.mpr ⟨swp e, q, z.symm⟩)
theorem map_erase {α β : Type} (f : α → β) : ∀ (l : List α) (i : Nat), (l.map f).eraseIdx i = (l.eraseIdx i).map f
  | [], _ => rfl
  | _ :: _, 0 => rfl
  | x :: l, i + 1 => by
    show f x :: (l.map f).eraseIdx i = _
    rw [map_erase f l i]
    rfl
theorem erase_perm {α : Type} : ∀ {l : List α} {i : Nat} {y : α}, l[i]? = some y → (y :: l.eraseIdx i).Perm l
  | [], _, _, h => by simp at h
  | x :: l, 0, y, h => by
    have e : x = y := Option.some.inj h
    subst e
    exact List.Perm.refl _
  | x :: l, i + 1, y, h => (List.Perm.swap x y _).trans ((erase_perm (l := l) (i := i) h).cons x)
theorem Sub.refl (es : Eqs) : Sub es es := fun _ h => .inl h
theorem Sub.trans {a b c : Eqs} (h : Sub a b) (h2 : Sub b c) : Sub a c := fun e he => by
  rcases h e he with q | q
  · exact h2 e q
  · rcases h2 _ q with z | z
    · exact .inr z
    · exact .inl z
theorem Sub.snoc {a b : Eqs} {x y : Key × Key} (h : Sub a b) (e : y = x ∨ swp y = x) : Sub (a ++ [y]) (b ++ [x]) := fun z hz => by
  rcases List.mem_append.mp hz with q | q
  · exact (h z q).imp (List.mem_append_left _) (List.mem_append_left _)
  · rw [List.mem_singleton.mp q]
    rcases e with e | e
    · exact .inl (List.mem_append_right _ (by rw [e]; exact List.mem_singleton_self _))
    · exact .inr (List.mem_append_right _ (by rw [e]; exact List.mem_singleton_self _))
section
variable {P : Program} {w : World} {K : PySem.W.Frag} {mg : Str → Option Value} {base : Heap}
def spSteady (K : PySem.W.Frag) : Sp := fun vs H Q _ => ∃ (pu g c a : Addr) (dv : V) (es : Eqs), vs = [.ref pu, .ref a, dv] ∧ PurseAt H pu g c ∧ EqsAt K H a es ∧ (∀ t ∈ terms es, Tm t) ∧ es.length ≤ 30 ∧ DueAt K H dv (told es) ∧ ∀ H', Ku pu g c H H' → Q (.bl true) H'
def nSt : List Str := ["_law_purse_here", "_law_pairs_here", "_law_due_here", "_law_rest", "_law_mixed", "_law_turn", "_law_about", "_law_some", "_law_told_here", "_law_one", "_law_two"]
def pSt : List Str := ["_law_purse_here", "_law_pairs_here", "_law_due_here"]
theorem scSy : FnScope nSt pSt (defScope sSteady) := ⟨rfl, rfl, rfl, by decide +kernel, rfl, by decide +kernel, by decide +kernel⟩
def JS (K : PySem.W.Frag) (pu g c a : Addr) (dv : V) (es : Eqs) (H : Hp) (n : Nat) (σ : L2.St) (H' : Hp) : Prop :=
  ∃ (v3 v4 v5 v6 v7 : Option V) (l : Addr) (vs : List V), σ = [some (.ref pu), some (.ref a), some dv, v3, v4, v5, v6, v7, some (.ref l), none, none] ∧ Ku pu g c H H' ∧ H' l = some (.lst vs) ∧ (∀ v ∈ vs, DueAt K H' v (told es)) ∧ vs.length ≤ n
theorem ok_steady {f fD fT fU C : Addr} {fd fdD fdT fdU : FuncData} (D : Df K mg "_law_is_steady" sSteady pSt f fd) (B : Bl mg) (DD : Df K mg "_law_draw" sDraw ["_law_purse_here", "_law_many"] fD fdD)
    (DT : Df K mg "_law_told" sTold ["_law_pairs_here"] fT fdT) (GT0 : FnOk P w K mg base CX0 5 fT fdT ["_law_pairs_here"] (spTold K)) (DU : Df K mg "unified" sUnified ["equations"] fU fdU) (GU : FnOk P w K mg base (L2.CX P w) 4 fU fdU ["equations"] (spUnified K C))
    (kU : ∀ (s : Shared) (us : List Value), us.length = (["equations"] : List Str).length → BindsTo s fdU ⟨[], (["equations"] : List Str).zip us⟩ ((["equations"] : List Str).zip us)) : FnOkG P w K mg base 6 f fd pSt (spSteady K) := by
  have GD : FnOk P w K mg base CX0 1 fD fdD ["_law_purse_here", "_law_many"] spDraw := ok_draw DD B
  have GT : FnOk P w K mg base CX0 5 fT fdT ["_law_pairs_here"] (spTold2 K) := GT0.imp told_use
  refine fun_okG D.F scSy (fun vs H Q E h => ?_) (fun cdv A outer s H vs Q E hG hr h => ?_)
  · obtain ⟨pu, g, c, a, dv, es, rfl, _⟩ := h
    rfl
  · obtain ⟨pu, g, c, a, dv, es, rfl, hp, ⟨ps, hps, hpr⟩, htm, hlen, hdue, k⟩ := h
    have hr1 : Room 1 _ := hr.mono (by decide)
    have hr4 : Room 4 _ := hr.mono (by decide)
    refine ⟨_, pss_cons (ps_par (i := 3) (j := 4) rfl scSy.nd rfl rfl (by decide) rfl rfl (pa_cons (pe_callTy call_list_of (by rfl) B.lst (by decide +kernel) (pa_cons (pv 1) pa_nil)) (pa_cons (pe_lst pa_nil) pa_nil)) rfl)
      (pss_cons (ps_for PassesOwn.never rfl (pi_range1 (by rfl) B.rng (pa_cons (pe_callB call_len_seq (by rfl) B.len PySem.boot_len (pa_cons (pv 1) pa_nil)) pa_nil)) (pg_name (i := 5) scSy.nd rfl (Or.inl rfl))
        (pss_one (ps_expr (pe_bm PySem.F.plainAttrs_list PySem.F.slot_list_append PySem.F.type_list_append mt_append (pv 4) (pa_cons (pe_bm PySem.F.plainAttrs_list PySem.F.slot_list_pop PySem.F.type_list_pop mt_popAt (pv 3)
          (pa_cons (pe_call GD hr1 rfl DD.g DD.k DD.b .nil pass0 (pa_cons (pv 0) (pa_cons (pe_callB call_len_seq (by rfl) B.len PySem.boot_len (pa_cons (pv 3) pa_nil)) pa_nil))) pa_nil)) pa_nil)))))
      (pss_cons (ps_set (i := 6) scSy.nd rfl (Or.inl rfl) (pe_callTy call_tuple_of (by rfl) B.tup (by decide +kernel) (pa_cons (pe_lc (own := [("_law_one", 9), ("_law_two", 10)]) (g := gTup K 2 (gCons (gName 9) (gCons (gName 10) gNil))) rfl scSy.nd (pi_tup (pv 1))
              (blkOk_by (N := nSt) (sc := defScope sSteady) (by decide +kernel)) (fun _ _ _ _ _ => by exact pg_tup rfl (pgs_cons (pg_name (i := 9) scSy.nd rfl (Or.inl rfl)) (pgs_cons (pg_name (i := 10) scSy.nd rfl (Or.inl rfl)) pgs_nil))) (fun _ _ _ _ _ => pts_nil)
              (fun _ _ _ _ _ => pe_tup (pa_cons (pv 10) (pa_cons (pv 9) pa_nil)))) pa_nil)))
      (pss_cons (ps_set (i := 7) scSy.nd rfl (Or.inl rfl) (pe_callTy call_tuple_of (by rfl) B.tup (by decide +kernel) (pa_cons (pe_lc (own := [("_law_one", 9), ("_law_two", 10)]) (g := gTup K 2 (gCons (gName 9) (gCons (gName 10) gNil))) rfl scSy.nd (pi_list (pv 4))
              (blkOk_by (N := nSt) (sc := defScope sSteady) (by decide +kernel)) (fun _ _ _ _ _ => by exact pg_tup rfl (pgs_cons (pg_name (i := 9) scSy.nd rfl (Or.inl rfl)) (pgs_cons (pg_name (i := 10) scSy.nd rfl (Or.inl rfl)) pgs_nil))) (fun _ _ _ _ _ => pts_nil)
              (fun _ _ _ _ _ => pe_ifExp (pt_cmpR op_eq (pe_call GD hr1 rfl DD.g DD.k DD.b .nil pass0 (pa_cons (pv 0) (pa_cons pe_int pa_nil))) pe_int (nomark _)) (pe_tup (pa_cons (pv 10) (pa_cons (pv 9) pa_nil))) (pe_tup (pa_cons (pv 9) (pa_cons (pv 10) pa_nil))))) pa_nil)))
      (pss_cons (ps_set (i := 8) scSy.nd rfl (Or.inl rfl) (pe_lst (pa_cons (pe_call GT hr rfl DT.g DT.k DT.b .nil pass0 (pa_cons (pv 1) pa_nil)) (pa_cons (pe_call GT hr rfl DT.g DT.k DT.b .nil pass0 (pa_cons (pe_revT (pv 1)) pa_nil)) (pa_cons (pe_call GT hr rfl DT.g DT.k DT.b .nil pass0 (pa_cons (pe_callTy call_tuple_of (by rfl) B.tup (by decide +kernel) (pa_cons (pv 4) pa_nil)) pa_nil))
          (pa_cons (pe_call GT hr rfl DT.g DT.k DT.b .nil pass0 (pa_cons (pv 6) pa_nil)) (pa_cons (pe_call GT hr rfl DT.g DT.k DT.b .nil pass0 (pa_cons (pv 7) pa_nil)) pa_nil)))))))
      (pss_cons (ps_set (i := 8) scSy.nd rfl (Or.inl rfl) (pe_op op_cat (pv 8) (pe_lst (pa_cons (pe_call GT hr rfl DT.g DT.k DT.b .nil pass0 (pa_cons (pe_op op_catA (pv 1) (pv 1)) pa_nil)) (pa_cons (pe_call GT hr rfl DT.g DT.k DT.b .nil pass0 (pa_cons (pe_op op_catA (pv 1) (pv 6)) pa_nil)) pa_nil)))))
      (pss_cons (PS.weak (t' := fun D σ H' => JS K pu g c a dv es H 7 σ H' ∧ ∀ σ' H'', JS K pu g c a dv es H 10 σ' H'' → D.nx σ' H'') (ps_if (pt_cmp (pc_notN (pv 2))) (pss_one (ps_set (i := 8) scSy.nd rfl (Or.inl rfl) (pe_op op_cat (pv 8) (pe_lst (pa_cons (pe_call GT hr rfl DT.g DT.k DT.b .nil pass0 (pa_cons (pv 2) pa_nil)) (pa_cons (pe_call GT hr rfl DT.g DT.k DT.b .nil pass0 (pa_cons (pe_op op_catA (pv 2) (pv 1)) pa_nil))
          (pa_cons (pe_callK0 (E := E0) GU hr4 rfl DU.g DU.k kU (passes_call takes0 fun _ _ _ _ h => h) (pe_op op_catA (pv 1) (pe_revT (pv 2)))) pa_nil))))))) pss_nil) ?_)
      (pss_one (ps_ret (pe_cmpR op_eq (pe_callB (call_reprD hG hr.units) (by rfl) B.rpr boot_repr (pa_cons (pv 8) pa_nil)) (pe_callB (call_reprD hG hr.units) (by rfl) B.rpr boot_repr (pa_cons (pe_op op_rep (pe_lst (pa_cons (pv 2) pa_nil)) (pe_callB call_len_seq (by rfl) B.len PySem.boot_len (pa_cons (pv 8) pa_nil))) pa_nil)) (nomark _)))))))))), ?_⟩
    · rintro D' σ H' ⟨⟨v3, v4, v5, v6, v7, l, vs, rfl, u, hl, hv, ln⟩, nx⟩
      refine ⟨_, rfl, _, rfl, ?_⟩
      cases td : told es with
      | none =>
        rw [td] at hdue
        have hdue : dv = .non := hdue
        subst hdue
        exact iteF (nx _ _ ⟨v3, v4, v5, v6, v7, l, vs, rfl, u, hl, hv, Nat.le_trans ln (by decide)⟩)
      | some d =>
        rw [td] at hdue
        obtain ⟨pd, rfl, hpd⟩ := hdue
        rw [decide_eq_false (by intro z; cases z)]
        refine iteT ?_
        have hd1 := hpd.tups u.tups
        obtain ⟨dT, dl⟩ := told_tm htm d td
        have dl : d.length ≤ 60 := by omega
        have e1 : told d = told es := (told_more td (fun e h => .inr h) fun e h => h).trans td.symm
        have e2 : told (d ++ es) = told es := (told_more td (fun e h => (List.mem_append.mp h).symm) fun e h => List.mem_append_left _ h).trans td.symm
        have e3 : told (es ++ d.reverse) = some d := told_more td (fun e h => (List.mem_append.mp h).imp id List.mem_reverse.mp) fun e h => List.mem_append_right _ (List.mem_reverse.mpr h)
        refine ⟨_, rfl, _, rfl, pd, d, _, rfl, hd1, e1, dT, by omega, fun H1 w1 s1 d1 => ?_⟩
        have u1 := u.same s1
        refine ⟨_, rfl, _, rfl, EqsAt.cat (hd1.tups (sameTups s1)) (EqsAt.tups ⟨ps, hps, hpr⟩ u1.tups) (by omega) fun H2 r s2 he => ?_⟩
        refine ⟨r, d ++ es, _, rfl, he, e2, tm_app dT htm, by rw [List.length_append]; omega, fun H3 w2 s3 d2 => ?_⟩
        have s13 := s2.trans s3
        have u3 := u1.same s13
        obtain ⟨qs, q1, q2⟩ := hpd.tups u3.tups
        refine ⟨_, rfl, _, rfl, pd, _, rfl, SqT.of q1, fun p hp => ?_⟩
        have s4 := same_upd (o := .tup (qs.map V.ref).reverse) hp
        refine EqsAt.cat (EqsAt.tups ⟨ps, hps, hpr⟩ (u3.same s4).tups) (⟨qs.reverse, by rw [upd_same, List.map_reverse], paired_rev (q2.tups (sameTups s4))⟩ : EqsAt K (upd H3 p (.tup (qs.map V.ref).reverse)) p d.reverse) (by rw [List.length_reverse]; omega) fun H5 r2 s5 he2 => ?_
        have rT : ∀ t ∈ terms d.reverse, Tm t := tm_sub dT fun e h => .inl (List.mem_reverse.mp h)
        refine ⟨r2, es ++ d.reverse, rfl, he2, fun t ht => (tm_app htm rT t ht).sh, by rw [List.length_append, List.length_reverse]; omega, fun d' hd' H6 p6 s6 hp6 he6 => ?_, fun hn => by rw [e3] at hn; cases hn⟩
        rw [e3] at hd'
        have ed := Option.some.inj hd'
        subst ed
        have s36 : Same H3 H6 := (s4.trans s5).trans s6
        have u6 := u3.same s36
        refine ⟨(show 3 ≤ sizeLine by decide), fun b hb => ?_⟩
        have s7 := same_upd (o := .lst [w1, w2, .ref p6]) hb
        have hl7 := s7 _ _ (s36 _ _ (s13 _ _ (s1 _ _ hl)))
        refine ⟨l, b, _, _, rfl, rfl, hl7, upd_same, Nat.le_trans (Nat.add_le_add_right ln 3) (by decide), fun pp hpp => ?_⟩
        have s8 := s7.trans (same_upd (o := .lst (vs ++ [w1, w2, .ref p6])) hpp)
        have dd : DueAt K H6 (.ref p6) (told es) := by rw [td]; exact ⟨p6, rfl, he6⟩
        refine nx _ _ ⟨v3, v4, v5, v6, v7, pp, _, rfl, u6.same s8, upd_same, fun v hv' => ?_, ?_⟩
        · have t8 := sameTups s8
          rcases List.mem_append.mp hv' with h | h
          · exact (hv v h).tups ((sameTups s1).trans ((sameTups s13).trans ((sameTups s36).trans t8)))
          · simp only [List.mem_cons, List.not_mem_nil, or_false] at h
            rcases h with rfl | rfl | rfl
            · exact d1.tups ((sameTups s13).trans ((sameTups s36).trans t8))
            · exact d2.tups ((sameTups s36).trans t8)
            · exact dd.tups t8
        · rw [List.length_append]
          exact Nat.add_le_add_right ln 3
    -- list(pairs), []
    have lps : ps.length = es.length := Paired.length hpr
    refine ⟨_, rfl, a, _, rfl, .inr (SqT.of hps), fun r hr0 => ⟨Nat.zero_le _, fun m hm => ⟨_, _, rfl, ?_⟩⟩⟩
    have rm : r ≠ m := fun z => by rw [← z, upd_same] at hm; cases hm
    have s0 : Same H (upd H r (.lst (ps.map V.ref))) := same_upd hr0
    have hm0 := s0.free hm
    have u1 := (Ku.refl hp).same (same_put (o := .lst []) s0 hm0)
    obtain ⟨r1, r2, _⟩ := hp.notNone hr0
    obtain ⟨m1, m2, _⟩ := hp.notNone hm0
    refine ⟨_, rfl, a, _, rfl, .inr (SqT.of (u1.tups _ _ hps)), _, rfl, by rw [List.length_map]; omega, by rw [List.length_map]; omega, for_range (fun i σ H' => ∃ (v5 : Option V) (rs ms : List Addr) (re me : Eqs), σ = [some (.ref pu), some (.ref a), some dv, some (.ref r), some (.ref m), v5, none, none, none, none, none] ∧ Ku pu g c H H' ∧
        H' r = some (.lst (rs.map V.ref)) ∧ H' m = some (.lst (ms.map V.ref)) ∧ PairsAt K H' rs re ∧ PairsAt K H' ms me ∧ (∀ e, e ∈ es ↔ e ∈ re ∨ e ∈ me) ∧ me.length = i ∧ re.length + me.length = es.length)
      ⟨none, ps, [], es, [], rfl, u1, by rw [upd_ne rm, upd_same], upd_same, hpr.tups u1.tups, .nil, fun e => by simp, rfl, rfl⟩ ?_ ?_⟩
    · rintro i σ H' hi ⟨v5, rs, ms, re, me, rfl, u, hR, hM, pR, pM, hmem, hme, hlen2⟩
      rw [List.length_map, Int.toNat_natCast] at hi
      have lrs : rs.length = re.length := Paired.length pR
      have lms : ms.length = me.length := Paired.length pM
      have rpos : 0 < rs.length := by omega
      refine ⟨_, rfl, .inl ⟨rfl, _, SqL.of hM⟩, _, rfl, .inl ⟨rfl, _, SqL.of hR⟩, _, rfl, _, rfl, r, _, rfl, .inl (SqL.of hR), pu, g, c, _, rfl, u.p, by rw [List.length_map]; omega, by rw [List.length_map]; omega, fun H3 dd u3 d0 d1 => ?_⟩
      rw [List.length_map] at d1
      have kl : dd.toNat < rs.length := by omega
      have hR3 := u3.at hR r1 r2
      have hM3 := u3.at hM m1 m2
      have six : ixN (rs.map V.ref).length dd = some dd.toNat := by
        unfold ixN
        rw [if_pos d0, if_pos (by rw [List.length_map]; exact d1)]
      have six := (ixN_seq six).1
      refine ⟨r, _, dd, dd.toNat, .ref rs[dd.toNat], rfl, rfl, hR3, by omega, by omega, six, by rw [List.getElem?_map, List.getElem?_eq_getElem kl]; rfl, ?_⟩
      have hM4 : (upd H3 r (.lst ((rs.map V.ref).eraseIdx dd.toNat))) m = some (.lst (ms.map V.ref)) := (upd_ne rm.symm).trans hM3
      refine ⟨m, _, _, rfl, rfl, hM4, by rw [List.length_map]; exact small1000 (by omega), ?_⟩
      have kl2 : dd.toNat < re.length := by omega
      obtain ⟨y, ey, hy⟩ := paired_at pR (List.getElem?_eq_getElem kl)
      have t1 : Tups H3 (upd H3 r (.lst ((rs.map V.ref).eraseIdx dd.toNat))) := Tups.put hR3 fun xs z => by cases z
      have t2 : Tups (upd H3 r (.lst ((rs.map V.ref).eraseIdx dd.toNat))) (upd (upd H3 r (.lst ((rs.map V.ref).eraseIdx dd.toNat))) m (.lst (ms.map V.ref ++ [.ref rs[dd.toNat]]))) := Tups.put hM4 fun xs z => by cases z
      have tt := u3.tups.trans (t1.trans t2)
      have perm := erase_perm ey
      refine ⟨_, rs.eraseIdx dd.toNat, ms ++ [rs[dd.toNat]], re.eraseIdx dd.toNat, me ++ [y], rfl, ((u.trans u3).put hr0).put hm0, by rw [upd_ne rm, upd_same, map_erase], by rw [upd_same, List.map_append]; rfl, paired_erase _ (pR.tups tt), (pM.tups tt).snoc (tt _ _ hy), fun e => ?_, by rw [List.length_append, hme]; rfl, ?_⟩
      · rw [hmem, ← perm.mem_iff, List.mem_cons, List.mem_append, List.mem_singleton]
        constructor
        · rintro ((h | h) | h)
          · exact .inr (.inr h)
          · exact .inl h
          · exact .inr (.inl h)
        · rintro (h | h | h)
          · exact .inl (.inr h)
          · exact .inr h
          · exact .inl (.inl h)
      · have := perm.length_eq
        rw [List.length_cons] at this
        rw [List.length_append, List.length_singleton]
        omega
    · rintro σ H2 ⟨v5, rs, ms, re, me, rfl, u, hR, hM, pR, pM, hmem, hme, hlen2⟩
      rw [List.length_map, Int.toNat_natCast, lps] at hme
      have re0 : re = [] := List.length_eq_zero_iff.mp (by omega)
      subst re0
      have hmem : ∀ e, e ∈ es ↔ e ∈ me := fun e => by rw [hmem]; simp
      have lms : ms.length = me.length := Paired.length pM
      have subM : Sub me es := fun e h => .inl ((hmem e).mpr h)
      have subM' : Sub es me := fun e h => .inl ((hmem e).mp h)
      clear pR
      have hps2 := u.tups _ _ hps
      have hpr2 := hpr.tups u.tups
      -- about
      refine ⟨_, rfl, a, rfl, ⟨_, SqT.of hps2⟩, fun D1 hD1 => ?_⟩
      refine lc_tup (K := K) (a := a) (xs := ps.map V.ref) (fun j H' => ∃ qs : List Addr, H' D1 = some (.lst (qs.map V.ref)) ∧ PairsAt K H' qs ((es.take j).map swp) ∧ Same H2 H') ⟨[], upd_same, .nil, same_upd hD1⟩ (fun j H' _ ⟨_, _, _, z⟩ => SqT.of (z _ _ hps2)) ?_ ?_
      · rintro j x H' hx ⟨qs, h1, h2, h3⟩
        rw [List.getElem?_map] at hx
        cases ep : ps[j]? with
        | none => rw [ep] at hx; cases hx
        | some p =>
          rw [ep] at hx
          have ex : V.ref p = x := Option.some.inj hx
          subst ex
          obtain ⟨y, ee, hpe⟩ := paired_at hpr2 ep
          refine ⟨p, _, rfl, SqT.of (h3 _ _ hpe), rfl, _, _, rfl, _, _, rfl, rfl, rfl, ?_⟩
          refine ⟨_, rfl, _, rfl, two_line, fun T hT => ?_⟩
          have gD : (upd H' T (.tup [kV y.2, kV y.1])) D1 = some (.lst (qs.map V.ref)) := (same_upd hT) _ _ h1
          have tt : Tups (upd H' T (.tup [kV y.2, kV y.1])) (upd (upd H' T (.tup [kV y.2, kV y.1])) D1 (.lst (qs.map V.ref ++ [.ref T]))) := Tups.put gD fun xs z => by cases z
          have lq : qs.length ≤ 30 := by
            have z := Paired.length h2
            rw [List.length_map, List.length_take] at z
            omega
          refine ⟨_, gD, by rw [List.length_map]; exact small1000 (by omega), qs ++ [T], by rw [upd_same, List.map_append]; rfl, ?_, same_put (same_put h3 (h3.free hT)) hD1⟩
          rw [List.take_add_one, ee, List.map_append]
          exact (h2.tups ((Tups.new hT).trans tt)).snoc (tt _ _ upd_same)
      rintro H3 ⟨qa, a1, a2, s3⟩
      rw [List.length_map, lps, List.take_length] at a2
      refine ⟨D1, _, rfl, .inl ⟨SqL.of a1, fun ab hab => ?_⟩⟩
      have s4 := s3.trans (same_upd (o := .tup (qa.map V.ref)) hab)
      have abE : EqsAt K (upd H3 ab (.tup (qa.map V.ref))) ab (es.map swp) := ⟨qa, upd_same, a2.tups (Tups.new hab)⟩
      generalize upd H3 ab (.tup (qa.map V.ref)) = H4 at s4 abE ⊢
      have u4 := u.same s4
      have hM4 := s4 _ _ hM
      have pM4 := pM.tups (sameTups s4)
      -- some
      refine ⟨_, rfl, m, rfl, ⟨_, SqL.of hM4⟩, fun D2 hD2 => ?_⟩
      have hD20 := u4.free hD2
      obtain ⟨d1n, d2n, _⟩ := hp.notNone hD20
      have mD : m ≠ D2 := ne_of_none hM4 hD2
      refine lc_list (K := K) (a := m) (xs := ms.map V.ref) (fun j H' => ∃ (qs : List Addr) (zs : Eqs), H' D2 = some (.lst (qs.map V.ref)) ∧ PairsAt K H' qs zs ∧ Sub zs (me.take j) ∧ Sub (me.take j) zs ∧ zs.length = j ∧ Ku pu g c H4 H') ⟨[], [], upd_same, .nil, Sub.refl _, Sub.refl _, rfl, (Ku.refl u4.p).new hD2⟩ (fun j H' _ ⟨_, _, _, _, _, _, _, z⟩ => SqL.of (z.at hM4 m1 m2)) ?_ ?_
      · rintro j x H' hx ⟨qs, zs, h1, h2, h3, h4, h5, h6⟩
        rw [List.getElem?_map] at hx
        cases ep : ms[j]? with
        | none => rw [ep] at hx; cases hx
        | some p =>
          rw [ep] at hx
          have ex : V.ref p = x := Option.some.inj hx
          subst ex
          obtain ⟨y, ee, hpe⟩ := paired_at pM4 ep
          have jl : j < me.length := (List.getElem?_eq_some_iff.mp ee).1
          refine ⟨p, _, rfl, SqT.of (h6.tups _ _ hpe), rfl, _, _, rfl, _, _, rfl, rfl, rfl, ?_⟩
          refine ⟨_, rfl, pu, g, c, _, rfl, h6.p, by decide, by decide, fun H5 dd u5 _ _ => ⟨rfl, _, rfl, ?_⟩⟩
          have h15 := u5.at h1 d1n d2n
          have lq : qs.length = zs.length := Paired.length h2
          have fin : ∀ (p q : Key) (T : Addr), H5 T = none → ((p, q) = y ∨ swp (p, q) = y) → ∃ acc, (upd H5 T (.tup [kV p, kV q])) D2 = some (.lst acc) ∧ acc.length < sizeLine ∧ ∃ (qs : List Addr) (zs : Eqs), (upd (upd H5 T (.tup [kV p, kV q])) D2 (.lst (acc ++ [V.ref T]))) D2 = some (.lst (qs.map V.ref)) ∧
              PairsAt K (upd (upd H5 T (.tup [kV p, kV q])) D2 (.lst (acc ++ [V.ref T]))) qs zs ∧ Sub zs (me.take (j + 1)) ∧ Sub (me.take (j + 1)) zs ∧ zs.length = j + 1 ∧ Ku pu g c H4 (upd (upd H5 T (.tup [kV p, kV q])) D2 (.lst (acc ++ [V.ref T]))) := fun p q T hT ey => by
            have gD : (upd H5 T (.tup [kV p, kV q])) D2 = some (.lst (qs.map V.ref)) := (same_upd hT) _ _ h15
            have tt : Tups (upd H5 T (.tup [kV p, kV q])) (upd (upd H5 T (.tup [kV p, kV q])) D2 (.lst (qs.map V.ref ++ [.ref T]))) := Tups.put gD fun xs z => by cases z
            have tk : me.take (j + 1) = me.take j ++ [y] := by rw [List.take_add_one, ee]; rfl
            refine ⟨_, gD, by rw [List.length_map]; exact small1000 (by omega), qs ++ [T], zs ++ [(p, q)], by rw [upd_same, List.map_append]; rfl, (h2.tups (u5.tups.trans ((Tups.new hT).trans tt))).snoc (tt _ _ upd_same), ?_, ?_, by rw [List.length_append, h5]; rfl, ((h6.trans u5).new hT).put hD2⟩
            · rw [tk]; exact h3.snoc ey
            · rw [tk]
              refine h4.snoc ?_
              rcases ey with e | e
              · exact .inl e.symm
              · exact .inr (by rw [← e, swp_swp])
          refine ite2 (fun _ => ?_) (fun _ => ?_)
          · refine ⟨_, rfl, _, rfl, two_line, fun T hT => ?_⟩
            exact fin y.2 y.1 T hT (.inr rfl)
          · refine ⟨_, rfl, _, rfl, two_line, fun T hT => ?_⟩
            exact fin y.1 y.2 T hT (.inl rfl)
      rintro H5 ⟨qs, zs, b1, b2, b3, b4, b5, b6⟩
      rw [List.length_map, lms, List.take_length] at b3 b4
      rw [List.length_map, lms] at b5
      refine ⟨D2, _, rfl, .inl ⟨SqL.of b1, fun sb hsb => ?_⟩⟩
      have u6 := b6.new (o := .tup (qs.map V.ref)) hsb
      have sbE : EqsAt K (upd H5 sb (.tup (qs.map V.ref))) sb zs := ⟨qs, upd_same, b2.tups (Tups.new hsb)⟩
      generalize upd H5 sb (.tup (qs.map V.ref)) = H6 at u6 sbE ⊢
      have u06 := u4.trans u6
      have aE : EqsAt K H6 a es := EqsAt.tups ⟨ps, hps, hpr⟩ u06.tups
      have abE6 := abE.tups u6.tups
      have hM6 := u6.at hM4 m1 m2
      have pM6 := pM4.tups u6.tups
      have szE : Sub zs es := b3.trans subM
      have seZ : Sub es zs := subM'.trans b4
      clear b1 b2 b6
      have swT : ∀ t ∈ terms (es.map swp), Tm t := tm_sub htm fun e h => .inr (by
        obtain ⟨x, hx, z⟩ := List.mem_map.mp h
        rw [← z, swp_swp]
        exact hx)
      have reT : ∀ t ∈ terms es.reverse, Tm t := tm_sub htm fun e h => .inl (List.mem_reverse.mp h)
      -- five
      refine ⟨_, rfl, a, es, _, rfl, aE, rfl, htm, by omega, fun K1 w1 t1 e1 => ?_⟩
      obtain ⟨px, px1, px2⟩ := aE.tups (sameTups t1)
      refine ⟨_, rfl, a, _, rfl, SqT.of px1, fun p hp => ?_⟩
      have t2 := t1.trans (same_upd (o := .tup (px.map V.ref).reverse) hp)
      refine ⟨p, es.reverse, _, rfl, ⟨px.reverse, by rw [upd_same, List.map_reverse], paired_rev (px2.tups (Tups.new hp))⟩, sub_rev es, reT, by rw [List.length_reverse]; omega, fun K2 w2 t3 e2 => ?_⟩
      have t23 := t2.trans t3
      refine ⟨_, rfl, m, _, rfl, .inl ⟨SqL.of (t23 _ _ hM6), fun q hq => ?_⟩⟩
      have t4 := t23.trans (same_upd (o := .tup (ms.map V.ref)) hq)
      refine ⟨q, me, _, rfl, ⟨ms, upd_same, pM6.tups (sameTups t4)⟩, told_same subM subM', tm_sub htm subM, by omega, fun K3 w3 t5 e3 => ?_⟩
      have t45 := t4.trans t5
      refine ⟨_, rfl, ab, es.map swp, _, rfl, abE6.tups (sameTups t45), sub_swp es, swT, by rw [List.length_map]; omega, fun K4 w4 t6 e4 => ?_⟩
      have t46 := t45.trans t6
      refine ⟨_, rfl, sb, zs, _, rfl, sbE.tups (sameTups t46), told_same szE seZ, tm_sub htm szE, by omega, fun K5 w5 t7 e5 => ?_⟩
      have t47 := t46.trans t7
      have d1 : DueAt K K5 w1 (told es) := e1.tups (sameTups ((((((same_upd (o := .tup (px.map V.ref).reverse) hp).trans t3).trans (same_upd (o := .tup (ms.map V.ref)) hq)).trans t5).trans t6).trans t7))
      have d2 : DueAt K K5 w2 (told es) := e2.tups (sameTups ((((same_upd (o := .tup (ms.map V.ref)) hq).trans t5).trans t6).trans t7))
      have d3 : DueAt K K5 w3 (told es) := e3.tups (sameTups (t6.trans t7))
      have d4 : DueAt K K5 w4 (told es) := e4.tups (sameTups t7)
      refine ⟨(show 5 ≤ sizeLine by decide), fun l hl => ?_⟩
      have t8 := t47.trans (same_upd (o := .lst [w1, w2, w3, w4, w5]) hl)
      have five : ∀ v ∈ [w1, w2, w3, w4, w5], DueAt K (upd K5 l (.lst [w1, w2, w3, w4, w5])) v (told es) := fun v hv => by
        simp only [List.mem_cons, List.not_mem_nil, or_false] at hv
        rcases hv with rfl | rfl | rfl | rfl | rfl
        · exact d1.tups (Tups.new hl)
        · exact d2.tups (Tups.new hl)
        · exact d3.tups (Tups.new hl)
        · exact d4.tups (Tups.new hl)
        · exact e5.tups (Tups.new hl)
      have hl8 : (upd K5 l (.lst [w1, w2, w3, w4, w5])) l = some (.lst [w1, w2, w3, w4, w5]) := upd_same
      generalize upd K5 l (.lst [w1, w2, w3, w4, w5]) = K6 at t8 five hl8 ⊢
      -- two more
      refine ⟨_, rfl, _, rfl, _, rfl, EqsAt.cat (aE.tups (sameTups t8)) (aE.tups (sameTups t8)) (by omega) fun K7 r7 t9 he7 => ?_⟩
      refine ⟨r7, es ++ es, _, rfl, he7, sub_two es, tm_app htm htm, by rw [List.length_append]; omega, fun K8 w6 t10 e6 => ?_⟩
      have t11 := t9.trans t10
      have t12 := t8.trans t11
      refine ⟨_, rfl, _, rfl, EqsAt.cat (aE.tups (sameTups t12)) (abE6.tups (sameTups t12)) (by rw [List.length_map]; omega) fun K9 r9 t13 he9 => ?_⟩
      refine ⟨r9, es ++ es.map swp, _, rfl, he9, sub_cat es, tm_app htm swT, by rw [List.length_append, List.length_map]; omega, fun KA w7 t14 e7 => ?_⟩
      have t15 := t13.trans t14
      refine ⟨two_line, fun b hb => ?_⟩
      have t16 := t15.trans (same_upd (o := .lst [w6, w7]) hb)
      refine ⟨l, b, _, _, rfl, rfl, t16 _ _ (t11 _ _ hl8), upd_same, (show 7 ≤ sizeLine by decide), fun l2 hl2 => ?_⟩
      have t17 := (same_upd (o := .lst [w6, w7]) hb).trans (same_upd (o := .lst [w1, w2, w3, w4, w5, w6, w7]) hl2)
      refine ⟨⟨_, _, _, _, _, l2, [w1, w2, w3, w4, w5, w6, w7], rfl, u06.same (t12.trans (t15.trans t17)), upd_same, fun v hv => ?_, (show 7 ≤ 7 by decide)⟩, ?_⟩
      · have hv : v ∈ [w1, w2, w3, w4, w5] ++ [w6, w7] := hv
        rcases List.mem_append.mp hv with h | h
        · exact (five v h).tups ((sameTups t11).trans ((sameTups t15).trans (sameTups t17)))
        · simp only [List.mem_cons, List.not_mem_nil, or_false] at h
          rcases h with rfl | rfl
          · exact e6.tups ((sameTups t15).trans (sameTups t17))
          · exact e7.tups (sameTups t17)
      · rintro σ' H' ⟨v3, v4, v5, v6, v7, l, vs, rfl, uF, hlF, hvF, ln⟩
        have dT := told_tm htm
        obtain ⟨q1, q2, q3, q4, q5⟩ := repr_dues hlF hvF dT (by omega) (by omega)
        refine ⟨_, rfl, .ref l, _, rfl, .inr ⟨l, rfl⟩, q1, q2, q3, q4, q5, ?_⟩
        refine ⟨_, rfl, (show 1 ≤ sizeLine by decide), fun l1 hl1 => ?_⟩
        have f1 := same_upd (o := .lst [dv]) hl1
        refine ⟨_, rfl, l, _, rfl, .inl (SqL.of (f1 _ _ hlF)), l1, _, _, rfl, rfl, upd_same, by omega, by omega, ?_, fun l2 hl2 => ?_⟩
        · rw [Int.toNat_natCast]
          exact Nat.le_trans (Nat.mul_le_mul (show [dv].length ≤ 1 from Nat.le_refl _) ln) (by decide)
        have er : (List.replicate ((vs.length : Nat) : Int).toNat [dv]).flatten = List.replicate vs.length dv := by
          rw [Int.toNat_natCast]
          induction vs.length with
          | zero => rfl
          | succ n ih => rw [List.replicate_succ, List.flatten_cons, ih]; rfl
        rw [er]
        have f2 := f1.trans (same_upd (o := .lst (List.replicate vs.length dv)) hl2)
        have hdF : DueAt K (upd (upd H' l1 (.lst [dv])) l2 (.lst (List.replicate vs.length dv))) dv (told es) := hdue.tups (uF.tups.trans (sameTups f2))
        obtain ⟨g1, g2, g3, g4, g5⟩ := repr_dues (n := 2 * es.length) (show (upd (upd H' l1 (.lst [dv])) l2 (.lst (List.replicate vs.length dv))) l2 = some (.lst (List.replicate vs.length dv)) from upd_same) (fun v hv => by rw [(List.mem_replicate.mp hv).2]; exact hdF) dT (by omega) (by rw [List.length_replicate]; omega)
        rw [List.length_replicate] at g1 g2 g3 g4 g5
        refine ⟨.ref l2, _, rfl, .inr ⟨l2, rfl⟩, g1, g2, g3, g4, g5, rfl, ?_⟩
        rw [decide_eq_true rfl]
        exact k _ (uF.same f2)
end
end U6
set_option Elab.async false
set_option linter.all false
set_option maxRecDepth 100000
set_option maxHeartbeats 4000000
/-! The long chain: plain law. -/
namespace U6
open PySem PySem.Spec PyProof.Rows L2 U6R
theorem lex_app : ∀ {a b : List Nat} (x y : List Nat), a.length = b.length → a < b → a ++ x < b ++ y
  | [], [], _, _, _, h => absurd h (List.lt_irrefl _)
  | [], _ :: _, _, _, h, _ => by cases h
  | _ :: _, [], _, _, h, _ => by cases h
  | p :: a, q :: b, x, y, hl, h => by
    rw [List.cons_append, List.cons_append, List.cons_lt_cons_iff]
    rcases List.cons_lt_cons_iff.mp h with z | ⟨z, w⟩
    · exact .inl z
    · exact .inr ⟨z, lex_app x y (Nat.succ.inj hl) w⟩
theorem lex_pre : ∀ (a : List Nat) {x y : List Nat}, x < y → a ++ x < a ++ y
  | [], _, _, h => h
  | p :: a, _, _, h => by
    rw [List.cons_append, List.cons_append, List.cons_lt_cons_iff]
    exact .inr ⟨rfl, lex_pre a h⟩
theorem num_len : ∀ (d n : Nat), 10 ^ d ≤ n → n < 10 ^ (d + 1) → (TL.numL n).length = d + 1
  | 0, n, h1, h2 => by
    rw [TL.numL_lt (by simpa using h2)]
    rfl
  | d + 1, n, h1, h2 => by
    have t : 10 ≤ n := Nat.le_trans (by rw [Nat.pow_succ]; exact Nat.le_mul_of_pos_left _ (Nat.pow_pos (by decide))) h1
    rw [TL.numL_step t, List.length_append, num_len d (n / 10) ((Nat.le_div_iff_mul_le (by decide)).mpr (by rw [Nat.pow_succ] at h1; exact h1)) (Nat.div_lt_of_lt_mul (by rw [Nat.pow_succ] at h2; omega))]
    rfl
theorem num_lt : ∀ (d m n : Nat), 10 ^ d ≤ m → n < 10 ^ (d + 1) → m < n → TL.numL m < TL.numL n
  | 0, m, n, h1, h2, h => by
    have h2 : n < 10 := by simpa using h2
    rw [TL.numL_lt (show m < 10 by omega), TL.numL_lt h2, List.cons_lt_cons_iff]
    exact .inl (by omega)
  | d + 1, m, n, h1, h2, h => by
    have t : 10 ≤ m := Nat.le_trans (by rw [Nat.pow_succ]; exact Nat.le_mul_of_pos_left _ (Nat.pow_pos (by decide))) h1
    have a1 : 10 ^ d ≤ m / 10 := (Nat.le_div_iff_mul_le (by decide)).mpr (by rw [Nat.pow_succ] at h1; exact h1)
    have a2 : n / 10 < 10 ^ (d + 1) := Nat.div_lt_of_lt_mul (by rw [Nat.pow_succ] at h2; omega)
    rw [TL.numL_step t, TL.numL_step (Nat.le_trans t (Nat.le_of_lt h))]
    by_cases e : m / 10 = n / 10
    · rw [e]
      refine lex_pre _ ?_
      rw [List.cons_lt_cons_iff]
      exact .inl (by omega)
    · have lt : m / 10 < n / 10 := by omega
      refine lex_app _ _ ?_ (num_lt d (m / 10) (n / 10) a1 a2 lt)
      rw [num_len d _ a1 (by omega), num_len d _ (by omega) a2]
/-- a name of the long chain -/
def nmZ (n : Int) : Str := ("?z." : Str) ++ Str.ofString (toString n)
theorem nmZ_lt {m n : Nat} (h1 : 10 ^ 8 ≤ m) (h2 : n < 10 ^ 9) (h : m < n) : slt (nmZ (m : Nat)) (nmZ (n : Nat)) = true := by
  refine decide_eq_true ?_
  have e : ∀ k : Nat, (nmZ (k : Nat)).cps.toList = ("?z." : Str).cps.toList ++ TL.numL k := fun k => by
    show (("?z." : Str).cps ++ (Str.ofString (toString ((k : Nat) : Int))).cps).toList = _
    rw [Array.toList_append]
    congr 1
    exact TL.tl_num k
  rw [e, e]
  exact lex_pre _ (num_lt 8 m n h1 h2 h)
theorem nmZ_nm {n : Int} (h0 : 0 ≤ n) (h1 : n < 10 ^ 10) : Nm (.inr (nmZ n)) := by
  refine ⟨isVar_app (by decide +kernel), Tx.tm (Tx.add (Tx.lit (z := "?z.") (n := 3) (by decide +kernel)) (Tx.num h0 h1)) (by decide)⟩
/-- the names -/
def chainN (b n : Nat) : List Str := (List.range n).map fun k => nmZ (((b + k : Nat) : Nat) : Int)
theorem chain_asc {b n : Nat} (h1 : 10 ^ 8 ≤ b) (h2 : b + n ≤ 10 ^ 9) : Asc (chainN b n) := by
  refine List.pairwise_map.mpr ?_
  have q := List.pairwise_lt_range (n := n)
  refine List.Pairwise.imp_of_mem ?_ q
  intro i j hi hj hij
  have hj := List.mem_range.mp hj
  exact nmZ_lt (by omega) (by omega) (by omega)
/-- all alike, no value: each gets the least -/
theorem all_told {es : Eqs} {n0 : Str} {ns : List Str} (ha : Asc (n0 :: ns)) (ht : ∀ t, t ∈ terms es ↔ ∃ z ∈ n0 :: ns, t = .inr z) (hv : ∀ z ∈ n0 :: ns, isVar (.inr z) = true) (al : ∀ z ∈ n0 :: ns, Al es (.inr z) (.inr n0)) :
    told es = some ((n0 :: ns).map fun z => (.inr z, .inr n0)) := by
  have novar : ∀ t ∈ terms es, isVar t = true := fun t h => by
    obtain ⟨z, hz, e⟩ := (ht t).mp h
    rw [e]; exact hv z hz
  cases u : unif es with
  | none =>
    obtain ⟨p, q, hp, hq, ne, r⟩ := unif_clash u
    rcases r.inTerms with z | ⟨z, _⟩
    · exact absurd z ne
    · rw [novar p z] at hp; cases hp
  | some f =>
    have G := unif_good u
    have ev : vars es = n0 :: ns := asc_unique (asc_vars _) ha fun z => by
      rw [show z ∈ vars es ↔ _ from mem_vars, ht]
      constructor
      · rintro ⟨⟨y, hy, e⟩, _⟩
        rw [Sum.inr.inj e]; exact hy
      · intro h
        exact ⟨⟨z, h, rfl⟩, hv z h⟩
    rw [told_tell u, ev]
    unfold tell
    refine congrArg some (List.map_congr_left fun z hz => ?_)
    have e : f (.inr z) = .inr n0 := by
      refine G.var_of (hv n0 List.mem_cons_self) (al z hz) (fun c hc r => ?_) fun x hx r => ?_
      · rcases r.inTerms with y | ⟨_, y⟩
        · rw [← y, hv z hz] at hc; cases hc
        · rw [novar c y] at hc; cases hc
      · obtain ⟨s, rfl⟩ := var_str hx
        show slt s n0 = false
        have sm : s ∈ n0 :: ns := by
          rcases r.inTerms with y | ⟨_, y⟩
          · rw [← Sum.inr.inj y]; exact hz
          · obtain ⟨y2, h2, e2⟩ := (ht _).mp y
            rw [Sum.inr.inj e2]; exact h2
        rcases List.mem_cons.mp sm with y | y
        · rw [y]; exact slt_irrefl _
        · exact slt_asymm ((List.pairwise_cons.mp ha).1 s y)
    rw [e]
/-- all alike with one value: each gets the value -/
theorem all_told_val {es : Eqs} {ns : List Str} {c : Key} (ha : Asc ns) (hc : isVar c = false) (ht : ∀ t, t ∈ terms es ↔ (∃ z ∈ ns, t = .inr z) ∨ t = c) (hv : ∀ z ∈ ns, isVar (.inr z) = true) (al : ∀ z ∈ ns, Al es (.inr z) c) :
    told es = some (ns.map fun z => (.inr z, c)) := by
  have only : ∀ t ∈ terms es, isVar t = false → t = c := fun t h n => by
    rcases (ht t).mp h with ⟨z, hz, e⟩ | e
    · rw [e, hv z hz] at n; cases n
    · exact e
  cases u : unif es with
  | none =>
    obtain ⟨p, q, hp, hq, ne, r⟩ := unif_clash u
    rcases r.inTerms with z | ⟨z, z2⟩
    · exact absurd z ne
    · exact absurd ((only p z hp).trans (only q z2 hq).symm) ne
  | some f =>
    have G := unif_good u
    have ev : vars es = ns := asc_unique (asc_vars _) ha fun z => by
      rw [show z ∈ vars es ↔ _ from mem_vars, ht]
      constructor
      · rintro ⟨⟨y, hy, e⟩ | e, v⟩
        · rw [Sum.inr.inj e]; exact hy
        · rw [e, hc] at v; cases v
      · intro h
        exact ⟨.inl ⟨z, h, rfl⟩, hv z h⟩
    rw [told_tell u, ev]
    unfold tell
    refine congrArg some (List.map_congr_left fun z hz => ?_)
    rw [G.val_of hc (al z hz)]
/-! ### the chain -/
/-- j and j + 1 are joined, in either direction -/
structure Chain (ns : List Str) (es : Eqs) : Prop where
  one : ∀ e ∈ es, ∃ (j : Nat) (x y : Str), ns[j]? = some x ∧ ns[j + 1]? = some y ∧ (e = (.inr x, .inr y) ∨ e = (.inr y, .inr x))
  all : ∀ (j : Nat) (x y : Str), ns[j]? = some x → ns[j + 1]? = some y → (.inr x, .inr y) ∈ es ∨ (.inr y, .inr x) ∈ es
theorem Chain.same {ns : List Str} {es es' : Eqs} (c : Chain ns es) (h : ∀ e, e ∈ es' ↔ e ∈ es) : Chain ns es' :=
  ⟨fun e he => c.one e ((h e).mp he), fun j x y h1 h2 => (c.all j x y h1 h2).imp (h _).mpr (h _).mpr⟩
theorem Chain.al {ns : List Str} {es : Eqs} (c : Chain ns es) {n0 : Str} (h0 : ns[0]? = some n0) : ∀ (j : Nat) (x : Str), ns[j]? = some x → Al es (.inr x) (.inr n0)
  | 0, x, h => by
    rw [h0] at h
    cases h
    exact .refl _
  | j + 1, x, h => by
    have lt := (List.getElem?_eq_some_iff.mp h).1
    have hj : ns[j]? = some ns[j] := List.getElem?_eq_getElem (by omega)
    have ih := c.al h0 j _ hj
    rcases c.all j _ x hj h with z | z
    · exact (Al.eq z).symm.trans ih
    · exact (Al.eq z).trans ih
theorem Chain.terms {ns : List Str} {es : Eqs} (c : Chain ns es) (hn : 2 ≤ ns.length) (t : Key) : t ∈ U6.terms es ↔ ∃ z ∈ ns, t = .inr z := by
  constructor
  · intro h
    obtain ⟨e, he, q⟩ := mem_terms.mp h
    obtain ⟨j, x, y, h1, h2, h3⟩ := c.one e he
    rcases h3 with h3 | h3 <;> rw [h3] at q <;> rcases q with q | q
    · exact ⟨x, List.mem_of_getElem? h1, q⟩
    · exact ⟨y, List.mem_of_getElem? h2, q⟩
    · exact ⟨y, List.mem_of_getElem? h2, q⟩
    · exact ⟨x, List.mem_of_getElem? h1, q⟩
  · rintro ⟨z, hz, rfl⟩
    obtain ⟨j, hj⟩ := List.mem_iff_getElem?.mp hz
    have lt := (List.getElem?_eq_some_iff.mp hj).1
    by_cases l : j + 1 < ns.length
    · rcases c.all j z _ hj (List.getElem?_eq_getElem l) with q | q
      · exact mem_terms.mpr ⟨_, q, .inl rfl⟩
      · exact mem_terms.mpr ⟨_, q, .inr rfl⟩
    · obtain ⟨i, rfl⟩ : ∃ i, j = i + 1 := ⟨j - 1, by omega⟩
      rcases c.all i _ z (List.getElem?_eq_getElem (by omega)) hj with q | q
      · exact mem_terms.mpr ⟨_, q, .inr rfl⟩
      · exact mem_terms.mpr ⟨_, q, .inl rfl⟩
theorem chain_told {n0 : Str} {ns : List Str} {es : Eqs} (c : Chain (n0 :: ns) es) (ha : Asc (n0 :: ns)) (hn : 2 ≤ (n0 :: ns).length) (hv : ∀ z ∈ n0 :: ns, isVar (.inr z) = true) : told es = some ((n0 :: ns).map fun z => (.inr z, .inr n0)) :=
  all_told ha (fun t => c.terms hn t) hv fun z hz => by
    obtain ⟨j, hj⟩ := List.mem_iff_getElem?.mp hz
    exact c.al rfl j z hj
theorem chain_told_val {n0 : Str} {ns : List Str} {es es' : Eqs} {v : Key} {en : Str} (c : Chain (n0 :: ns) es) (ha : Asc (n0 :: ns)) (hn : 2 ≤ (n0 :: ns).length) (hv : ∀ z ∈ n0 :: ns, isVar (.inr z) = true) (vv : isVar v = false) (he : en ∈ n0 :: ns)
    (h : ∀ e, e ∈ es' ↔ e ∈ es ∨ e = (.inr en, v)) : told es' = some ((n0 :: ns).map fun z => (.inr z, v)) := by
  have al : ∀ z ∈ n0 :: ns, Al es' (.inr z) (.inr n0) := fun z hz => by
    obtain ⟨j, hj⟩ := List.mem_iff_getElem?.mp hz
    exact (c.al rfl j z hj).mono fun a b m => .eq ((h _).mpr (.inl m))
  refine all_told_val ha vv (fun t => ?_) hv fun z hz => ((al z hz).trans (al en he).symm).trans (.eq ((h _).mpr (.inr rfl)))
  constructor
  · intro q
    obtain ⟨e, he', q⟩ := mem_terms.mp q
    rcases (h e).mp he' with z | z
    · exact .inl ((c.terms hn t).mp (mem_terms.mpr ⟨e, z, q⟩))
    · rw [z] at q
      rcases q with q | q
      · exact .inl ⟨en, he, q⟩
      · exact .inr q
  · rintro (q | q)
    · obtain ⟨e, he', q⟩ := mem_terms.mp ((c.terms hn t).mpr q)
      exact mem_terms.mpr ⟨e, (h e).mpr (.inl he'), q⟩
    · exact mem_terms.mpr ⟨_, (h _).mpr (.inr rfl), .inr q⟩
/-! ### every second one -/
theorem mem_pick {α : Type} {idx : List Nat} {l : List α} {x : α} : x ∈ pickI idx l ↔ ∃ i ∈ idx, l[i]? = some x := by
  unfold pickI
  rw [List.mem_filterMap]
theorem mem_idx0 {n i : Nat} : i < n → i % 2 = 0 → i ∈ idx2 none n := fun h e => by
  unfold idx2
  show i ∈ sliceRange 0 (n : Int) 2
  unfold sliceRange
  rw [List.mem_map]
  refine ⟨i / 2, ?_, by omega⟩
  rw [List.mem_range, if_pos (by decide), if_pos (by omega)]
  omega
theorem mem_idx1 {n i : Nat} : i < n → i % 2 = 1 → i ∈ idx2 (some 1) n := fun h e => by
  unfold idx2
  have b : sliceBounds (some 1) none (some 2) n = (1, (n : Int), 2) := by
    unfold sliceBounds
    refine Prod.ext ?_ rfl
    show (if (2 : Int) > 0 then max 0 (min (if (1 : Int) < 0 then 1 + (n : Int) else 1) (n : Int)) else max (-1) (min (if (1 : Int) < 0 then 1 + (n : Int) else 1) ((n : Int) - 1))) = 1
    rw [if_pos (by decide), if_neg (by decide)]
    omega
  rw [b]
  show i ∈ sliceRange 1 (n : Int) 2
  unfold sliceRange
  rw [List.mem_map]
  refine ⟨i / 2, ?_, by omega⟩
  rw [List.mem_range, if_pos (by decide), if_pos (by omega)]
  omega
theorem mem_two {α : Type} {l : List α} {x : α} : (x ∈ pickI (idx2 none l.length) l ∨ x ∈ pickI (idx2 (some 1) l.length) l) ↔ x ∈ l := by
  constructor
  · rintro (h | h) <;> obtain ⟨i, _, e⟩ := mem_pick.mp h <;> exact List.mem_of_getElem? e
  · intro h
    obtain ⟨i, e⟩ := List.mem_iff_getElem?.mp h
    have lt := (List.getElem?_eq_some_iff.mp e).1
    rcases Nat.mod_two_eq_zero_or_one i with z | z
    · exact .inl (mem_pick.mpr ⟨i, mem_idx0 lt z, e⟩)
    · exact .inr (mem_pick.mpr ⟨i, mem_idx1 lt z, e⟩)
end U6
set_option Elab.async false
set_option linter.all false
set_option maxRecDepth 100000
set_option maxHeartbeats 8000000
/-! _law_is_long. -/
namespace U6
open PySem PySem.Spec PyProof.Rows L2 U6R
theorem cut1_get {xs : List V} (j : Nat) : (cutV xs (some 1) none)[j]? = xs[j + 1]? := by
  unfold cutV
  rw [HT.sIx_none, show HT.sIx xs.length 0 (some 1) = min 1 xs.length from HT.sIx_nat _ _ 1]
  cases xs with
  | nil => rfl
  | cons x r =>
    rw [List.length_cons, show min 1 (r.length + 1) = 1 by omega]
    show (r.take (r.length + 1 - 1))[j]? = r[j]?
    rw [show r.length + 1 - 1 = r.length by omega, List.take_length]
theorem cut1_len (xs : List V) : (cutV xs (some 1) none).length = xs.length - 1 := by
  unfold cutV
  rw [HT.sIx_none, show HT.sIx xs.length 0 (some 1) = min 1 xs.length from HT.sIx_nat _ _ 1, List.length_take, List.length_drop]
  omega
theorem pick_len {α : Type} (idx : List Nat) (l : List α) : (pickI idx l).length ≤ idx.length := List.length_filterMap_le _ _
theorem idx_len0 (n : Nat) : (idx2 none n).length ≤ (n + 1) / 2 := by
  unfold idx2
  show (sliceRange 0 (n : Int) 2).length ≤ _
  unfold sliceRange
  rw [List.length_map, List.length_range, if_pos (by decide)]
  split <;> omega
theorem idx_len1 (n : Nat) : (idx2 (some 1) n).length ≤ n / 2 := by
  unfold idx2
  show (sliceRange (max 0 (min (1 : Int) (n : Int))) (n : Int) 2).length ≤ _
  unfold sliceRange
  rw [List.length_map, List.length_range, if_pos (by decide)]
  split <;> omega
/-- the list of pairs as it stands: a chain -/
def JL (K : PySem.W.Frag) (pu g c : Addr) (H : Hp) (x : Int × Int × Int × Addr × List Str) (σ : L2.St) (H' : Hp) : Prop :=
  ∃ (v10 v11 : Option V) (L : Addr) (qs : List Addr) (es : Eqs), σ = [some (.ref pu), some (.int x.1), some (.int x.2.1), some (.int x.2.2.1), some (.ref x.2.2.2.1), some (.ref L), none, none, none, none, v10, v11, none, none] ∧ Ku pu g c H H' ∧
    H' x.2.2.2.1 = some (.lst (x.2.2.2.2.map V.str)) ∧ x.2.2.2.1 ≠ pu ∧ x.2.2.2.1 ≠ g ∧ H' L = some (.lst (qs.map V.ref)) ∧ L ≠ pu ∧ L ≠ g ∧ PairsAt K H' qs es ∧ Chain x.2.2.2.2 es ∧ es.length ≤ 1400
theorem JL.move {K : PySem.W.Frag} {pu g c : Addr} {H : Hp} {n b w : Int} {D : Addr} {ns : List Str} {v10 v11 : Option V} {es : Eqs} {H' H2 : Hp} {p : Addr} {rs : List Addr} {es2 : Eqs} (u : Ku pu g c H H') (hD : H' D = some (.lst (ns.map V.str))) (d1 : D ≠ pu) (d2 : D ≠ g)
    (s : Same H' H2) (hp : H2 p = none) (pr : PairsAt K H2 rs es2) (ch : Chain ns es) (me : ∀ e, e ∈ es2 ↔ e ∈ es) (hl : es2.length ≤ 1400) :
    JL K pu g c H (n, b, w, D, ns) [some (.ref pu), some (.int n), some (.int b), some (.int w), some (.ref D), some (.ref p), none, none, none, none, v10, v11, none, none] (upd H2 p (.lst (rs.map V.ref))) := by
  have u2 := u.same s
  have hp0 := u2.free hp
  obtain ⟨n1, n2, _⟩ := u.p0.notNone hp0
  exact ⟨v10, v11, p, rs, es2, rfl, u2.new hp, same_upd hp _ _ (s _ _ hD), d1, d2, upd_same, n1, n2, pr.tups (Tups.new hp), ch.same me, hl⟩
/-- at the return -/
def JR (K : PySem.W.Frag) (pu g c : Addr) (H : Hp) (σ : L2.St) (H' : Hp) : Prop :=
  ∃ (v1 v2 v3 v5 v7 v8 v10 v11 : Option V) (D : Addr) (n0 : Str) (rest : List Str) (val : Option Key) (tk : Key) (w : V), σ = [some (.ref pu), v1, v2, v3, some (.ref D), v5, some (match val with | none => .non | some v => kV v), v7, v8, some w, v10, v11, none, none] ∧ Ku pu g c H H' ∧
    H' D = some (.lst ((n0 :: rest).map V.str)) ∧ DueAt K H' w (some ((n0 :: rest).map fun z => (.inr z, tk))) ∧ (match val with | none => tk = .inr n0 | some v => tk = v) ∧ Tm tk ∧ (∀ z ∈ n0 :: rest, Tm (.inr z)) ∧ (n0 :: rest).length ≤ 1400
section
variable {P : Program} {w : World} {K : PySem.W.Frag} {mg : Str → Option Value} {base : Heap}
def spLong (K : PySem.W.Frag) : Sp := fun vs H Q _ => ∃ (pu g c : Addr), vs = [.ref pu] ∧ PurseAt H pu g c ∧ ∀ H', Ku pu g c H H' → Q (.bl true) H'
def nLg : List Str := ["_law_purse_here", "_law_many", "_law_base", "_law_way", "_law_names_here", "_law_pairs_here", "_law_value", "_law_end", "_law_more", "_law_told_here", "_law_one", "_law_two", "_law_k", "_law_name"]
theorem scLg : FnScope nLg ["_law_purse_here"] (defScope sLong) := ⟨rfl, rfl, rfl, by decide +kernel, rfl, by decide +kernel, by decide +kernel⟩
theorem ok_long {f fD fP fT : Addr} {fd fdD fdP fdT : FuncData} (D : Df K mg "_law_is_long" sLong ["_law_purse_here"] f fd) (B : Bl mg) (DD : Df K mg "_law_draw" sDraw ["_law_purse_here", "_law_many"] fD fdD) (DP : Df K mg "_law_pick" sPick ["_law_purse_here", "_law_some"] fP fdP)
    (DT : Df K mg "_law_told" sTold ["_law_pairs_here"] fT fdT) (GT0 : FnOk P w K mg base CX0 5 fT fdT ["_law_pairs_here"] (spTold K)) : FnOkG P w K mg base 6 f fd ["_law_purse_here"] (spLong K) := by
  have GD : FnOk P w K mg base CX0 1 fD fdD ["_law_purse_here", "_law_many"] spDraw := ok_draw DD B
  have GP : FnOk P w K mg base CX0 2 fP fdP ["_law_purse_here", "_law_some"] spPick := ok_pick DP B DD
  have GT : FnOk P w K mg base CX0 5 fT fdT ["_law_pairs_here"] (spTold2 K) := GT0.imp told_use
  refine fun_okG D.F scLg (fun vs H Q E h => ?_) (fun cdv A outer s H vs Q E hG hr h => ?_)
  · obtain ⟨pu, g, c, rfl, _⟩ := h
    rfl
  · obtain ⟨pu, g, c, rfl, hp, k⟩ := h
    have hr1 : Room 1 _ := hr.mono (by decide)
    have hr2 : Room 2 _ := hr.mono (by decide)
    refine ⟨_, pss_cons (ps_asg (pe_tup (pa_cons (pe_op op_add pe_int (pe_call GD hr1 rfl DD.g DD.k DD.b .nil pass0 (pa_cons (pv 0) (pa_cons pe_int pa_nil)))) (pa_cons (pe_op op_add (pe_op op_pow pe_int pe_int) (pe_call GD hr1 rfl DD.g DD.k DD.b .nil pass0 (pa_cons (pv 0) (pa_cons (pe_op op_pow pe_int pe_int) pa_nil))))
          (pa_cons (pe_call GD hr1 rfl DD.g DD.k DD.b .nil pass0 (pa_cons (pv 0) (pa_cons pe_int pa_nil))) pa_nil)))) (pg_tup rfl (pgs_cons (pg_name (i := 1) scLg.nd rfl (Or.inl rfl)) (pgs_cons (pg_name (i := 2) scLg.nd rfl (Or.inr rfl)) (pgs_cons (pg_name (i := 3) scLg.nd rfl (Or.inl rfl)) pgs_nil)))))
      (pss_cons (ps_set (i := 4) scLg.nd rfl (Or.inr rfl) (pe_lc (own := [("_law_k", 12)]) (g := gName 12) rfl scLg.nd (pi_range1 (by rfl) B.rng (pa_cons (pv 1) pa_nil))
          (blkOk_by (N := nLg) (sc := defScope sLong) (by decide +kernel)) (fun _ _ _ _ _ => pg_name (i := 12) scLg.nd rfl (Or.inl rfl)) (fun _ _ _ _ _ => pts_nil)
          (fun _ _ _ _ _ => pe_op op_add_str pe_str (pe_callTy call_str_int (by rfl) B.str (by decide +kernel) (pa_cons (pe_op op_add (pv 2) (pv 12)) pa_nil)))))
      (pss_cons (ps_set (i := 5) scLg.nd rfl (Or.inl rfl) (pe_lst pa_nil))
      (pss_cons (ps_for PassesOwn.never rfl (pi_zip (by rfl) B.zip (pa_cons (pv 4) (pa_cons (pe_slice sl_list (pv 4) (po_some pe_int) po_none) pa_nil))) (pg_tup rfl (pgs_cons (pg_name (i := 10) scLg.nd rfl (Or.inl rfl)) (pgs_cons (pg_name (i := 11) scLg.nd rfl (Or.inl rfl)) pgs_nil)))
        (pss_one (ps_expr (pe_bm PySem.F.plainAttrs_list PySem.F.slot_list_append PySem.F.type_list_append mt_append (pv 5) (pa_cons (pe_ifExp (pt_cmpR op_eq (pe_call GD hr1 rfl DD.g DD.k DD.b .nil pass0 (pa_cons (pv 0) (pa_cons pe_int pa_nil))) pe_int (nomark _)) (pe_tup (pa_cons (pv 10) (pa_cons (pv 11) pa_nil))) (pe_tup (pa_cons (pv 11) (pa_cons (pv 10) pa_nil)))) pa_nil)))))
      (pss_cons (PS.weak (t' := tJ (JL K pu g c H)) (ps_if (pt_cmpR op_eq (pv 3) pe_int (nomark _)) (pss_one (ps_set (i := 5) scLg.nd rfl (Or.inl rfl) (pe_revL (pv 5)))) pss_nil) ?_)
      (pss_cons (PS.weak (t' := tJ (JL K pu g c H)) (ps_if (pt_cmpR op_gt (pv 3) pe_int (nomark _)) (pss_one (ps_set (i := 5) scLg.nd rfl (Or.inl rfl) (pe_ifExp (pt_cmpR op_eq (pv 3) pe_int (nomark _)) (pe_op op_cat (pe_stepL (pv 5) po_none) (pe_stepL (pv 5) (po_some pe_int))) (pe_op op_cat (pe_revL (pe_stepL (pv 5) (po_some pe_int))) (pe_revL (pe_stepL (pv 5) po_none)))))) pss_nil) ?_)
      (pss_cons (ps_asg (pe_tup (pa_cons (pe_call GP hr2 rfl DP.g DP.k DP.b .nil pass0 (pa_cons (pv 0) (pa_cons (pe_lst (pa_cons pe_non (pa_cons pe_non (pa_cons pe_int (pa_cons pe_str pa_nil))))) pa_nil)))
          (pa_cons (pe_call GP hr2 rfl DP.g DP.k DP.b .nil pass0 (pa_cons (pv 0) (pa_cons (pe_lst (pa_cons (pe_ix ix_list (pv 4) pe_int (fun _ _ => rfl)) (pa_cons (pe_ix ix_list (pv 4) (pe_un un_neg pe_int) (fun _ _ => rfl)) pa_nil))) pa_nil))) pa_nil))) (pg_tup rfl (pgs_cons (pg_name (i := 6) scLg.nd rfl (Or.inr rfl)) (pgs_cons (pg_name (i := 7) scLg.nd rfl (Or.inl rfl)) pgs_nil))))
      (pss_cons (ps_set (i := 8) scLg.nd rfl (Or.inl rfl) (pe_ifExp (pt_cmp (pc_isN (pv 6))) (pe_lst pa_nil) (pe_lst (pa_cons (pe_tup (pa_cons (pv 7) (pa_cons (pv 6) pa_nil))) pa_nil))))
      (pss_cons (ps_set (i := 9) scLg.nd rfl (Or.inl rfl) (pe_call GT hr rfl DT.g DT.k DT.b .nil pass0 (pa_cons (pe_callTy call_tuple_of (by rfl) B.tup (by decide +kernel) (pa_cons (pe_ifExp (pt_cmpR op_eq (pe_call GD hr1 rfl DD.g DD.k DD.b .nil pass0 (pa_cons (pv 0) (pa_cons pe_int pa_nil))) pe_int (nomark _)) (pe_op op_cat (pv 5) (pv 8)) (pe_op op_cat (pv 8) (pv 5))) pa_nil)) pa_nil)))
      (pss_one (PS.weak (t' := fun D' σ H' => JR K pu g c H σ H' ∧ ∀ H'', Ku pu g c H H'' → D'.rt (.bl true) H'') (ps_ret (pe_cmpR op_eq (pe_callB (call_reprD hG hr.units) (by rfl) B.rpr boot_repr (pa_cons (pv 9) pa_nil)) (pe_callB (call_reprD hG hr.units) (by rfl) B.rpr boot_repr (pa_cons (pe_callTy call_tuple_of (by rfl) B.tup (by decide +kernel) (pa_cons
          (pe_lc (own := [("_law_name", 13)]) (g := gName 13) rfl scLg.nd (pi_list (pv 4)) (blkOk_by (N := nLg) (sc := defScope sLong) (by decide +kernel)) (fun _ _ _ _ _ => pg_name (i := 13) scLg.nd rfl (Or.inl rfl)) (fun _ _ _ _ _ => pts_nil)
            (fun _ _ _ _ _ => pe_tup (pa_cons (pv 13) (pa_cons (pe_ifExp (pt_cmp (pc_isN (pv 6))) (pe_ix (r := rIxL K) (by exact ix_list) (pv 4) pe_int (fun _ _ => rfl)) (pv 6)) pa_nil)))) pa_nil)) pa_nil)) (nomark _))) ?_)))))))))), ?_⟩
    · rintro D' σ H' ⟨⟨n, b, w', D, ns⟩, ⟨v10, v11, L, qs, es, rfl, u, hD, d1, d2, hL, l1, l2, hP, hC, hlen⟩, nx⟩
      have lq : qs.length = es.length := Paired.length hP
      refine ⟨_, rfl, rfl, _, rfl, ?_⟩
      refine ite2 (fun _ => ?_) (fun _ => nx _ _ ⟨v10, v11, L, qs, es, rfl, u, hD, d1, d2, hL, l1, l2, hP, hC, hlen⟩)
      refine ⟨_, rfl, L, _, rfl, SqL.of hL, fun p hp => ?_⟩
      rw [← List.map_reverse]
      exact nx _ _ (JL.move u hD d1 d2 (Same.refl H') hp (paired_rev hP) hC (fun e => List.mem_reverse) (by rw [List.length_reverse]; exact hlen))
    · rintro D' σ H' ⟨⟨n, b, w', D, ns⟩, ⟨v10, v11, L, qs, es, rfl, u, hD, d1, d2, hL, l1, l2, hP, hC, hlen⟩, nx⟩
      have lq : qs.length = es.length := Paired.length hP
      refine ⟨_, rfl, _, _, rfl, rfl, _, rfl, ?_⟩
      refine ite2 (fun _ => ?_) (fun _ => nx _ _ ⟨v10, v11, L, qs, es, rfl, u, hD, d1, d2, hL, l1, l2, hP, hC, hlen⟩)
      have pm : ∀ idx : List Nat, pickI idx (qs.map V.ref) = (pickI idx qs).map V.ref := fun idx => by
        unfold pickI
        rw [List.map_filterMap]
        refine fm_congr fun i _ => ?_
        rw [List.getElem?_map]
      have z0 := Nat.le_trans (pick_len (idx2 none es.length) es) (idx_len0 es.length)
      have z1 := Nat.le_trans (pick_len (idx2 (some 1) es.length) es) (idx_len1 es.length)
      have q0 : (pickI (idx2 none es.length) qs).length = (pickI (idx2 none es.length) es).length := Paired.length (paired_pick hP _)
      have q1 : (pickI (idx2 (some 1) es.length) qs).length = (pickI (idx2 (some 1) es.length) es).length := Paired.length (paired_pick hP _)
      have hlen : es.length ≤ 1400 := hlen
      have lq' : (qs.map V.ref).length = es.length := by rw [List.length_map, lq]
      have hL : H' L = some (.lst (qs.map V.ref)) := hL
      refine ⟨_, rfl, rfl, _, rfl, ?_⟩
      refine ite2 (fun _ => ?_) (fun _ => ?_)
      · refine ⟨_, rfl, L, _, rfl, SqL.of hL, fun p1 hp1 => ?_⟩
        rw [lq', pm]
        have s1 := same_upd (o := .lst ((pickI (idx2 none es.length) qs).map V.ref)) hp1
        refine ⟨_, rfl, 1, rfl, L, _, rfl, SqL.of (s1 _ _ hL), fun p2 hp2 => ?_⟩
        rw [lq', pm]
        have s2 := same_upd (o := .lst ((pickI (idx2 (some 1) es.length) qs).map V.ref)) hp2
        have s12 := s1.trans s2
        refine ⟨p1, p2, _, _, rfl, rfl, s2 _ _ upd_same, upd_same, ?_, fun p hp => ?_⟩
        · rw [List.length_map, List.length_map, q0, q1]
          exact Nat.le_trans (show _ ≤ 1400 by omega) (by decide)
        rw [← List.map_append]
        have P12 := hP.tups (sameTups s12)
        refine nx _ _ (JL.move u hD d1 d2 s12 hp ((show PairsAt K _ (pickI (idx2 none es.length) qs) (pickI (idx2 none es.length) es) from paired_pick P12 _).app (show PairsAt K _ (pickI (idx2 (some 1) es.length) qs) (pickI (idx2 (some 1) es.length) es) from paired_pick P12 _)) hC (fun e => ?_) ?_)
        · rw [List.mem_append]
          exact mem_two
        · rw [List.length_append]
          omega
      · refine ⟨_, rfl, 1, rfl, L, _, rfl, SqL.of hL, fun p1 hp1 => ?_⟩
        rw [lq', pm]
        have s1 := same_upd (o := .lst ((pickI (idx2 (some 1) es.length) qs).map V.ref)) hp1
        refine ⟨p1, _, rfl, SqL.of upd_same, fun p2 hp2 => ?_⟩
        rw [← List.map_reverse]
        have s2 := s1.trans (same_upd (o := .lst ((pickI (idx2 (some 1) es.length) qs).reverse.map V.ref)) hp2)
        have h2 : (upd (upd H' p1 (.lst ((pickI (idx2 (some 1) es.length) qs).map V.ref))) p2 (.lst ((pickI (idx2 (some 1) es.length) qs).reverse.map V.ref))) p2 = some (.lst ((pickI (idx2 (some 1) es.length) qs).reverse.map V.ref)) := upd_same
        generalize upd (upd H' p1 (.lst ((pickI (idx2 (some 1) es.length) qs).map V.ref))) p2 (.lst ((pickI (idx2 (some 1) es.length) qs).reverse.map V.ref)) = H2 at s2 h2 ⊢
        refine ⟨_, rfl, L, _, rfl, SqL.of (s2 _ _ hL), fun p3 hp3 => ?_⟩
        rw [lq', pm]
        have s3 := same_upd (o := .lst ((pickI (idx2 none es.length) qs).map V.ref)) hp3
        refine ⟨p3, _, rfl, SqL.of upd_same, fun p4 hp4 => ?_⟩
        rw [← List.map_reverse]
        have s4 := s3.trans (same_upd (o := .lst ((pickI (idx2 none es.length) qs).reverse.map V.ref)) hp4)
        have s24 := s2.trans s4
        refine ⟨p2, p4, _, _, rfl, rfl, s4 _ _ h2, upd_same, ?_, fun p hp => ?_⟩
        · rw [List.length_map, List.length_map, List.length_reverse, List.length_reverse, q0, q1]
          exact Nat.le_trans (show _ ≤ 1400 by omega) (by decide)
        rw [← List.map_append]
        have P24 := hP.tups (sameTups s24)
        refine nx _ _ (JL.move u hD d1 d2 s24 hp ((show PairsAt K _ (pickI (idx2 (some 1) es.length) qs).reverse (pickI (idx2 (some 1) es.length) es).reverse from paired_rev (paired_pick P24 _)).app (show PairsAt K _ (pickI (idx2 none es.length) qs).reverse (pickI (idx2 none es.length) es).reverse from paired_rev (paired_pick P24 _))) hC (fun e => ?_) ?_)
        · rw [List.mem_append, List.mem_reverse, List.mem_reverse, or_comm]
          exact mem_two
        · rw [List.length_append, List.length_reverse, List.length_reverse]
          omega
    · rintro D' σ H' ⟨⟨v1, v2, v3, v5, v7, v8, v10, v11, D, n0, rest, val, tk, w', rfl, u, hD, hw, hval, tT, nT, ln⟩, kk⟩
      generalize eo : ((n0 :: rest).map fun z => ((Sum.inr z : Key), tk)) = o at hw
      have lo : o.length = (n0 :: rest).length := by rw [← eo, List.length_map]
      have dT : DueTm (some o) 1400 := fun d hd => by
        cases hd
        refine ⟨fun t ht => ?_, by omega⟩
        obtain ⟨e, he, z⟩ := mem_terms.mp ht
        rw [← eo] at he
        obtain ⟨x, hx, ex⟩ := List.mem_map.mp he
        rw [← ex] at z
        rcases z with z | z <;> rw [z]
        · exact nT x hx
        · exact tT
      obtain ⟨g1, g2, g3⟩ := lay_due dT
      have gs := shown_due dT
      have gs : (dueD (some o)).shown.length ≤ sizeLine := by rw [sizeLine_eq]; omega
      have hwr : ∃ p, w' = .ref p := by obtain ⟨p, e, _⟩ := hw; exact ⟨p, e⟩
      refine ⟨_, rfl, w', _, rfl, .inr hwr, dp_due hw, g1, g3, Nat.le_trans g2 (by decide), gs, ?_⟩
      refine ⟨_, rfl, D, rfl, ⟨_, SqL.of hD⟩, fun G hG => ?_⟩
      refine lc_list (K := K) (a := D) (xs := (n0 :: rest).map V.str) (fun j H2 => ∃ qs : List Addr, H2 G = some (.lst (qs.map V.ref)) ∧ PairsAt K H2 qs (o.take j) ∧ Same H' H2) ⟨[], upd_same, .nil, same_upd hG⟩ (fun j H2 _ ⟨_, _, _, z⟩ => SqL.of (z _ _ hD)) ?_ ?_
      · rintro j x H2 hx ⟨qs, h1, h2, h3⟩
        rw [List.getElem?_map] at hx
        cases ex : (n0 :: rest)[j]? with
        | none => rw [ex] at hx; cases hx
        | some z =>
          rw [ex] at hx
          have e : V.str z = x := Option.some.inj hx
          subst e
          have jl : j < (n0 :: rest).length := (List.getElem?_eq_some_iff.mp ex).1
          have lq : qs.length ≤ 1400 := by
            have y := Paired.length h2
            rw [List.length_take] at y
            omega
          have tk' : o.take (j + 1) = o.take j ++ [(.inr z, tk)] := by
            rw [List.take_add_one, ← eo, List.getElem?_map, ex]
            rfl
          have fin : ∀ (T : Addr), H2 T = none → ∃ acc, (upd H2 T (.tup [V.str z, kV tk])) G = some (.lst acc) ∧ acc.length < sizeLine ∧ ∃ qs : List Addr, (upd (upd H2 T (.tup [V.str z, kV tk])) G (.lst (acc ++ [V.ref T]))) G = some (.lst (qs.map V.ref)) ∧ PairsAt K (upd (upd H2 T (.tup [V.str z, kV tk])) G (.lst (acc ++ [V.ref T]))) qs (o.take (j + 1)) ∧ Same H' (upd (upd H2 T (.tup [V.str z, kV tk])) G (.lst (acc ++ [V.ref T]))) := fun T hT => by
            have sT := same_upd (o := .tup [V.str z, kV tk]) hT
            have gG := sT _ _ h1
            have tt : Tups (upd H2 T (.tup [V.str z, kV tk])) (upd (upd H2 T (.tup [V.str z, kV tk])) G (.lst (qs.map V.ref ++ [.ref T]))) := Tups.put gG fun xs y => by cases y
            refine ⟨_, gG, by rw [List.length_map]; exact Nat.lt_of_le_of_lt lq (by decide), qs ++ [T], by rw [upd_same, List.map_append]; rfl, ?_, same_put (h3.trans sT) hG⟩
            rw [tk']
            exact (h2.tups ((sameTups sT).trans tt)).snoc (x := .inr z) (tt _ _ upd_same)
          refine ⟨rfl, ?_⟩
          refine ⟨_, rfl, _, rfl, _, rfl, ?_⟩
          cases val with
          | none =>
            have hval : tk = .inr n0 := hval
            subst hval
            refine iteT ?_
            exact ⟨_, rfl, D, _, 0, _, rfl, rfl, SqL.of (h3 _ _ hD), atI_zero _ _, two_line, fun T hT => fin T hT⟩
          | some v =>
            have hval : tk = v := hval
            subst hval
            rw [show decide (kV tk = V.non) = false from decide_eq_false (by cases tk <;> intro y <;> cases y)]
            refine iteF ?_
            exact ⟨_, rfl, two_line, fun T hT => fin T hT⟩
      · rintro H2 ⟨qs, h1, h2, h3⟩
        rw [List.length_map, ← lo, List.take_length] at h2
        refine ⟨G, _, rfl, .inl ⟨SqL.of h1, fun p hp => ?_⟩⟩
        have hwp : DueAt K (upd H2 p (.tup (qs.map V.ref))) (.ref p) (some o) := ⟨p, rfl, qs, upd_same, h2.tups (Tups.new hp)⟩
        refine ⟨.ref p, _, rfl, .inr ⟨p, rfl⟩, dp_due hwp, g1, g3, Nat.le_trans g2 (by decide), gs, rfl, ?_⟩
        rw [decide_eq_true rfl]
        exact kk _ (u.same (h3.trans (same_upd hp)))
    -- many, base, way
    refine ⟨_, rfl, pu, g, c, 300, rfl, hp, by decide, by decide, fun H1 d1 u1 a0 a1 => ⟨_, _, rfl, rfl, _, _, rfl, rfl, ⟨by decide, by decide, by decide⟩, _, rfl, _, _, rfl, rfl, ⟨by decide, by decide, by decide⟩, pu, g, c, _, rfl, u1.p, by decide, by decide, fun H2 d2 u2 b0 b1 => ⟨_, _, rfl, rfl, _, rfl, pu, g, c, 4, rfl, u2.p, by decide, by decide, fun H3 d3 u3 c0 c1 => ⟨(show 3 ≤ sizeLine by decide), fun T hT => ?_⟩⟩⟩⟩
    have u03 := (u1.trans u2).trans u3
    refine ⟨T, _, rfl, SqT.of upd_same, rfl, _, _, rfl, _, _, rfl, _, _, rfl, rfl, ?_⟩
    show tSeq _ _ _ [some (.ref pu), some (.int (1100 + d1)), some (.int ((10 : Int) ^ (8 : Int).toNat + d2)), some (.int d3), none, none, none, none, none, none, none, none, none, none] (upd H3 T (.tup [.int (1100 + d1), .int ((10 : Int) ^ (8 : Int).toNat + d2), .int d3]))
    have b1' : d2 < (10 : Int) ^ (8 : Int).toNat := b1
    have b0' : 0 ≤ d2 := b0
    obtain ⟨bn, ebn, bn0, bn1⟩ : ∃ bn : Nat, (10 : Int) ^ (8 : Int).toNat + d2 = (bn : Int) ∧ 10 ^ 8 ≤ bn ∧ bn < 2 * 10 ^ 8 := by
      have e : (10 : Int) ^ (8 : Int).toNat = 100000000 := by decide
      rw [e] at b1' ⊢
      exact ⟨(100000000 + d2).toNat, by omega, by omega, by omega⟩
    obtain ⟨n, en, n0, n1⟩ : ∃ n : Nat, (1100 + d1 : Int) = (n : Int) ∧ 1100 ≤ n ∧ n < 1400 := by
      have a1' : d1 < 300 := a1
      exact ⟨(1100 + d1).toNat, by omega, by omega, by omega⟩
    have u4 := u03.new (o := .tup [.int (1100 + d1), .int ((10 : Int) ^ (8 : Int).toNat + d2), .int d3]) hT
    rw [ebn, en] at u4 ⊢
    generalize upd H3 T (.tup [.int (n : Int), .int (bn : Int), .int d3]) = H4 at u4 ⊢
    have lo : ∀ k : Nat, k < 1400 → 0 ≤ (bn : Int) + (k : Int) ∧ (bn : Int) + (k : Int) < 10 ^ 9 := fun k hk => by constructor <;> omega
    -- names
    refine ⟨_, rfl, (n : Int), rfl, by omega, by omega, fun D hD => ?_⟩
    have hD0 := u4.free hD
    obtain ⟨dn1, dn2, _⟩ := hp.notNone hD0
    rw [Int.toNat_natCast]
    refine lc_range (fun i H' => H' D = some (.lst ((chainN bn i).map V.str)) ∧ Same H4 H') ⟨upd_same, same_upd hD⟩ ?_ ?_
    · rintro i H' hi ⟨h1, h2⟩
      obtain ⟨z0, z1⟩ := lo i (by omega)
      refine ⟨rfl, ?_⟩
      have ei : (bn : Int) + (0 + (i : Nat)) = ((bn + i : Nat) : Int) := by omega
      refine ⟨_, rfl, _, rfl, _, _, rfl, rfl, _, rfl, log_of (by rw [Int.zero_add]; exact z0) (by rw [Int.zero_add]; exact Int.lt_trans z1 (by decide)), _, _, rfl, rfl, ?_, _, h1, ?_, ?_, same_put h2 hD⟩
      · exact fits (Tx.lit (z := "?z.") (n := 3) (by decide +kernel)) (Tx.num (i := (bn : Int) + (0 + (i : Nat))) (by rw [Int.zero_add]; exact z0) (by rw [Int.zero_add]; exact Int.lt_trans z1 (by decide))) (by decide)
      · rw [List.length_map]
        unfold chainN
        rw [List.length_map, List.length_range]
        exact Nat.lt_of_lt_of_le (show i < 1400 by omega) (by decide)
      · have tk : chainN bn (i + 1) = chainN bn i ++ [nmZ ((bn + i : Nat) : Int)] := by
          unfold chainN
          rw [List.range_succ, List.map_append]
          rfl
        rw [upd_same, tk, List.map_append, ← ei]
        rfl
    rintro H5 ⟨h1, s5⟩
    have u5 := u4.same s5
    generalize ens : chainN bn n = ns at h1
    have lns : ns.length = n := by rw [← ens]; unfold chainN; rw [List.length_map, List.length_range]
    have nsAsc : Asc ns := by rw [← ens]; exact chain_asc bn0 (by omega)
    have nsNm : ∀ z ∈ ns, Nm (.inr z) := fun z hz => by
      rw [← ens] at hz
      unfold chainN at hz
      obtain ⟨k, hk, e⟩ := List.mem_map.mp hz
      have hk := List.mem_range.mp hk
      rw [← e]
      exact nmZ_nm (by omega) (by omega)
    -- pairs
    refine ⟨Nat.zero_le _, fun L hL => ?_⟩
    have DL : D ≠ L := ne_of_none h1 hL
    have s6 := same_upd (o := .lst []) hL
    have u6 := u5.same s6
    have hL0 := u5.free hL
    obtain ⟨ln1, ln2, _⟩ := hp.notNone hL0
    refine ⟨_, rfl, _, rfl, 1, rfl, D, _, rfl, SqL.of (s6 _ _ h1), fun D2 hD2 => ?_⟩
    have s7 := s6.trans (same_upd (o := .lst (cutV (ns.map V.str) (some 1) none)) hD2)
    have u7 := u5.same s7
    have hD20 := u6.free hD2
    obtain ⟨dm1, dm2, _⟩ := hp.notNone hD20
    have LD2 : L ≠ D2 := fun z => by rw [← z, upd_same] at hD2; cases hD2
    have lc : (cutV (ns.map V.str) (some 1) none).length = n - 1 := by rw [cut1_len, List.length_map, lns]
    refine ⟨D, D2, _, _, rfl, SqL.of (s7 _ _ h1), SqL.of upd_same, for_it (walk_zip (K := K) (a := D) (b := D2) (xs := ns.map V.str) (ys := cutV (ns.map V.str) (some 1) none) (n := n - 1) (by rw [lc, List.length_map, lns]; omega))
      (fun j σ H' => ∃ (v10 v11 : Option V) (qs : List Addr) (es : Eqs), σ = [some (.ref pu), some (.int (n : Int)), some (.int (bn : Int)), some (.int d3), some (.ref D), some (.ref L), none, none, none, none, v10, v11, none, none] ∧ Ku pu g c H H' ∧ H' D = some (.lst (ns.map V.str)) ∧
        H' D2 = some (.lst (cutV (ns.map V.str) (some 1) none)) ∧ H' L = some (.lst (qs.map V.ref)) ∧ PairsAt K H' qs es ∧ es.length = j ∧ ∀ (i : Nat) (e : Key × Key), es[i]? = some e → ∃ x y, ns[i]? = some x ∧ ns[i + 1]? = some y ∧ (e = (.inr x, .inr y) ∨ e = (.inr y, .inr x)))
      ⟨none, none, [], [], rfl, u7, s7 _ _ h1, upd_same, by rw [upd_ne LD2, upd_same]; rfl, .nil, rfl, fun i e h => by simp at h⟩ (fun j σ H' _ ⟨_, _, _, _, _, _, z1, z2, _⟩ => ⟨SqL.of z1, SqL.of z2⟩) ?_ ?_⟩
    · rintro j x σ H' H8 hj ⟨v10, v11, qs, es, rfl, u, hDd, hD2d, hLd, pP, le, nb⟩ ⟨T2, x1, y1, rfl, hT2, rfl, e1, e2⟩
      have jl : j + 1 < ns.length := by omega
      have e1 : (ns.map V.str)[j]? = some x1 := e1
      have e2 : (cutV (ns.map V.str) (some 1) none)[j]? = some y1 := e2
      rw [cut1_get] at e2
      rw [List.getElem?_map, List.getElem?_eq_getElem (by omega)] at e1
      rw [List.getElem?_map, List.getElem?_eq_getElem jl] at e2
      cases e1
      cases e2
      have uT := u.new (o := .tup [.str ns[j], .str ns[j + 1]]) hT2
      have sT : Same H' (upd H' T2 (.tup [.str ns[j], .str ns[j + 1]])) := same_upd hT2
      refine ⟨T2, _, rfl, SqT.of upd_same, rfl, _, _, rfl, _, _, rfl, rfl, ?_⟩
      have lqs : qs.length = es.length := Paired.length pP
      refine ⟨_, rfl, .inl ⟨rfl, _, SqL.of (sT _ _ hLd)⟩, _, rfl, pu, g, c, _, rfl, uT.p, by decide, by decide, fun H9 dd u9 _ _ => ⟨rfl, _, rfl, ?_⟩⟩
      have hL9 := u9.at (sT _ _ hLd) ln1 ln2
      have fin : ∀ (p q : Str) (T3 : Addr), H9 T3 = none → (((Sum.inr p : Key), (Sum.inr q : Key)) = (.inr ns[j], .inr ns[j + 1]) ∨ ((Sum.inr p : Key), (Sum.inr q : Key)) = (.inr ns[j + 1], .inr ns[j])) →
          (upd H9 T3 (.tup [V.str p, V.str q])) L = some (.lst (qs.map V.ref)) ∧ (qs.map V.ref).length < sizeLine ∧ ∃ (v10 v11 : Option V) (qs' : List Addr) (es' : Eqs), ([some (.ref pu), some (.int (n : Int)), some (.int (bn : Int)), some (.int d3), some (.ref D), some (.ref L), none, none, none, none, some (.str ns[j]), some (.str ns[j + 1]), none, none] : L2.St) = [some (.ref pu), some (.int (n : Int)), some (.int (bn : Int)), some (.int d3), some (.ref D), some (.ref L), none, none, none, none, v10, v11, none, none] ∧
            Ku pu g c H (upd (upd H9 T3 (.tup [V.str p, V.str q])) L (.lst (qs.map V.ref ++ [.ref T3]))) ∧ (upd (upd H9 T3 (.tup [V.str p, V.str q])) L (.lst (qs.map V.ref ++ [.ref T3]))) D = some (.lst (ns.map V.str)) ∧ (upd (upd H9 T3 (.tup [V.str p, V.str q])) L (.lst (qs.map V.ref ++ [.ref T3]))) D2 = some (.lst (cutV (ns.map V.str) (some 1) none)) ∧
            (upd (upd H9 T3 (.tup [V.str p, V.str q])) L (.lst (qs.map V.ref ++ [.ref T3]))) L = some (.lst (qs'.map V.ref)) ∧ PairsAt K (upd (upd H9 T3 (.tup [V.str p, V.str q])) L (.lst (qs.map V.ref ++ [.ref T3]))) qs' es' ∧ es'.length = j + 1 ∧
            ∀ (i : Nat) (e : Key × Key), es'[i]? = some e → ∃ x y, ns[i]? = some x ∧ ns[i + 1]? = some y ∧ (e = (.inr x, .inr y) ∨ e = (.inr y, .inr x)) := fun p q T3 hT3 ey => by
        have s3 := same_upd (o := .tup [V.str p, V.str q]) hT3
        have gL := s3 _ _ hL9
        have tt : Tups (upd H9 T3 (.tup [V.str p, V.str q])) (upd (upd H9 T3 (.tup [V.str p, V.str q])) L (.lst (qs.map V.ref ++ [.ref T3]))) := Tups.put gL fun xs z => by cases z
        refine ⟨gL, by rw [List.length_map]; exact Nat.lt_of_lt_of_le (show _ < 1400 by omega) (by decide), _, _, qs ++ [T3], es ++ [(.inr p, .inr q)], rfl, ((uT.trans u9).same s3).put hL0, by rw [upd_ne DL]; exact s3 _ _ (u9.at (sT _ _ hDd) dn1 dn2), by rw [upd_ne LD2.symm]; exact s3 _ _ (u9.at (sT _ _ hD2d) dm1 dm2), by rw [upd_same, List.map_append]; rfl,
          (pP.tups ((sameTups sT).trans (u9.tups.trans ((sameTups s3).trans tt)))).snoc (x := .inr p) (y := .inr q) (tt _ _ upd_same), by rw [List.length_append, le]; rfl, fun i e he => ?_⟩
        by_cases z : i < es.length
        · rw [List.getElem?_append_left z] at he
          exact nb i e he
        · have iz : i = j := by
            have := (List.getElem?_eq_some_iff.mp he).1
            rw [List.length_append, List.length_singleton] at this
            omega
          subst iz
          rw [List.getElem?_append_right (by omega), le, Nat.sub_self] at he
          have he : ((Sum.inr p : Key), (Sum.inr q : Key)) = e := Option.some.inj he
          exact ⟨_, _, List.getElem?_eq_getElem (by omega), List.getElem?_eq_getElem jl, by rw [← he]; exact ey⟩
      refine ite2 (fun _ => ?_) (fun _ => ?_)
      · refine ⟨_, rfl, _, rfl, two_line, fun T3 hT3 => ?_⟩
        obtain ⟨f1, f2, f3⟩ := fin _ _ T3 hT3 (.inl rfl)
        exact ⟨L, _, _, rfl, rfl, f1, f2, f3⟩
      · refine ⟨_, rfl, _, rfl, two_line, fun T3 hT3 => ?_⟩
        obtain ⟨f1, f2, f3⟩ := fin _ _ T3 hT3 (.inr rfl)
        exact ⟨L, _, _, rfl, rfl, f1, f2, f3⟩
    · rintro σ H8 ⟨v10, v11, qs, es, rfl, u8, hD8, _, hL8, pP, le, nb⟩
      have ch : Chain ns es := ⟨fun e he => by
        obtain ⟨i, hi⟩ := List.mem_iff_getElem?.mp he
        obtain ⟨x, y, q1, q2, q3⟩ := nb i e hi
        exact ⟨i, x, y, q1, q2, q3⟩, fun j x y q1 q2 => by
        have jl : j < es.length := by
          have := (List.getElem?_eq_some_iff.mp q2).1
          omega
        obtain ⟨x', y', r1, r2, r3⟩ := nb j _ (List.getElem?_eq_getElem jl)
        rw [q1] at r1
        rw [q2] at r2
        cases r1
        cases r2
        exact r3.imp (fun z => by rw [← z]; exact List.getElem_mem jl) (fun z => by rw [← z]; exact List.getElem_mem jl)⟩
      refine ⟨((n : Int), (bn : Int), d3, D, ns), ⟨v10, v11, L, qs, es, rfl, u8, hD8, dn1, dn2, hL8, ln1, ln2, pP, ch, by omega⟩, ?_⟩
      rintro σ H9 ⟨v10, v11, L, qs, es, rfl, J⟩
      refine ⟨((n : Int), (bn : Int), d3, D, ns), ⟨v10, v11, L, qs, es, rfl, J⟩, ?_⟩
      rintro σ H9 ⟨v10, v11, L, qs, es, rfl, u9, hD9, _, _, hL9, l1, l2, pP, ch, hlen⟩
      have hD9 : H9 D = some (.lst (ns.map V.str)) := hD9
      have ch : Chain ns es := ch
      have hL9 : H9 L = some (.lst (qs.map V.ref)) := hL9
      obtain ⟨n0', rest, ens2⟩ : ∃ n0' rest, ns = n0' :: rest := by
        cases ns with
        | nil => simp at lns; omega
        | cons a r => exact ⟨a, r, rfl⟩
      have lqs : qs.length = es.length := Paired.length pP
      have nsV : ∀ z ∈ ns, isVar (.inr z) = true := fun z hz => (nsNm z hz).1
      have esT : ∀ t ∈ terms es, Tm t := fun t ht => by
        obtain ⟨z, hz, e⟩ := (ch.terms (by omega) t).mp ht
        rw [e]
        exact (nsNm z hz).2
      have at0 : atI (ns.map V.str) 0 = some (.str n0') := by rw [ens2]; exact atI_zero _ _
      obtain ⟨nl, enl⟩ : ∃ nl, ns[n - 1]? = some nl := ⟨_, List.getElem?_eq_getElem (by omega)⟩
      have atL : atI (ns.map V.str) (-1) = some (.str nl) := by
        unfold atI ixN
        rw [if_neg (by decide), List.length_map, lns, if_pos (by omega)]
        show (ns.map V.str)[((-1 : Int) + (n : Nat)).toNat]? = _
        rw [show ((-1 : Int) + (n : Nat)).toNat = n - 1 by omega, List.getElem?_map, enl]
        rfl
      -- value, end
      refine ⟨_, rfl, (show 4 ≤ sizeLine by decide), fun q hq => ?_⟩
      have ua := u9.new (o := .lst [.non, .non, .int 7, .str "bo"]) hq
      obtain ⟨qn1, qn2, _⟩ := hp.notNone (u9.free hq)
      refine ⟨pu, g, c, ua.p, .inl ⟨q, _, rfl, qn1, qn2, upd_same, by simp, (show 4 ≤ 10 ^ 9 by decide), fun HA i xv uA hxv => ?_⟩⟩
      have sq := same_upd (o := .lst [.non, .non, .int 7, .str "bo"]) hq
      have uA9 := ua.trans uA
      have hDA := uA.at (sq _ _ hD9) dn1 dn2
      refine ⟨_, rfl, _, rfl, D, _, 0, _, rfl, rfl, SqL.of hDA, at0, _, rfl, _, rfl, D, _, -1, _, rfl, rfl, SqL.of hDA, atL, two_line, fun q2 hq2 => ?_⟩
      have ub := uA9.new (o := .lst [.str n0', .str nl]) hq2
      obtain ⟨qm1, qm2, _⟩ := hp.notNone (uA9.free hq2)
      refine ⟨pu, g, c, ub.p, .inl ⟨q2, _, rfl, qm1, qm2, upd_same, by simp, (show 2 ≤ 10 ^ 9 by decide), fun HB i2 ev uB hev => ⟨two_line, fun T3 hT3 => ?_⟩⟩⟩
      have sq2 := same_upd (o := .lst [.str n0', .str nl]) hq2
      have uB9 := ub.trans uB
      have uC := uB9.new (o := .tup [xv, ev]) hT3
      have sC := same_upd (o := .tup [xv, ev]) hT3
      have hDC := sC _ _ (uB.at (sq2 _ _ hDA) dn1 dn2)
      have hLC := sC _ _ (uB.at (sq2 _ _ (uA.at (sq _ _ hL9) l1 l2)) l1 l2)
      have tC : Tups H9 (upd HB T3 (.tup [xv, ev])) := (sameTups sq).trans (uA.tups.trans ((sameTups sq2).trans (uB.tups.trans (sameTups sC))))
      have pPC := pP.tups tC
      refine ⟨T3, _, rfl, SqT.of upd_same, rfl, _, _, rfl, _, _, rfl, rfl, ?_⟩
      generalize upd HB T3 (.tup [xv, ev]) = HC at uC hDC hLC pPC ⊢
      obtain ⟨en, een, enm⟩ : ∃ en : Str, ev = .str en ∧ en ∈ ns := by
        match i2, hev with
        | 0, e => exact ⟨n0', (Option.some.inj e).symm, by rw [ens2]; exact List.mem_cons_self⟩
        | 1, e => exact ⟨nl, (Option.some.inj e).symm, List.mem_of_getElem? enl⟩
        | k + 2, e => exact absurd e (by simp)
      subst een
      obtain ⟨val, exv, hval⟩ : ∃ val : Option Key, xv = (match val with | none => .non | some v => kV v) ∧ ∀ v, val = some v → isVar v = false ∧ Tm v := by
        match i, hxv with
        | 0, e => exact ⟨none, (Option.some.inj e).symm, fun v h => nomatch h⟩
        | 1, e => exact ⟨none, (Option.some.inj e).symm, fun v h => nomatch h⟩
        | 2, e => exact ⟨some (.inl 7), (Option.some.inj e).symm, fun v h => by cases h; exact ⟨rfl, by show (7 : Int).natAbs ≤ 10 ^ 9; decide⟩⟩
        | 3, e => exact ⟨some (.inr "bo"), (Option.some.inj e).symm, fun v h => by cases h; exact ⟨by decide +kernel, Tx.tm (n := 2) (Tx.lit (by decide +kernel)) (by decide)⟩⟩
        | k + 4, e => exact absurd e (by simp)
      -- what told gives, by the list more
      have goOn : ∀ (me : Eqs) (tk : Key), (match val with | none => me = [] ∧ tk = .inr n0' | some v => me = [(.inr en, v)] ∧ tk = v) → (∀ t ∈ terms me, Tm t) ∧ me.length ≤ 1 ∧ Tm tk ∧ told (es ++ me) = some (ns.map fun z => (.inr z, tk)) ∧ told (me ++ es) = some (ns.map fun z => (.inr z, tk)) := fun me tk h => by
        have chn : Chain (n0' :: rest) es := by rw [← ens2]; exact ch
        have asn : Asc (n0' :: rest) := by rw [← ens2]; exact nsAsc
        have ln2 : 2 ≤ (n0' :: rest).length := by rw [← ens2]; omega
        have vn : ∀ z ∈ n0' :: rest, isVar (.inr z) = true := by rw [← ens2]; exact nsV
        cases val with
        | none =>
          obtain ⟨rfl, rfl⟩ := h
          have q := chain_told chn asn ln2 vn
          rw [← ens2] at q
          exact ⟨fun t ht => (nomatch ht), Nat.zero_le _, (nsNm n0' (by rw [ens2]; exact List.mem_cons_self)).2, by rw [List.append_nil]; exact q, q⟩
        | some v =>
          obtain ⟨rfl, rfl⟩ := h
          obtain ⟨vv, vT⟩ := hval tk rfl
          have q1 := chain_told_val (es' := es ++ [(.inr en, tk)]) chn asn ln2 vn vv (by rw [← ens2]; exact enm) fun e => by rw [List.mem_append, List.mem_singleton]
          have q2 := chain_told_val (es' := [(.inr en, tk)] ++ es) chn asn ln2 vn vv (by rw [← ens2]; exact enm) fun e => by rw [List.mem_append, List.mem_singleton, or_comm]
          rw [← ens2] at q1 q2
          refine ⟨fun t ht => ?_, Nat.le_refl _, vT, q1, q2⟩
          obtain ⟨e, he, z⟩ := mem_terms.mp ht
          rw [List.mem_singleton.mp he] at z
          rcases z with z | z <;> rw [z]
          · exact (nsNm en enm).2
          · exact vT
      have hlen : es.length ≤ 1400 := hlen
      cases val with
      | none =>
        have exv : xv = .non := exv
        subst exv
        refine ⟨_, rfl, _, rfl, ?_⟩
        refine iteT ?_
        refine ⟨Nat.zero_le _, fun mo hmo => ?_⟩
        have sD := same_upd (o := .lst []) hmo
        have hmoH := uC.free hmo
        have hmoD : (upd HC mo (.lst [])) mo = some (.lst (([] : List Addr).map V.ref)) := upd_same
        have pmD : PairsAt K (upd HC mo (.lst [])) [] [] := .nil
        generalize upd HC mo (.lst []) = HD at sD hmoD pmD ⊢
        obtain ⟨mT, ml, tT, q1, q2⟩ := goOn ([] : Eqs) (.inr n0') ⟨rfl, rfl⟩
        have uD := uC.same sD
        obtain ⟨mn1, mn2, _⟩ := hp.notNone hmoH
        have hDD := sD _ _ hDC
        have hLD := sD _ _ hLC
        have pPD := pPC.tups (sameTups sD)
        refine ⟨_, rfl, pu, g, c, _, rfl, uD.p, by decide, by decide, fun HE dd uE _ _ => ⟨rfl, _, rfl, ?_⟩⟩
        have hDE := uE.at hDD dn1 dn2
        have hLE := uE.at hLD l1 l2
        have hmoE := uE.at hmoD mn1 mn2
        have pPE := pPD.tups uE.tups
        have pmE := pmD.tups uE.tups
        have lmq : ([] : List Addr).length ≤ 1 := by first | exact Nat.zero_le _ | exact Nat.le_refl _
        have ln14 : ns.length ≤ 1400 := by omega
        refine ite2 (fun _ => ?_) (fun _ => ?_)
        · refine ⟨_, rfl, _, rfl, L, mo, _, _, rfl, rfl, hLE, hmoE, ?_, fun p hp' => ⟨p, _, rfl, .inl ⟨SqL.of upd_same, fun t ht => ?_⟩⟩⟩
          · rw [List.length_map, List.length_map]
            exact Nat.le_trans (show _ ≤ 1500 by omega) (by decide)
          have s2 := (same_upd (o := .lst (qs.map V.ref ++ ([] : List Addr).map V.ref)) hp').trans (same_upd (o := .tup (qs.map V.ref ++ ([] : List Addr).map V.ref)) ht)
          refine ⟨t, es ++ ([] : Eqs), _, rfl, ⟨qs ++ ([] : List Addr), by rw [upd_same, List.map_append], (pPE.tups (sameTups s2)).app (pmE.tups (sameTups s2))⟩, q1, tm_app esT mT, by rw [List.length_append]; omega, fun HF w1 sF dF => ⟨?_, fun H'' u'' => k H'' u''⟩⟩
          have sEF := s2.trans sF
          have hDF := sEF _ _ hDE
          rw [ens2] at hDF dF
          exact ⟨_, _, _, _, _, _, _, _, D, n0', rest, none, (.inr n0'), w1, rfl, (uD.trans uE).same sEF, hDF, dF, rfl, tT, fun z hz => (nsNm z (by rw [ens2]; exact hz)).2, by rw [← ens2]; omega⟩
        · refine ⟨_, rfl, _, rfl, mo, L, _, _, rfl, rfl, hmoE, hLE, ?_, fun p hp' => ⟨p, _, rfl, .inl ⟨SqL.of upd_same, fun t ht => ?_⟩⟩⟩
          · rw [List.length_map, List.length_map]
            exact Nat.le_trans (show _ ≤ 1500 by omega) (by decide)
          have s2 := (same_upd (o := .lst (([] : List Addr).map V.ref ++ qs.map V.ref)) hp').trans (same_upd (o := .tup (([] : List Addr).map V.ref ++ qs.map V.ref)) ht)
          refine ⟨t, ([] : Eqs) ++ es, _, rfl, ⟨([] : List Addr) ++ qs, by rw [upd_same, List.map_append], (pmE.tups (sameTups s2)).app (pPE.tups (sameTups s2))⟩, q2, tm_app mT esT, by rw [List.length_append]; omega, fun HF w1 sF dF => ⟨?_, fun H'' u'' => k H'' u''⟩⟩
          have sEF := s2.trans sF
          have hDF := sEF _ _ hDE
          rw [ens2] at hDF dF
          exact ⟨_, _, _, _, _, _, _, _, D, n0', rest, none, (.inr n0'), w1, rfl, (uD.trans uE).same sEF, hDF, dF, rfl, tT, fun z hz => (nsNm z (by rw [ens2]; exact hz)).2, by rw [← ens2]; omega⟩
      | some v =>
        have exv : xv = kV v := exv
        subst exv
        refine ⟨_, rfl, _, rfl, ?_⟩
        rw [show decide (kV v = V.non) = false from decide_eq_false (by cases v <;> intro y <;> cases y)]
        refine iteF ?_
        refine ⟨_, rfl, _, rfl, two_line, fun T4 hT4 => ⟨(show 1 ≤ sizeLine by decide), fun mo hmo => ?_⟩⟩
        have sT := same_upd (o := .tup [.str en, kV v]) hT4
        have sD := sT.trans (same_upd (o := .lst [.ref T4]) hmo)
        have hmoH := (uC.same sT).free hmo
        have hmoD : (upd (upd HC T4 (.tup [.str en, kV v])) mo (.lst [.ref T4])) mo = some (.lst (([T4] : List Addr).map V.ref)) := upd_same
        have pmD : PairsAt K (upd (upd HC T4 (.tup [.str en, kV v])) mo (.lst [.ref T4])) [T4] [(.inr en, v)] := .cons ((same_upd (o := .lst [.ref T4]) hmo) _ _ upd_same) .nil
        generalize upd (upd HC T4 (.tup [.str en, kV v])) mo (.lst [.ref T4]) = HD at sD hmoD pmD ⊢
        obtain ⟨mT, ml, tT, q1, q2⟩ := goOn ([(.inr en, v)] : Eqs) v ⟨rfl, rfl⟩
        have uD := uC.same sD
        obtain ⟨mn1, mn2, _⟩ := hp.notNone hmoH
        have hDD := sD _ _ hDC
        have hLD := sD _ _ hLC
        have pPD := pPC.tups (sameTups sD)
        refine ⟨_, rfl, pu, g, c, _, rfl, uD.p, by decide, by decide, fun HE dd uE _ _ => ⟨rfl, _, rfl, ?_⟩⟩
        have hDE := uE.at hDD dn1 dn2
        have hLE := uE.at hLD l1 l2
        have hmoE := uE.at hmoD mn1 mn2
        have pPE := pPD.tups uE.tups
        have pmE := pmD.tups uE.tups
        have lmq : ([T4] : List Addr).length ≤ 1 := by first | exact Nat.zero_le _ | exact Nat.le_refl _
        have ln14 : ns.length ≤ 1400 := by omega
        refine ite2 (fun _ => ?_) (fun _ => ?_)
        · refine ⟨_, rfl, _, rfl, L, mo, _, _, rfl, rfl, hLE, hmoE, ?_, fun p hp' => ⟨p, _, rfl, .inl ⟨SqL.of upd_same, fun t ht => ?_⟩⟩⟩
          · rw [List.length_map, List.length_map]
            exact Nat.le_trans (show _ ≤ 1500 by omega) (by decide)
          have s2 := (same_upd (o := .lst (qs.map V.ref ++ ([T4] : List Addr).map V.ref)) hp').trans (same_upd (o := .tup (qs.map V.ref ++ ([T4] : List Addr).map V.ref)) ht)
          refine ⟨t, es ++ ([(.inr en, v)] : Eqs), _, rfl, ⟨qs ++ ([T4] : List Addr), by rw [upd_same, List.map_append], (pPE.tups (sameTups s2)).app (pmE.tups (sameTups s2))⟩, q1, tm_app esT mT, by rw [List.length_append]; omega, fun HF w1 sF dF => ⟨?_, fun H'' u'' => k H'' u''⟩⟩
          have sEF := s2.trans sF
          have hDF := sEF _ _ hDE
          rw [ens2] at hDF dF
          exact ⟨_, _, _, _, _, _, _, _, D, n0', rest, (some v), v, w1, rfl, (uD.trans uE).same sEF, hDF, dF, rfl, tT, fun z hz => (nsNm z (by rw [ens2]; exact hz)).2, by rw [← ens2]; omega⟩
        · refine ⟨_, rfl, _, rfl, mo, L, _, _, rfl, rfl, hmoE, hLE, ?_, fun p hp' => ⟨p, _, rfl, .inl ⟨SqL.of upd_same, fun t ht => ?_⟩⟩⟩
          · rw [List.length_map, List.length_map]
            exact Nat.le_trans (show _ ≤ 1500 by omega) (by decide)
          have s2 := (same_upd (o := .lst (([T4] : List Addr).map V.ref ++ qs.map V.ref)) hp').trans (same_upd (o := .tup (([T4] : List Addr).map V.ref ++ qs.map V.ref)) ht)
          refine ⟨t, ([(.inr en, v)] : Eqs) ++ es, _, rfl, ⟨([T4] : List Addr) ++ qs, by rw [upd_same, List.map_append], (pmE.tups (sameTups s2)).app (pPE.tups (sameTups s2))⟩, q2, tm_app mT esT, by rw [List.length_append]; omega, fun HF w1 sF dF => ⟨?_, fun H'' u'' => k H'' u''⟩⟩
          have sEF := s2.trans sF
          have hDF := sEF _ _ hDE
          rw [ens2] at hDF dF
          exact ⟨_, _, _, _, _, _, _, _, D, n0', rest, (some v), v, w1, rfl, (uD.trans uE).same sEF, hDF, dF, rfl, tT, fun z hz => (nsNm z (by rw [ens2]; exact hz)).2, by rw [← ens2]; omega⟩
end
end U6
set_option Elab.async false
set_option linter.all false
set_option maxRecDepth 100000
set_option maxHeartbeats 8000000
/-! law: the plain part. -/
namespace U6
open PySem PySem.Spec PyProof.Rows L2 U6R
theorem nd_len {α : Type} [DecidableEq α] : ∀ {xs ys : List α}, xs.Nodup → (∀ x ∈ xs, x ∈ ys) → xs.length ≤ ys.length
  | [], _, _, _ => Nat.zero_le _
  | x :: xs, ys, nd, h => by
    obtain ⟨n1, n2⟩ := List.nodup_cons.mp nd
    have q := nd_len (xs := xs) (ys := ys.erase x) n2 fun y hy => (List.mem_erase_of_ne fun z => n1 (by rw [← z]; exact hy)).mpr (h y (List.mem_cons_of_mem _ hy))
    have hx := h x List.mem_cons_self
    rw [List.length_erase_of_mem hx] at q
    have := List.length_pos_of_mem hx
    rw [List.length_cons]
    omega
def kFu : Key := .inr ("further" : Str)
def kBe : Key := .inr ("beyond" : Str)
theorem tmFu : Tm kFu := Tx.tm (n := 10) (Tx.lit (by decide +kernel)) (by decide)
theorem tmBe : Tm kBe := Tx.tm (n := 10) (Tx.lit (by decide +kernel)) (by decide)
structure MenuOk (es : Eqs) (menu : List Key) : Prop where
  sub : ∀ c, c ∈ terms es → isVar c = false → c ∈ menu
  tm : ∀ x ∈ menu, Tm x
  two : ∃ m1 m2, m1 ∈ menu ∧ m2 ∈ menu ∧ m1 ≠ m2
  len : menu.length ≤ 5
theorem td_tm {ns ks : List Key} {es : Eqs} (ht : ∀ t ∈ terms es, Td ns ks t) (hn : ∀ x ∈ ns, Nm x) (hk : ∀ x ∈ ks, Vl x) : ∀ t ∈ terms es, Tm t := fun t h => by
  rcases ht t h with z | z
  · exact (hn t z).2
  · exact (hk t z).2.1
theorem td_vars {ns ks : List Key} {es : Eqs} (ht : ∀ t ∈ terms es, Td ns ks t) (hk : ∀ x ∈ ks, Vl x) : (vars es).length ≤ ns.length := by
  have nd : ((vars es).map (Sum.inr : Str → Key)).Nodup := List.pairwise_map.mpr ((own_nodup es).imp fun h z => h (Sum.inr.inj z))
  have q := nd_len nd (ys := ns) fun x hx => by
    obtain ⟨s, hs, e⟩ := List.mem_map.mp hx
    subst e
    obtain ⟨m, v⟩ := mem_vars.mp hs
    rcases ht _ m with z | z
    · exact z
    · rw [(hk _ z).1] at v; cases v
  rw [List.length_map] at q
  exact q
theorem td_vals {ns ks cs : List Key} {es : Eqs} (ht : ∀ t ∈ terms es, Td ns ks t) (hn : ∀ x ∈ ns, Nm x) (hk : ∀ x ∈ ks, Vl x) (c : Col false (terms es) cs) : (∀ k ∈ cs, Tm k ∧ k ≠ kFu) ∧ cs.length ≤ ks.length := by
  have inK : ∀ k ∈ cs, k ∈ ks := fun k h => by
    obtain ⟨m, v⟩ := (c.mem k).mp h
    rcases ht _ m with z | z
    · rw [(hn _ z).1] at v; cases v
    · exact z
  exact ⟨fun k h => ⟨(hk k (inK k h)).2.1, (hk k (inK k h)).2.2⟩, nd_len c.nd inK⟩
theorem menu_a {es : Eqs} (c : Col false (terms es) []) : MenuOk es ([] ++ [kFu, kBe]) where
  sub := fun k h v => (nomatch (c.mem k).mpr ⟨h, v⟩)
  tm := fun x hx => by
    rcases List.mem_cons.mp hx with z | z
    · rw [z]; exact tmFu
    · rw [List.mem_singleton.mp z]; exact tmBe
  two := ⟨kFu, kBe, List.mem_cons_self, List.mem_cons_of_mem _ List.mem_cons_self, by decide +kernel⟩
  len := by decide
theorem menu_b {es : Eqs} {k : Key} {cs : List Key} (c : Col false (terms es) (k :: cs)) (h : ∀ x ∈ k :: cs, Tm x ∧ x ≠ kFu) (hl : (k :: cs).length ≤ 3) : MenuOk es ((k :: cs) ++ [kFu]) where
  sub := fun x m v => List.mem_append_left _ ((c.mem x).mpr ⟨m, v⟩)
  tm := fun x hx => by
    rcases List.mem_append.mp hx with z | z
    · exact (h x z).1
    · rw [List.mem_singleton.mp z]; exact tmFu
  two := ⟨k, kFu, List.mem_append_left _ List.mem_cons_self, List.mem_append_right _ List.mem_cons_self, (h k List.mem_cons_self).2⟩
  len := by rw [List.length_append, List.length_singleton]; omega
theorem due_is {es : Eqs} {menu : List Key} {f : Key → Key} (u : unif es = some f) (M : MenuOk es menu) : dueOf (vars es) (sols es menu) = tell f (vars es) := by
  have G := unif_good u
  obtain ⟨m1, m2, h1, h2, ne⟩ := M.two
  unfold dueOf tell
  refine List.ext_getElem? fun i => ?_
  rw [List.getElem?_map, List.getElem?_map]
  cases e : (vars es)[i]? with
  | none =>
    have q := List.getElem?_eq_none_iff.mp e
    rw [List.getElem?_eq_none_iff.mpr (by rw [List.length_range]; exact q)]
    rfl
  | some s =>
    have q := (List.getElem?_eq_some_iff.mp e).1
    rw [List.getElem?_range q]
    show some (Sum.inr ((vars es).getD i Str.empty), dueAt (vars es) (sols es menu) i) = some (Sum.inr s, f (.inr s))
    rw [dueAt_is G M.sub h1 h2 ne e, List.getD_eq_getElem?_getD, e]
    rfl
theorem sols_ok {es : Eqs} {menu : List Key} (M : MenuOk es menu) (n : (vars es).length ≤ 4) : (lots menu (vars es).length ≠ []) ∧ (lots menu (vars es).length).length ≤ 3125 ∧ (sols es menu).length ≤ 3125 ∧ (∀ l ∈ lots menu (vars es).length, l.length = (vars es).length ∧ ∀ x ∈ l, Tm x) ∧ ∀ l ∈ sols es menu, l.length = (vars es).length ∧ ∀ x ∈ l, Tm x := by
  have a : (lots menu (vars es).length).length ≤ 3125 := by rw [lots_len]; exact pow5 M.len (by omega)
  have ok : ∀ l ∈ lots menu (vars es).length, l.length = (vars es).length ∧ ∀ x ∈ l, Tm x := fun l hl => ⟨(mem_lots.mp hl).1, fun x hx => M.tm x ((mem_lots.mp hl).2 x hx)⟩
  refine ⟨fun z => ?_, a, Nat.le_trans (List.length_filter_le _ _) a, ok, fun l hl => ok l (mem_sols.mp hl).1⟩
  obtain ⟨m1, m2, h1, h2, ne⟩ := M.two
  have q : List.replicate (vars es).length m1 ∈ lots menu (vars es).length := mem_lots.mpr ⟨List.length_replicate, fun x hx => by rw [(List.mem_replicate.mp hx).2]; exact h1⟩
  rw [z] at q
  cases q
theorem due_none {es : Eqs} {menu : List Key} (h : sols es menu = []) (M : MenuOk es menu) : told es = none := by
  cases u : unif es with
  | none => exact told_none u
  | some f =>
    obtain ⟨m1, m2, h1, _⟩ := M.two
    exact absurd h (sols_some (unif_good u) M.sub h1)
theorem due_some {es : Eqs} {menu : List Key} (h : sols es menu ≠ []) (M : MenuOk es menu) : told es = some (dueOf (vars es) (sols es menu)) := by
  cases u : unif es with
  | none => exact absurd (sols_none u menu) h
  | some f => rw [told_tell u, due_is u M]
/-- a list of what was told: what repr wants -/
theorem repr_dueL {K : PySem.W.Frag} {H : Hp} {a : Addr} {vs : List V} {os : List (Option Eqs)} {n : Nat} (h : H a = some (.lst vs)) (hv : Paired (DueAt K H) vs os) (ht : ∀ o ∈ os, DueTm o n) (hn : n ≤ 100) (hl : os.length ≤ 20) :
    Dp K H (.ref a) (.list (os.map dueD)) ∧ (PyData.list (os.map dueD)).canLay0 = true ∧ (PyData.list (os.map dueD)).showable = true ∧ (PyData.list (os.map dueD)).depth ≤ 8 ∧ (PyData.list (os.map dueD)).shown.length ≤ sizeLine := by
  obtain ⟨a1, a2, a3⟩ := lay_all (g := dueD) (n := 2) (l := os) fun o ho => lay_due (ht o ho)
  have q := dpAll_of (f := fun v : V => v) (g := dueD) (fun v o (r : DueAt K H v o) => dp_due r) hv
  rw [List.map_id'] at q
  refine ⟨.lst (SqL.of h) q, by rw [PyData.canLay0]; exact a1, by rw [PyData.showable]; exact a3, by rw [PyData.depth]; omega, ?_⟩
  have z := shown_L (B := 2013 * n + 5) (xs := os.map dueD) fun x hx => by
    obtain ⟨o, ho, e⟩ := List.mem_map.mp hx
    rw [← e]
    exact shown_due (ht o ho)
  rw [List.length_map] at z
  have z2 : (2013 * n + 5) * os.length ≤ 201305 * 20 := Nat.mul_le_mul (by omega) hl
  rw [sizeLine_eq]
  omega
/-- a list of tuples of keys, as data -/
theorem dp_lots {K : PySem.W.Frag} {H : Hp} {p : Addr} {ls : List (List Key)} (h : LotsAt H p ls) : Dp K H (.ref p) (.list (ls.map fun l => .tuple (l.map dk))) := by
  obtain ⟨ts, h1, h2⟩ := h
  exact .lst (SqL.of h1) (dpAll_of (R := fun (t : Addr) (l : List Key) => H t = some (.tup (l.map kV))) (f := V.ref) (g := fun l : List Key => PyData.tuple (l.map dk)) (fun t l r => dp_keysT (SqT.of r)) h2)
theorem shaped_lots {ls : List (List Key)} (h : ∀ l ∈ ls, ∀ x ∈ l, Tm x) : SeqAt.shaped (.list (ls.map fun l => .tuple (l.map dk))) = true := by
  obtain ⟨a, b, c⟩ := lay_all (g := fun l : List Key => PyData.tuple (l.map dk)) (n := 1) (l := ls) fun l hl => by
    obtain ⟨a, b, c⟩ := lay_keys (h l hl)
    refine ⟨?_, ?_, ?_⟩
    · show PyData.canLay0 (.tuple _) = true; rw [PyData.canLay0]; exact a
    · show PyData.depth (.tuple _) ≤ 1; rw [PyData.depth]; exact Nat.succ_le_succ b
    · show PyData.showable (.tuple _) = true; rw [PyData.showable]; exact c
  exact shaped_L a (Nat.le_trans b (by decide))
theorem eqv_lots {ls : List (List Key)} : PyData.eqv (.list (ls.map fun l => .tuple (l.map dk))) (.list []) = decide (ls = []) := by
  rw [eqvL, eqvAll_nil]
  cases ls <;> simp
theorem eqv_nilL {ks : List Key} : PyData.eqv (.list (ks.map dk)) (.list []) = decide (ks = []) := by
  rw [eqvL, eqvAll_nil]
  cases ks <;> simp
/-! ### the five of the script -/
def zA : Eqs := [(.inr "?b", .inr "?a"), (.inr "?c", .inr "?b"), (.inr "?d", .inl 5), (.inl 3, .inl 3)]
def zB : Eqs := [(.inl 3, .inl 3)]
def zC : Eqs := []
def zD : Eqs := [(.inr "?a", .inl 3), (.inl 4, .inr "?a")]
def zE : Eqs := [(.inr "?b", .inl 3), (.inl 3, .inr "?a"), (.inr "?c", .inr "?c")]
def dA : Eqs := [(.inr "?a", .inr "?a"), (.inr "?b", .inr "?a"), (.inr "?c", .inr "?a"), (.inr "?d", .inl 5)]
def dE : Eqs := [(.inr "?a", .inl 3), (.inr "?b", .inl 3), (.inr "?c", .inr "?c")]
theorem told_A : told zA = some dA := by decide +kernel
theorem told_B : told zB = some [] := by decide +kernel
theorem told_C : told zC = some [] := by decide +kernel
theorem told_D : told zD = none := by decide +kernel
theorem told_E : told zE = some dE := by decide +kernel
def tmB : Key → Bool
  | .inl i => decide (i.natAbs ≤ 10 ^ 9)
  | .inr z => decide (z.length ≤ 100) && z.cps.toList.all fun c => decide (c < 128)
theorem tm_of {t : Key} (h : tmB t = true) : Tm t := by
  cases t with
  | inl i => exact (of_decide_eq_true h : i.natAbs ≤ 10 ^ 9)
  | inr z => exact Tx.tm (Tx.lit h) (Nat.le_refl _)
theorem tms_of {es : Eqs} (h : ((terms es).all tmB) = true) : ∀ t ∈ terms es, Tm t := fun t ht => tm_of (List.all_eq_true.mp h t ht)
theorem tm_A : ∀ t ∈ terms zA, Tm t := tms_of (by decide +kernel)
theorem tm_B : ∀ t ∈ terms zB, Tm t := tms_of (by decide +kernel)
theorem tm_C : ∀ t ∈ terms zC, Tm t := tms_of (by decide +kernel)
theorem tm_D : ∀ t ∈ terms zD, Tm t := tms_of (by decide +kernel)
theorem tm_E : ∀ t ∈ terms zE, Tm t := tms_of (by decide +kernel)
theorem tm_dA : ∀ t ∈ terms dA, Tm t := tms_of (by decide +kernel)
theorem tm_dE : ∀ t ∈ terms dE, Tm t := tms_of (by decide +kernel)
def fiveO : List (Option Eqs) := [some dA, some [], some [], none, some dE]
theorem five_tm : ∀ o ∈ fiveO, DueTm o 10 := fun o ho d hd => by
  subst hd
  simp only [fiveO, List.mem_cons, Option.some.injEq, List.not_mem_nil, or_false, reduceCtorEq, false_or] at ho
  rcases ho with z | z | z | z
  · rw [z]; exact ⟨tm_dA, by decide⟩
  · rw [z]; exact ⟨fun t h => (nomatch h), by decide⟩
  · rw [z]; exact ⟨fun t h => (nomatch h), by decide⟩
  · rw [z]; exact ⟨tm_dE, by decide⟩
end U6
set_option Elab.async false
set_option linter.all false
set_option maxRecDepth 100000
set_option maxHeartbeats 8000000
/-! law. -/
namespace U6
open PySem PySem.Spec PyProof.Rows L2 U6R
def spClasses2 (K : PySem.W.Frag) : Sp := fun vs H Q _ => ∃ (r : Addr) (zs : Eqs), vs = [.ref r] ∧ EqsAt K H r zs ∧ (∀ t ∈ terms zs, Tm t) ∧ zs.length ≤ 30 ∧ ∀ H' v, Same H H' → DueAt K H' v (told zs) → Q v H'
theorem classes_use {K : PySem.W.Frag} (vs : List V) (H : Hp) (Q : VK) (E : XK) (h : spClasses2 K vs H Q E) : spClasses K vs H Q E := by
  obtain ⟨r, zs, rfl, h, sh, len, k⟩ := h
  exact ⟨r, zs, rfl, h, fun t ht => (sh t ht).sh, len, fun d hd H' p s _ he => k H' (.ref p) s (by rw [hd]; exact ⟨p, rfl, he⟩), fun hn H' s => k H' .non s (by rw [hn]; rfl)⟩
/-- the names of the script's defs that the law calls -/
def rDictL (K : PySem.W.Frag) : List V → Hp → VK → Prop := fun xs H Q => ∃ (a : Addr) (ps : List Addr) (kvs : List (Key × V)), xs = [.ref a] ∧ SqL K H a (ps.map V.ref) ∧ Paired (fun p kv => SqT K H p [kV kv.1, kv.2]) ps kvs ∧
    ∀ p, H p = none → Q (.ref p) (upd H p (.dK (mergeK [] kvs)))
theorem due_repr {K : PySem.W.Frag} {H : Hp} {v : V} {o : Option Eqs} {n : Nat} (h : DueAt K H v o) (t : DueTm o n) (hn : n ≤ 100) : ((v = .non ∧ dueD o = .none) ∨ ∃ a, v = .ref a) ∧ Dp K H v (dueD o) ∧ (dueD o).canLay0 = true ∧ (dueD o).showable = true ∧ (dueD o).depth ≤ 8 ∧ (dueD o).shown.length ≤ sizeLine := by
  obtain ⟨l1, l2, l3⟩ := lay_due t
  have sh := shown_due t
  refine ⟨?_, dp_due h, l1, l3, Nat.le_trans l2 (by decide), by rw [sizeLine_eq]; omega⟩
  cases o with
  | none => exact .inl ⟨h, rfl⟩
  | some d => obtain ⟨p, e, _⟩ := h; exact .inr ⟨p, e⟩
def tDue (K : PySem.W.Frag) (o : Option Eqs) : TE := fun _ H Q => ∀ H' v, Same H H' → DueAt K H' v o → Q v H'
def tPairs : Eqs → TA
  | [] => tNil
  | e :: es => tCons (tTup (tCons (tC (kV e.1)) (tCons (tC (kV e.2)) tNil))) (tPairs es)
theorem tPairs_go {K : PySem.W.Frag} : ∀ (es : Eqs) (σ : L2.St) (H : Hp) (Q : List V → Hp → Prop), (∀ H' (ps : List Addr), Same H H' → PairsAt K H' ps es → Q (ps.map V.ref) H') → tPairs es σ H Q
  | [], σ, H, Q, k => k H [] (Same.refl H) .nil
  | e :: es, σ, H, Q, k => ⟨two_line, fun T hT => by
      have s1 := same_upd (o := .tup [kV e.1, kV e.2]) hT
      refine tPairs_go (K := K) es σ _ _ fun H2 ps s2 hp => ?_
      exact k H2 (T :: ps) (s1.trans s2) (.cons (s2 _ _ upd_same) hp)⟩
theorem tEqs_go {K : PySem.W.Frag} (es : Eqs) (hl : es.length ≤ 20) (σ : L2.St) (H : Hp) (Q : VK) (k : ∀ H' p, Same H H' → EqsAt K H' p es → Q (.ref p) H') : tTup (tPairs es) σ H Q := by
  refine tPairs_go (K := K) es σ H _ fun H1 ps s1 hp => ?_
  refine ⟨by rw [List.length_map, Paired.length hp]; exact Nat.le_trans hl (by decide), fun T hT => ?_⟩
  have s2 := same_upd (o := .tup (ps.map V.ref)) hT
  exact k _ T (s1.trans s2) ⟨ps, upd_same, hp.tups (sameTups s2)⟩
theorem told_go {K : PySem.W.Frag} {es : Eqs} {o : Option Eqs} (ht : told es = o) (tm : ∀ t ∈ terms es, Tm t) (hl : es.length ≤ 20) : ∀ σ H Q, tDue K o σ H Q → (tCall (spTold2 K) [] E0 (tCons (tTup (tPairs es)) tNil)) σ H Q := fun σ H Q k =>
  tEqs_go (K := K) es hl σ H (fun x H1 => spTold2 K [x] H1 Q E0) fun H1 p s1 he => ⟨p, es, o, rfl, he, ht, tm, by omega, fun H2 v s2 d => k H2 v (s1.trans s2) d⟩
theorem tup_go {K : PySem.W.Frag} {es : Eqs} (hl : es.length ≤ 20) : ∀ σ H Q, tDue K (some es) σ H Q → (tTup (tPairs es)) σ H Q := fun σ H Q k =>
  tEqs_go (K := K) es hl σ H _ fun H1 p s1 he => k H1 _ s1 ⟨p, rfl, he⟩
theorem non_go {K : PySem.W.Frag} : ∀ σ H Q, tDue K none σ H Q → tC V.non σ H Q := fun σ H Q k => k H _ (Same.refl H) rfl
def tJ2 (J J' : L2.St → Hp → Prop) : TS := fun D σ H => J σ H ∧ ∀ σ' H', J' σ' H' → D.nx σ' H'
def JA (σ : L2.St) (H : Hp) : Prop := ∃ (a pu g c : Addr) (v2 v3 v4 v5 v6 v7 v8 v9 v10 v11 : Option V), σ = [some (.ref a), some (.ref pu), v2, v3, v4, v5, v6, v7, v8, v9, v10, v11, none] ∧ PurseAt H pu g c
/-- the pairs, and their names -/
structure Fx (K : PySem.W.Frag) (H : Hp) (pu g c pr ow : Addr) (es : Eqs) : Prop where
  p : PurseAt H pu g c
  q : EqsAt K H pr es
  tm : ∀ t ∈ terms es, Tm t
  le : es.length ≤ 6
  o : H ow = some (.lst ((vars es).map V.str))
  o1 : ow ≠ pu
  o2 : ow ≠ g
  lo : (vars es).length ≤ 4
theorem Fx.same {K : PySem.W.Frag} {H H' : Hp} {pu g c pr ow : Addr} {es : Eqs} (F : Fx K H pu g c pr ow es) (s : Same H H') : Fx K H' pu g c pr ow es := ⟨F.p.same s, F.q.tups (sameTups s), F.tm, F.le, s _ _ F.o, F.o1, F.o2, F.lo⟩
theorem Fx.ku {K : PySem.W.Frag} {H H' : Hp} {pu g c pr ow : Addr} {es : Eqs} (F : Fx K H pu g c pr ow es) (u : Ku pu g c H H') : Fx K H' pu g c pr ow es := ⟨u.p, F.q.tups u.tups, F.tm, F.le, u.at F.o F.o1 F.o2, F.o1, F.o2, F.lo⟩
/-- assignments that the purse does not touch -/
structure Lo (H : Hp) (pu g e : Addr) (ls : List (List Key)) : Prop where
  l : LotsAt H e ls
  n1 : e ≠ pu
  n2 : e ≠ g
theorem Lo.same {H H' : Hp} {pu g e : Addr} {ls : List (List Key)} (L : Lo H pu g e ls) (s : Same H H') : Lo H' pu g e ls := ⟨L.l.same s, L.n1, L.n2⟩
theorem Lo.ku {H H' : Hp} {pu g c e : Addr} {ls : List (List Key)} (L : Lo H pu g e ls) (u : Ku pu g c H H') : Lo H' pu g e ls := let ⟨ts, h1, h2⟩ := L.l; ⟨⟨ts, u.at h1 L.n1 L.n2, h2.tups u.tups⟩, L.n1, L.n2⟩
def J1 (K : PySem.W.Frag) (σ : L2.St) (H : Hp) : Prop := ∃ (a pu g c pr : Addr) (i : Int) (es : Eqs) (ns ks : List Key) (v3 v4 v6 v7 v8 v9 v10 v11 : Option V), σ = [some (.ref a), some (.ref pu), some (.int i), v3, v4, some (.ref pr), v6, v7, v8, v9, v10, v11, none] ∧ PurseAt H pu g c ∧ EqsAt K H pr es ∧
  (∀ t ∈ terms es, Td ns ks t) ∧ (∀ x ∈ ns, Nm x) ∧ (∀ x ∈ ks, Vl x) ∧ ns.length ≤ 4 ∧ ks.length ≤ 3 ∧ es.length ≤ 6
def J2 (K : PySem.W.Frag) (σ : L2.St) (H : Hp) : Prop := ∃ (a pu g c pr ow mn : Addr) (i : Int) (es : Eqs) (cs : List Key) (v3 v4 v8 v9 v10 v11 : Option V), σ = [some (.ref a), some (.ref pu), some (.int i), v3, v4, some (.ref pr), some (.ref ow), some (.ref mn), v8, v9, v10, v11, none] ∧ Fx K H pu g c pr ow es ∧
  H mn = some (.lst (cs.map kV)) ∧ Col false (terms es) cs ∧ (∀ k ∈ cs, Tm k ∧ k ≠ kFu) ∧ cs.length ≤ 3
def J3 (K : PySem.W.Frag) (σ : L2.St) (H : Hp) : Prop := ∃ (a pu g c pr ow ev : Addr) (i : Int) (es : Eqs) (menu : List Key) (v3 v4 v7 v9 v10 v11 : Option V), σ = [some (.ref a), some (.ref pu), some (.int i), v3, v4, some (.ref pr), some (.ref ow), v7, some (.ref ev), v9, v10, v11, none] ∧ Fx K H pu g c pr ow es ∧
  MenuOk es menu ∧ Lo H pu g ev (lots menu (vars es).length)
def J4 (K : PySem.W.Frag) (σ : L2.St) (H : Hp) : Prop := ∃ (a pu g c pr ow ev lh : Addr) (i : Int) (es : Eqs) (menu : List Key) (v3 v4 v7 v10 v11 : Option V), σ = [some (.ref a), some (.ref pu), some (.int i), v3, v4, some (.ref pr), some (.ref ow), v7, some (.ref ev), some (.ref lh), v10, v11, none] ∧ Fx K H pu g c pr ow es ∧
  MenuOk es menu ∧ Lo H pu g ev (lots menu (vars es).length) ∧ Lo H pu g lh (sols es menu)
def J5 (K : PySem.W.Frag) (σ : L2.St) (H : Hp) : Prop := ∃ (a pu g c pr ow ev lh : Addr) (i : Int) (es : Eqs) (menu : List Key) (v3 v4 v7 : Option V) (dv : V) (v11 : Option V), σ = [some (.ref a), some (.ref pu), some (.int i), v3, v4, some (.ref pr), some (.ref ow), v7, some (.ref ev), some (.ref lh), some dv, v11, none] ∧ Fx K H pu g c pr ow es ∧
  MenuOk es menu ∧ Lo H pu g ev (lots menu (vars es).length) ∧ Lo H pu g lh (sols es menu) ∧ DueAt K H dv (told es)
section
variable {P : Program} {w : World} {K : PySem.W.Frag} {mg : Str → Option Value} {base : Heap}
def spLaw (K : PySem.W.Frag) : Sp := fun vs H Q _ => ∃ (a : Addr) (ns : List Int), vs = [.ref a] ∧ SqL K H a (ns.map V.int) ∧ ∀ H', Q (.bl true) H'
def nLaw : List Str := ["_law_script", "_law_purse_here", "_law_turn", "_law_names_here", "_law_stock_here", "_law_pairs_here", "_law_own", "_law_menu", "_law_every", "_law_lots_here", "_law_due_here", "_law_told_here", "_law_lot"]
theorem scLw : FnScope nLaw ["_law_script"] (defScope sLaw) := ⟨rfl, rfl, rfl, by decide +kernel, rfl, by decide +kernel, by decide +kernel⟩
theorem ok_law {f fPu fD fNa fSt fPr fTe fLo fIT fDu fCl fSy fIf fLg fTo : Addr} {fd dPu dD dNa dSt dPr dTe dLo dIT dDu dCl dSy dIf dLg dTo : FuncData} (D : Df K mg "law" sLaw ["_law_script"] f fd) (B : Bl mg)
    (DPu : Df K mg "_law_purse" sPurse ["_law_script"] fPu dPu) (DD : Df K mg "_law_draw" sDraw ["_law_purse_here", "_law_many"] fD dD)
    (DNa : Df K mg "_law_names" sNames ["_law_purse_here", "_law_many"] fNa dNa) (GNa : FnOk P w K mg base CX0 3 fNa dNa ["_law_purse_here", "_law_many"] spNames)
    (DSt : Df K mg "_law_stock" sStock ["_law_purse_here", "_law_many"] fSt dSt) (GSt : FnOk P w K mg base CX0 3 fSt dSt ["_law_purse_here", "_law_many"] spStock)
    (DPr : Df K mg "_law_pairs" sPairs ["_law_purse_here", "_law_names_here", "_law_stock_here", "_law_many"] fPr dPr) (GPr : FnOk P w K mg base CX0 3 fPr dPr ["_law_purse_here", "_law_names_here", "_law_stock_here", "_law_many"] (spPairs K))
    (DTe : Df K mg "_law_terms" sTerms ["_law_pairs_here", "_law_is_names"] fTe dTe) (GTe : FnOk P w K mg base CX0 2 fTe dTe ["_law_pairs_here", "_law_is_names"] (spTerms K))
    (DLo : Df K mg "_law_lots" sLots ["_law_menu", "_law_size"] fLo dLo) (DIT : Df K mg "_law_is_true" sIsTrue ["_law_pairs_here", "_law_table"] fIT dIT)
    (DDu : Df K mg "_law_due" sDue ["_law_names_here", "_law_lots_here"] fDu dDu) (DCl : Df K mg "_law_by_classes" sClasses ["_law_pairs_here"] fCl dCl) (GCl0 : FnOk P w K mg base CX0 3 fCl dCl ["_law_pairs_here"] (spClasses K))
    (DSy : Df K mg "_law_is_steady" sSteady pSt fSy dSy) (GSy : FnOkG P w K mg base 6 fSy dSy pSt (spSteady K)) (DIf : Df K mg "_law_is_filled" sIsFilled pIf fIf dIf) (GIf : FnOk P w K mg base CX0 3 fIf dIf pIf (spIsFilled K))
    (DLg : Df K mg "_law_is_long" sLong ["_law_purse_here"] fLg dLg) (GLg : FnOkG P w K mg base 6 fLg dLg ["_law_purse_here"] (spLong K)) (DTo : Df K mg "_law_told" sTold ["_law_pairs_here"] fTo dTo) (GTo0 : FnOk P w K mg base CX0 5 fTo dTo ["_law_pairs_here"] (spTold K)) :
    FnOkG P w K mg base 7 f fd ["_law_script"] (spLaw K) := by
  have GPu : FnOk P w K mg base CX0 1 fPu dPu ["_law_script"] (spPurse K) := ok_purse DPu B
  have GD : FnOk P w K mg base CX0 1 fD dD ["_law_purse_here", "_law_many"] spDraw := ok_draw DD B
  have GLo : FnOk P w K mg base CX0 1 fLo dLo ["_law_menu", "_law_size"] (spLots K) := ok_lots DLo B
  have GIT : FnOk P w K mg base CX0 1 fIT dIT ["_law_pairs_here", "_law_table"] (spIsTrue K) := ok_istrue DIT
  have GDu : FnOk P w K mg base CX0 1 fDu dDu ["_law_names_here", "_law_lots_here"] (spDue K) := ok_due DDu B
  have GCl : FnOk P w K mg base CX0 3 fCl dCl ["_law_pairs_here"] (spClasses2 K) := GCl0.imp classes_use
  have GTo : FnOk P w K mg base CX0 5 fTo dTo ["_law_pairs_here"] (spTold2 K) := GTo0.imp told_use
  refine fun_okG D.F scLw (fun vs H Q E h => ?_) (fun cdv A outer s H vs Q E hG hr h => ?_)
  · obtain ⟨a, ns, rfl, _⟩ := h
    rfl
  · obtain ⟨a, ns, rfl, ha, k⟩ := h
    have hr1 : Room 1 _ := hr.mono (by decide)
    have hr2 : Room 2 _ := hr.mono (by decide)
    have hr3 : Room 3 _ := hr.mono (by decide)
    have hr5 : Room 5 _ := hr.mono (by decide)
    refine ⟨_, pss_cons (ps_set (i := 1) scLw.nd rfl (Or.inl rfl) (pe_call GPu hr1 rfl DPu.g DPu.k DPu.b .nil pass0 (pa_cons (pv 0) pa_nil)))
      (pss_cons (PS.weak (t' := tJ2 JA JA) (ps_for PassesOwn.never rfl (pi_range1 (by rfl) B.rng (pa_cons pe_int pa_nil)) (pg_name (i := 2) scLw.nd rfl (Or.inl rfl))
        (pss_cons (ps_par (i := 3) (j := 4) rfl scLw.nd rfl rfl (by decide) rfl rfl (pa_cons (pe_call GNa hr3 rfl DNa.g DNa.k DNa.b .nil pass0 (pa_cons (pv 1) (pa_cons (pe_op op_add pe_int (pe_call GD hr1 rfl DD.g DD.k DD.b .nil pass0 (pa_cons (pv 1) (pa_cons pe_int pa_nil)))) pa_nil)))
            (pa_cons (pe_call GSt hr3 rfl DSt.g DSt.k DSt.b .nil pass0 (pa_cons (pv 1) (pa_cons pe_int pa_nil))) pa_nil)) rfl)
        (pss_cons (ps_set (i := 5) scLw.nd rfl (Or.inr rfl) (pe_call GPr hr3 rfl DPr.g DPr.k DPr.b .nil pass0 (pa_cons (pv 1) (pa_cons (pv 3) (pa_cons (pv 4) (pa_cons (pe_call GD hr1 rfl DD.g DD.k DD.b .nil pass0 (pa_cons (pv 1) (pa_cons pe_int pa_nil))) pa_nil))))))
        (pss_cons (PS.weak (t' := tJ2 (J1 K) (J2 K)) (ps_asg (pe_tup (pa_cons (pe_call GTe hr2 rfl DTe.g DTe.k DTe.b .nil pass0 (pa_cons (pv 5) (pa_cons pe_bl pa_nil))) (pa_cons (pe_call GTe hr2 rfl DTe.g DTe.k DTe.b .nil pass0 (pa_cons (pv 5) (pa_cons pe_bl pa_nil))) pa_nil)))
            (pg_tup rfl (pgs_cons (pg_name (i := 6) scLw.nd rfl (Or.inr rfl)) (pgs_cons (pg_name (i := 7) scLw.nd rfl (Or.inl rfl)) pgs_nil)))) ?_)
        (pss_cons (PS.weak (t' := tJ2 (J2 K) (J3 K)) (ps_set (i := 8) scLw.nd rfl (Or.inl rfl) (pe_call GLo hr1 rfl DLo.g DLo.k DLo.b .nil pass0 (pa_cons (pe_op op_cat (pv 7) (pe_ifExp (pt_cmpR (op_eqD hr.units) (pv 7) (pe_lst pa_nil) (nomark _)) (pe_lst (pa_cons pe_str (pa_cons pe_str pa_nil))) (pe_lst (pa_cons pe_str pa_nil))))
            (pa_cons (pe_callB call_len_seq (by rfl) B.len PySem.boot_len (pa_cons (pv 6) pa_nil)) pa_nil)))) ?_)
        (pss_cons (PS.weak (t' := tJ2 (J3 K) (J4 K)) (ps_setLc (i := 9) (own := [("_law_lot", 12)]) (g := gName 12) rfl scLw.nd rfl rfl rfl (pi_list (pv 8))
            (blkOk_by (N := nLaw) (sc := defScope sLaw) (by decide +kernel)) (fun _ _ _ _ _ => pg_name (i := 12) scLw.nd rfl (Or.inl rfl))
            (fun _ _ _ _ _ => pts_one (pt_val (pe_call GIT hr1 rfl DIT.g DIT.k DIT.b .nil pass0 (pa_cons (pv 5) (pa_cons (pe_callTy (r := rDictL K) (t := tCons (tZipOut K mkL (tCons (tVar 6) (tCons (tVar 12) tNil))) tNil) (by exact call_dictP rfl) (by rfl) B.dct (by decide +kernel) (pa_cons (by exact pe_listZip rfl (pa_cons (pv 6) (pa_cons (pv 12) pa_nil)) (by rfl) B.lst (by rfl) B.zip) pa_nil)) pa_nil)))))
            (fun _ _ _ _ _ => pv 12)) ?_)
        (pss_cons (PS.weak (t' := tJ2 (J4 K) (J5 K)) (ps_set (i := 10) scLw.nd rfl (Or.inl rfl) (pe_ifExp (pt_cmpR (op_neD hr.units) (pv 9) (pe_lst pa_nil) (nomark _)) (pe_call GDu hr1 rfl DDu.g DDu.k DDu.b .nil pass0 (pa_cons (pv 6) (pa_cons (pv 9) pa_nil))) pe_non)) ?_)
        (pss_cons (PS.weak (t' := tJ2 (J5 K) (J5 K)) (ps_if (PW.pt (pw_or (pt_cmpR op_ne (pe_callB (call_reprD hG hr.units) (by rfl) B.rpr boot_repr (pa_cons (pv 10) pa_nil)) (pe_callB (call_reprD hG hr.units) (by rfl) B.rpr boot_repr (pa_cons (pe_call GCl hr3 rfl DCl.g DCl.k DCl.b .nil pass0 (pa_cons (pv 5) pa_nil)) pa_nil)) (nomark _))
            (pw_or1 (pt_not (pt_val (pe_callG hG GSy hr rfl DSy.g DSy.k DSy.b (pa_cons (pv 1) (pa_cons (pv 5) (pa_cons (pv 10) pa_nil))))))))) (pss_one (ps_ret pe_bl)) pss_nil) ?_)
        (pss_one (PS.weak (t' := tJ2 (J5 K) JA) (ps_if (pt_not (pt_val (pe_call GIf hr3 rfl DIf.g DIf.k DIf.b .nil pass0 (pa_cons (pv 1) (pa_cons (pv 5) (pa_cons (pv 6) (pa_cons (pe_ifExp (PW.pt (pw_and (pt_cmpR op_eq (pv 2) pe_int (nomark _)) (pw_and1 (pt_cmpR (op_neD hr.units) (pv 9) (pe_lst pa_nil) (nomark _))))) (pv 9) (pv 8)) (pa_cons (pv 10) pa_nil)))))))) (pss_one (ps_ret pe_bl)) pss_nil) ?_)))))))))) ?_)
      (pss_cons (PS.weak (t' := tJ2 JA JA) (ps_for PassesOwn.never rfl (pi_range1 (by rfl) B.rng (pa_cons pe_int pa_nil)) (pg_name (i := 2) scLw.nd rfl (Or.inl rfl))
        (pss_cons (ps_par (i := 3) (j := 4) rfl scLw.nd rfl rfl (by decide) rfl rfl (pa_cons (pe_call GNa hr3 rfl DNa.g DNa.k DNa.b .nil pass0 (pa_cons (pv 1) (pa_cons pe_int pa_nil)))
            (pa_cons (pe_call GSt hr3 rfl DSt.g DSt.k DSt.b .nil pass0 (pa_cons (pv 1) (pa_cons (pe_op op_add pe_int (pe_call GD hr1 rfl DD.g DD.k DD.b .nil pass0 (pa_cons (pv 1) (pa_cons pe_int pa_nil)))) pa_nil))) pa_nil)) rfl)
        (pss_cons (ps_set (i := 5) scLw.nd rfl (Or.inr rfl) (pe_call GPr hr3 rfl DPr.g DPr.k DPr.b .nil pass0 (pa_cons (pv 1) (pa_cons (pv 3) (pa_cons (pv 4) (pa_cons (pe_op op_add pe_int (pe_call GD hr1 rfl DD.g DD.k DD.b .nil pass0 (pa_cons (pv 1) (pa_cons pe_int pa_nil)))) pa_nil))))))
        (pss_one (ps_if (pt_not (pt_val (pe_callG hG GSy hr rfl DSy.g DSy.k DSy.b (pa_cons (pv 1) (pa_cons (pv 5) (pa_cons (pe_call GCl hr3 rfl DCl.g DCl.k DCl.b .nil pass0 (pa_cons (pv 5) pa_nil)) pa_nil)))))) (pss_one (ps_ret pe_bl)) pss_nil))))) ?_)
      (pss_cons (PS.weak (t' := tJ2 JA JA) (ps_if (PW.pt (pw_and (pt_cmpR op_eq (pe_call GD hr1 rfl DD.g DD.k DD.b .nil pass0 (pa_cons (pv 1) (pa_cons pe_int pa_nil))) pe_int (nomark _)) (pw_and1 (pt_not (pt_val (pe_callG hG GLg hr rfl DLg.g DLg.k DLg.b (pa_cons (pv 1) pa_nil))))))) (pss_one (ps_ret pe_bl)) pss_nil) ?_)
      (pss_cons (ps_set (i := 11) scLw.nd rfl (Or.inl rfl) (pe_lst (pa_cons (PE.weak (t' := tDue K (some dA)) (pe_call GTo hr5 rfl DTo.g DTo.k DTo.b .nil pass0 (pa_cons (pe_tup (pa_cons (pe_tup (pa_cons pe_str (pa_cons pe_str pa_nil))) (pa_cons (pe_tup (pa_cons pe_str (pa_cons pe_str pa_nil))) (pa_cons (pe_tup (pa_cons pe_str (pa_cons pe_int pa_nil))) (pa_cons (pe_tup (pa_cons pe_int (pa_cons pe_int pa_nil))) pa_nil))))) pa_nil)) (by exact told_go (es := zA) told_A tm_A (by decide)))
          (pa_cons (PE.weak (t' := tDue K (some [])) (pe_call GTo hr5 rfl DTo.g DTo.k DTo.b .nil pass0 (pa_cons (pe_tup (pa_cons (pe_tup (pa_cons pe_int (pa_cons pe_int pa_nil))) pa_nil)) pa_nil)) (by exact told_go (es := zB) told_B tm_B (by decide))) (pa_cons (PE.weak (t' := tDue K (some [])) (pe_call GTo hr5 rfl DTo.g DTo.k DTo.b .nil pass0 (pa_cons (pe_tup pa_nil) pa_nil)) (by exact told_go (es := zC) told_C tm_C (by decide))) pa_nil)))))
      (pss_cons (ps_set (i := 11) scLw.nd rfl (Or.inl rfl) (pe_op op_cat (pv 11) (pe_lst (pa_cons (PE.weak (t' := tDue K none) (pe_call GTo hr5 rfl DTo.g DTo.k DTo.b .nil pass0 (pa_cons (pe_tup (pa_cons (pe_tup (pa_cons pe_str (pa_cons pe_int pa_nil))) (pa_cons (pe_tup (pa_cons pe_int (pa_cons pe_str pa_nil))) pa_nil))) pa_nil)) (by exact told_go (es := zD) told_D tm_D (by decide)))
          (pa_cons (PE.weak (t' := tDue K (some dE)) (pe_call GTo hr5 rfl DTo.g DTo.k DTo.b .nil pass0 (pa_cons (pe_tup (pa_cons (pe_tup (pa_cons pe_str (pa_cons pe_int pa_nil))) (pa_cons (pe_tup (pa_cons pe_int (pa_cons pe_str pa_nil))) (pa_cons (pe_tup (pa_cons pe_str (pa_cons pe_str pa_nil))) pa_nil)))) pa_nil)) (by exact told_go (es := zE) told_E tm_E (by decide))) pa_nil)))))
      (pss_cons (ps_set (i := 10) scLw.nd rfl (Or.inl rfl) (pe_lst (pa_cons (PE.weak (t' := tDue K (some dA)) (pe_tup (pa_cons (pe_tup (pa_cons pe_str (pa_cons pe_str pa_nil))) (pa_cons (pe_tup (pa_cons pe_str (pa_cons pe_str pa_nil))) (pa_cons (pe_tup (pa_cons pe_str (pa_cons pe_str pa_nil))) (pa_cons (pe_tup (pa_cons pe_str (pa_cons pe_int pa_nil))) pa_nil))))) (by exact tup_go (es := dA) (by decide)))
          (pa_cons (PE.weak (t' := tDue K (some [])) (pe_tup pa_nil) (by exact tup_go (es := []) (by decide))) (pa_cons (PE.weak (t' := tDue K (some [])) (pe_tup pa_nil) (by exact tup_go (es := []) (by decide))) (pa_cons (PE.weak (t' := tDue K none) pe_non (by exact non_go)) (pa_cons (PE.weak (t' := tDue K (some dE)) (pe_tup (pa_cons (pe_tup (pa_cons pe_str (pa_cons pe_int pa_nil))) (pa_cons (pe_tup (pa_cons pe_str (pa_cons pe_int pa_nil))) (pa_cons (pe_tup (pa_cons pe_str (pa_cons pe_str pa_nil))) pa_nil)))) (by exact tup_go (es := dE) (by decide))) pa_nil)))))))
      (pss_one (ps_ret (pe_cmpR op_eq (pe_callB (call_reprD hG hr.units) (by rfl) B.rpr boot_repr (pa_cons (pv 11) pa_nil)) (pe_callB (call_reprD hG hr.units) (by rfl) B.rpr boot_repr (pa_cons (pv 10) pa_nil)) (nomark _)))))))))), ?_⟩
    · rintro D' σ H' ⟨⟨a, pu, g, c, pr, i, es, ns, ks, v3, v4, v6, v7, v8, v9, v10, v11, rfl, hp, hq, ht, hn, hk, ln, lk, le⟩, nx⟩
      have tm := td_tm ht hn hk
      refine ⟨_, rfl, pr, es, true, rfl, hq, fun t h => (tm t h).sh, by omega, fun _ H1 ow s1 f1 h1 => ?_, fun z => nomatch z⟩
      refine ⟨_, rfl, pr, es, false, rfl, hq.tups (sameTups s1), fun t h => (tm t h).sh, by omega, fun z => (nomatch z), fun _ H2 mn cs s2 f2 h2 hC => ?_⟩
      have s3 := s1.trans s2
      refine ⟨two_line, fun T hT => ?_⟩
      have sT := s3.trans (same_upd (o := .tup [.ref ow, .ref mn]) hT)
      refine ⟨T, _, rfl, SqT.of upd_same, rfl, _, _, rfl, _, _, rfl, rfl, ?_⟩
      obtain ⟨c1, c2⟩ := td_vals ht hn hk hC
      obtain ⟨o1, o2, _⟩ := hp.notNone f1
      refine nx _ _ ⟨a, pu, g, c, pr, ow, mn, i, es, cs, _, _, _, _, _, _, rfl, ⟨hp.same sT, hq.tups (sameTups sT), tm, le, same_upd hT _ _ (s2 _ _ h1), o1, o2, Nat.le_trans (td_vars ht hk) ln⟩, same_upd hT _ _ h2, hC, c1, Nat.le_trans c2 lk⟩
    · rintro D' σ H' ⟨⟨a, pu, g, c, pr, ow, mn, i, es, cs, v3, v4, v8, v9, v10, v11, rfl, F, hmn, hC, hT, lc⟩, nx⟩
      have go : ∀ (Hx : Hp) (m : Addr) (menu : List Key), Same H' Hx → Hx m = some (.lst (menu.map kV)) → MenuOk es menu → ∃ (m' : Addr) (menu : List Key) (size : Nat), [V.ref m, V.int (((vars es).map V.str).length : Nat)] = [.ref m', .int (size : Nat)] ∧ SqL K Hx m' (menu.map kV) ∧ menu.length ≤ 5 ∧ size ≤ 5 ∧
          ∀ H2 p, Same Hx H2 → Hx p = none → LotsAt H2 p (lots menu size) → D'.nx [some (.ref a), some (.ref pu), some (.int i), v3, v4, some (.ref pr), some (.ref ow), some (.ref mn), some (.ref p), v9, v10, v11, none] H2 := fun Hx m menu sx hm M => by
        refine ⟨m, menu, (vars es).length, by rw [List.length_map], SqL.of hm, M.len, Nat.le_trans F.lo (by decide), fun H2 p s2 f2 hL => ?_⟩
        obtain ⟨o1, o2, _⟩ := (F.same sx).p.notNone f2
        exact nx _ _ ⟨a, pu, g, c, pr, ow, p, i, es, menu, _, _, _, _, _, _, rfl, F.same (sx.trans s2), M, ⟨hL, o1, o2⟩⟩
      refine ⟨_, rfl, _, rfl, Nat.zero_le _, fun z hz => ?_⟩
      have s1 := same_upd (o := .lst []) hz
      refine ⟨_, _, dp_keysL (SqL.of (s1 _ _ hmn)), dp_keysL (l := []) (SqL.of upd_same), shaped_keysL (fun x hx => (hT x hx).1), shaped_nilL, _, rfl, ?_⟩
      refine ite2 (fun hc => ?_) (fun hc => ?_)
      · have hc : cs = [] := of_decide_eq_true (eqv_nilL.symm.trans hc)
        subst hc
        refine ⟨two_line, fun L hL => ?_⟩
        have s2 := s1.trans (same_upd (o := .lst [V.str "further", V.str "beyond"]) hL)
        refine ⟨mn, L, _, _, rfl, rfl, s2 _ _ hmn, upd_same, two_line, fun p hp => ?_⟩
        have s3 := s2.trans (same_upd (o := .lst (([] : List Key).map kV ++ [V.str "further", V.str "beyond"])) hp)
        refine ⟨_, rfl, ow, _, rfl, .inl (SqL.of (s3 _ _ F.o)), ?_⟩
        exact go _ p ([] ++ [kFu, kBe]) s3 upd_same (menu_a hC)
      · obtain ⟨k0, cs, rfl⟩ : ∃ k0 r, cs = k0 :: r := by
          cases cs with
          | nil => exact absurd (eqv_nilL (ks := []) |>.trans (decide_eq_true rfl)) hc
          | cons k0 r => exact ⟨k0, r, rfl⟩
        refine ⟨(show 1 ≤ sizeLine by decide), fun L hL => ?_⟩
        have s2 := s1.trans (same_upd (o := .lst [V.str "further"]) hL)
        refine ⟨mn, L, _, _, rfl, rfl, s2 _ _ hmn, upd_same, ?_, fun p hp => ?_⟩
        · rw [List.length_map]
          exact Nat.le_trans (Nat.add_le_add_right lc 1) (by decide)
        have s3 := s2.trans (same_upd (o := .lst ((k0 :: cs).map kV ++ [V.str "further"])) hp)
        refine ⟨_, rfl, ow, _, rfl, .inl (SqL.of (s3 _ _ F.o)), ?_⟩
        exact go _ p ((k0 :: cs) ++ [kFu]) s3 (by rw [upd_same, List.map_append]; rfl) (menu_b hC hT lc)
    · rintro D' σ H' ⟨⟨a, pu, g, c, pr, ow, ev, i, es, menu, v3, v4, v7, v9, v10, v11, rfl, F, M, L⟩, nx⟩
      obtain ⟨ts, hts, hls⟩ := L.l
      obtain ⟨_, ll, _, lok, _⟩ := sols_ok M F.lo
      have lts : ts.length = (lots menu (vars es).length).length := Paired.length hls
      refine ⟨_, rfl, ev, rfl, ⟨_, SqL.of hts⟩, fun G hG => ?_⟩
      refine lc_list (K := K) (a := ev) (xs := ts.map V.ref) (fun j H2 => ∃ qs : List Addr, H2 G = some (.lst (qs.map V.ref)) ∧ LotsOf H2 qs (((lots menu (vars es).length).take j).filter fun l => sat es (asgn (vars es) l)) ∧ Same H' H2) ⟨[], upd_same, .nil, same_upd hG⟩ (fun j H2 _ ⟨_, _, _, z⟩ => SqL.of (z _ _ hts)) ?_ ?_
      · rintro j x H2 hx ⟨qs, h1, h2, h3⟩
        rw [List.getElem?_map] at hx
        cases et : ts[j]? with
        | none => rw [et] at hx; cases hx
        | some t =>
          rw [et] at hx
          have e : V.ref t = x := Option.some.inj hx
          subst e
          obtain ⟨l, el, hl⟩ := paired_at hls et
          have hl : H' t = some (.tup (l.map kV)) := hl
          obtain ⟨e1, e2⟩ := lok l (List.mem_of_getElem? el)
          refine ⟨rfl, ?_⟩
          refine ⟨_, rfl, _, rfl, _, rfl, ow, t, (vars es).map Sum.inr, l.map kV, rfl, by rw [List.map_map]; exact SqL.of (h3 _ _ F.o), SqT.of (h3 _ _ hl), by rw [List.length_map, List.length_map, e1], fun H6 p ts2 uo s6 hp0 hts2 mk hp6 hpr6 => ?_⟩
          have mk : uo = .lst (ts2.map V.ref) := mk
          subst mk
          refine ⟨p, ts2, tabOf (vars es) l, rfl, SqL.of hp6, Held.pairs hpr6, fun d hd => ?_⟩
          have s7 := s6.trans (same_upd (o := .dK (mergeK [] (tabOf (vars es) l))) hd)
          refine ⟨pr, d, es, _, asgn (vars es) l, rfl, F.q.tups (sameTups (h3.trans s7)), upd_same, tab_get (own_nodup es) e1.symm, ?_⟩
          have tk : ((lots menu (vars es).length).take (j + 1)).filter (fun l => sat es (asgn (vars es) l)) = ((lots menu (vars es).length).take j).filter (fun l => sat es (asgn (vars es) l)) ++ if sat es (asgn (vars es) l) = true then [l] else [] := by
            rw [List.take_add_one, el, List.filter_append]
            congr 1
            by_cases z : sat es (asgn (vars es) l) = true
            · rw [if_pos z]; exact List.filter_cons_of_pos z
            · rw [if_neg z]; exact List.filter_cons_of_neg z
          have h37 := h3.trans s7
          have hG7 := (s6.trans (same_upd (o := .dK (mergeK [] (tabOf (vars es) l))) hd)) _ _ h1
          have hl7 := h2.tups (sameTups s7)
          have ht7 := h37 _ _ hl
          have lq : qs.length ≤ 3125 := by
            rw [Paired.length h2]
            refine Nat.le_trans (List.length_filter_le _ _) ?_
            rw [List.length_take]
            omega
          refine ⟨_, rfl, ?_⟩
          refine ite2 (fun hc => ?_) (fun hc => ?_)
          · rw [if_pos hc] at tk
            refine ⟨_, rfl, _, hG7, by rw [List.length_map]; exact Nat.lt_of_le_of_lt lq (by decide), qs ++ [t], by rw [upd_same, List.map_append]; rfl, ?_, same_put h37 hG⟩
            rw [tk]
            have tt : Tups (upd H6 d (.dK (mergeK [] (tabOf (vars es) l)))) (upd (upd H6 d (.dK (mergeK [] (tabOf (vars es) l)))) G (.lst (qs.map V.ref ++ [.ref t]))) := Tups.put hG7 fun xs y => by cases y
            exact (hl7.tups tt).snoc (tt _ _ ht7)
          · rw [if_neg hc, List.append_nil] at tk
            rw [tk]
            exact ⟨qs, hG7, hl7, h37⟩
      · rintro H2 ⟨qs, h1, h2, h3⟩
        rw [List.length_map, lts, List.take_length] at h2
        obtain ⟨g1, g2, _⟩ := F.p.notNone hG
        exact nx _ _ ⟨a, pu, g, c, pr, ow, ev, G, i, es, menu, _, _, _, _, _, rfl, F.same h3, M, L.same h3, ⟨⟨qs, h1, h2⟩, g1, g2⟩⟩
    · rintro D' σ H' ⟨⟨a, pu, g, c, pr, ow, ev, lh, i, es, menu, v3, v4, v7, v10, v11, rfl, F, M, L, S⟩, nx⟩
      obtain ⟨_, _, sl, _, sok⟩ := sols_ok M F.lo
      refine ⟨_, rfl, Nat.zero_le _, fun z hz => ?_⟩
      have s1 := same_upd (o := .lst []) hz
      refine ⟨_, _, dp_lots (S.l.same s1), dp_keysL (l := []) (SqL.of upd_same), shaped_lots (fun l hl => (sok l hl).2), shaped_nilL, _, rfl, ?_⟩
      refine ite2 (fun hc => ?_) (fun hc => ?_)
      · have ne : sols es menu ≠ [] := fun z => by
          rw [show (PyData.list ((sols es menu).map fun l => .tuple (l.map dk))).eqv (.list (([] : List Key).map dk)) = decide (sols es menu = []) from eqv_lots, decide_eq_true z] at hc
          cases hc
        refine ⟨_, rfl, _, rfl, ow, lh, vars es, sols es menu, rfl, s1 _ _ F.o, S.l.same s1, Nat.le_trans F.lo (by decide), ne, Nat.le_trans sl (by decide), sok, fun H2 p s2 f2 he => ?_⟩
        have s12 := s1.trans s2
        exact nx _ _ ⟨a, pu, g, c, pr, ow, ev, lh, i, es, menu, _, _, _, _, _, rfl, F.same s12, M, L.same s12, S.same s12, by rw [due_some ne M]; exact ⟨p, rfl, he⟩⟩
      · have ne : sols es menu = [] := Classical.byContradiction fun z => hc (by
          rw [show (PyData.list ((sols es menu).map fun l => .tuple (l.map dk))).eqv (.list (([] : List Key).map dk)) = decide (sols es menu = []) from eqv_lots, decide_eq_false z]
          rfl)
        exact nx _ _ ⟨a, pu, g, c, pr, ow, ev, lh, i, es, menu, _, _, _, _, _, rfl, F.same s1, M, L.same s1, S.same s1, by rw [due_none ne M]; rfl⟩
    · rintro D' σ H' ⟨⟨a, pu, g, c, pr, ow, ev, lh, i, es, menu, v3, v4, v7, dv, v11, rfl, F, M, L, S, hd⟩, nx⟩
      have dT : DueTm (told es) 12 := fun d h => ⟨(told_tm F.tm d h).1, by have := (told_tm F.tm d h).2; have := F.le; omega⟩
      obtain ⟨r1, r2, r3, r4, r5, r6⟩ := due_repr hd dT (by decide)
      refine ⟨_, rfl, dv, _, rfl, r1, r2, r3, r4, r5, r6, ?_⟩
      refine ⟨_, rfl, pr, es, rfl, F.q, F.tm, by have := F.le; omega, fun H2 v2 s2 d2 => ?_⟩
      obtain ⟨q1, q2, q3, q4, q5, q6⟩ := due_repr d2 dT (by decide)
      refine ⟨v2, _, rfl, q1, q2, q3, q4, q5, q6, rfl, _, rfl, ?_⟩
      rw [decide_eq_true rfl]
      refine iteF ?_
      have F2 := F.same s2
      refine ⟨_, rfl, _, rfl, _, rfl, pu, g, c, pr, dv, es, rfl, F2.p, F2.q, F.tm, by have := F.le; omega, hd.tups (sameTups s2), fun H3 u3 => ⟨_, rfl, iteF (nx _ _ ?_)⟩⟩
      exact ⟨a, pu, g, c, pr, ow, ev, lh, i, es, menu, _, _, _, dv, _, rfl, F2.ku u3, M, (L.same s2).ku u3, (S.same s2).ku u3, (hd.tups (sameTups s2)).tups u3.tups⟩
    · rintro D' σ H' ⟨⟨a, pu, g, c, pr, ow, ev, lh, i, es, menu, v3, v4, v7, dv, v11, rfl, F, M, L, S, hd⟩, nx⟩
      obtain ⟨ln, ll, sl, lok, sok⟩ := sols_ok M F.lo
      refine ⟨_, rfl, _, rfl, _, rfl, _, rfl, rfl, _, rfl, ?_⟩
      refine ite2 (fun _ => ?_) (fun _ => ?_)
      · refine ⟨_, rfl, Nat.zero_le _, fun z hz => ?_⟩
        have s1 := same_upd (o := .lst []) hz
        have F1 := F.same s1
        refine ⟨_, _, dp_lots (S.l.same s1), dp_keysL (l := []) (SqL.of upd_same), shaped_lots (fun l hl => (sok l hl).2), shaped_nilL, _, rfl, ?_⟩
        refine ite2 (fun hc => ?_) (fun hc => ?_)
        · have ne : sols es menu ≠ [] := fun z => by
            rw [show (PyData.list ((sols es menu).map fun l => .tuple (l.map dk))).eqv (.list (([] : List Key).map dk)) = decide (sols es menu = []) from eqv_lots, decide_eq_true z] at hc
            cases hc
          refine ⟨_, rfl, _, rfl, pu, g, c, pr, ow, lh, dv, es, _, rfl, F1.p, F1.q, F.tm, by have := F.le; omega, ⟨F1.o, F.o1, F.o2⟩, ⟨(S.same s1).l, S.n1, S.n2⟩, ne, Nat.le_trans sl (by decide), sok, hd.tups (sameTups s1), fun H3 u3 => ⟨_, rfl, iteF (nx _ _ ?_)⟩⟩
          exact ⟨a, pu, g, c, _, _, _, _, _, _, _, _, _, _, rfl, u3.p⟩
        · refine ⟨_, rfl, _, rfl, pu, g, c, pr, ow, ev, dv, es, _, rfl, F1.p, F1.q, F.tm, by have := F.le; omega, ⟨F1.o, F.o1, F.o2⟩, ⟨(L.same s1).l, L.n1, L.n2⟩, ln, Nat.le_trans ll (by decide), lok, hd.tups (sameTups s1), fun H3 u3 => ⟨_, rfl, iteF (nx _ _ ?_)⟩⟩
          exact ⟨a, pu, g, c, _, _, _, _, _, _, _, _, _, _, rfl, u3.p⟩
      · refine iteF ?_
        refine ⟨_, rfl, _, rfl, pu, g, c, pr, ow, ev, dv, es, _, rfl, F.p, F.q, F.tm, by have := F.le; omega, ⟨F.o, F.o1, F.o2⟩, ⟨L.l, L.n1, L.n2⟩, ln, Nat.le_trans ll (by decide), lok, hd, fun H3 u3 => ⟨_, rfl, iteF (nx _ _ ?_)⟩⟩
        exact ⟨a, pu, g, c, _, _, _, _, _, _, _, _, _, _, rfl, u3.p⟩
    · rintro D' σ H' ⟨⟨a, pu, g, c, v2, v3, v4, v5, v6, v7, v8, v9, v10, v11, rfl, hp⟩, nx⟩
      refine ⟨5, rfl, by decide, by decide, for_range (fun i σ H2 => JA σ H2) ⟨a, pu, g, c, _, _, _, _, _, _, _, _, _, _, rfl, hp⟩ ?_ (fun σ H2 h => nx _ _ h)⟩
      rintro i σ H1 hi ⟨a, pu, g, c, v2, v3, v4, v5, v6, v7, v8, v9, v10, v11, rfl, hp⟩
      refine ⟨_, rfl, _, rfl, pu, g, c, 4, rfl, hp, by decide, by decide, fun H2 k u2 k0 k4 => ⟨_, _, rfl, rfl, ?_⟩⟩
      obtain ⟨m, rfl⟩ : ∃ m : Nat, k = m := ⟨k.toNat, by omega⟩
      refine ⟨pu, g, c, 1 + m, by rw [show ((1 + m : Nat) : Int) = 1 + (m : Int) from by omega]; rfl, u2.p, by omega, by omega, fun H3 na ns u3 f3 h3 hn nne nl => ?_⟩
      obtain ⟨na1, na2, _⟩ := u2.p.notNone f3
      refine ⟨_, rfl, pu, g, c, 3, rfl, u3.p, by decide, by decide, fun H4 st ks u4 f4 h4 hk kne kl => ⟨_, _, rfl, ?_⟩⟩
      obtain ⟨st1, st2, _⟩ := u3.p.notNone f4
      refine ⟨_, rfl, _, rfl, _, rfl, _, rfl, pu, g, c, 7, rfl, u4.p, by decide, by decide, fun H5 q u5 q0 q7 => ?_⟩
      obtain ⟨m2, rfl⟩ : ∃ m : Nat, q = m := ⟨q.toNat, by omega⟩
      refine ⟨pu, g, c, na, st, m2, ns, ks, rfl, u5.p, by omega, ⟨u5.at (u4.at h3 na1 na2) na1 na2, na1, na2, nne, by omega, hn⟩, ⟨u5.at h4 st1 st2, st1, st2, kne, by omega, hk⟩, fun H6 pr es u6 f6 he ht hl => ?_⟩
      exact ⟨⟨a, pu, g, c, pr, _, es, ns, ks, _, _, _, _, _, _, _, _, rfl, u6.p, he, ht, hn, hk, by omega, kl, by omega⟩, fun _ _ j => ⟨j, fun _ _ j => ⟨j, fun _ _ j => ⟨j, fun _ _ j => ⟨j, fun _ _ j => ⟨j, fun _ _ j => j⟩⟩⟩⟩⟩⟩
    · rintro D' σ H' ⟨⟨a, pu, g, c, v2, v3, v4, v5, v6, v7, v8, v9, v10, v11, rfl, hp⟩, nx⟩
      refine ⟨4, rfl, by decide, by decide, for_range (fun i σ H2 => JA σ H2) ⟨a, pu, g, c, _, _, _, _, _, _, _, _, _, _, rfl, hp⟩ ?_ (fun σ H2 h => nx _ _ h)⟩
      rintro i σ H1 hi ⟨a, pu, g, c, v2, v3, v4, v5, v6, v7, v8, v9, v10, v11, rfl, hp⟩
      refine ⟨_, rfl, pu, g, c, 12, rfl, hp, by decide, by decide, fun H3 na ns u3 f3 h3 hn nne nl => ?_⟩
      obtain ⟨na1, na2, _⟩ := hp.notNone f3
      refine ⟨_, rfl, _, rfl, pu, g, c, 4, rfl, u3.p, by decide, by decide, fun H2 k u2 k0 k4 => ⟨_, _, rfl, rfl, ?_⟩⟩
      obtain ⟨m, rfl⟩ : ∃ m : Nat, k = m := ⟨k.toNat, by omega⟩
      refine ⟨pu, g, c, 1 + m, by rw [show ((1 + m : Nat) : Int) = 1 + (m : Int) from by omega]; rfl, u2.p, by omega, by omega, fun H4 st ks u4 f4 h4 hk kne kl => ⟨_, _, rfl, ?_⟩⟩
      obtain ⟨st1, st2, _⟩ := u2.p.notNone f4
      refine ⟨_, rfl, _, rfl, _, rfl, _, rfl, pu, g, c, 19, rfl, u4.p, by decide, by decide, fun H5 q u5 q0 q7 => ⟨_, _, rfl, rfl, ?_⟩⟩
      obtain ⟨m2, rfl⟩ : ∃ m : Nat, q = m := ⟨q.toNat, by omega⟩
      refine ⟨pu, g, c, na, st, 6 + m2, ns, ks, by rw [show ((6 + m2 : Nat) : Int) = 6 + (m2 : Int) from by omega]; rfl, u5.p, by omega, ⟨u5.at (u4.at (u2.at h3 na1 na2) na1 na2) na1 na2, na1, na2, nne, by omega, hn⟩, ⟨u5.at h4 st1 st2, st1, st2, kne, by omega, hk⟩, fun H6 pr es u6 f6 he ht hl => ?_⟩
      have tm := td_tm ht hn hk
      refine ⟨_, rfl, _, rfl, _, rfl, pr, es, rfl, he, tm, by omega, fun H7 v s7 d7 => ⟨pu, g, c, pr, v, es, rfl, u6.p.same s7, he.tups (sameTups s7), tm, by omega, d7, fun H8 u8 => ⟨_, rfl, iteF ?_⟩⟩⟩
      exact ⟨a, pu, g, c, _, _, _, _, _, _, _, _, _, _, rfl, u8.p⟩
    · rintro D' σ H' ⟨⟨a, pu, g, c, v2, v3, v4, v5, v6, v7, v8, v9, v10, v11, rfl, hp⟩, nx⟩
      refine ⟨_, rfl, pu, g, c, 12, rfl, hp, by decide, by decide, fun H1 k u1 k0 k1 => ⟨rfl, _, rfl, ?_⟩⟩
      refine ite2 (fun _ => ?_) (fun _ => ?_)
      · exact ⟨_, rfl, pu, g, c, rfl, u1.p, fun H2 u2 => ⟨_, rfl, iteF (nx _ _ ⟨a, pu, g, c, _, _, _, _, _, _, _, _, _, _, rfl, u2.p⟩)⟩⟩
      · exact iteF (nx _ _ ⟨a, pu, g, c, _, _, _, _, _, _, _, _, _, _, rfl, u1.p⟩)
    · refine ⟨_, rfl, a, ns, rfl, ha, fun H1 pu g c s1 f1 _ _ hp => ⟨⟨a, pu, g, c, _, _, _, _, _, _, _, _, _, _, rfl, hp⟩, fun _ _ j => ⟨j, fun _ _ j => ⟨j, fun σ H2 j => ?_⟩⟩⟩⟩
      obtain ⟨a, pu, g, c, v2, v3, v4, v5, v6, v7, v8, v9, v10, v11, rfl, hp⟩ := j
      refine fun H3 x1 t3 e1 => fun H4 x2 t4 e2 => fun H5 x3 t5 e3 => ⟨(show 3 ≤ sizeLine by decide), fun L1 hL1 => ?_⟩
      have t6 := same_upd (o := .lst [x1, x2, x3]) hL1
      refine ⟨_, rfl, fun H7 x4 t7 e4 => fun H8 x5 t8 e5 => ⟨two_line, fun L2 hL2 => ?_⟩⟩
      have t9 := same_upd (o := .lst [x4, x5]) hL2
      refine ⟨L1, L2, _, _, rfl, rfl, (t7.trans (t8.trans t9)) _ _ upd_same, upd_same, (show 5 ≤ sizeLine by decide), fun L3 hL3 => ?_⟩
      have t10 := same_upd (o := .lst ([x1, x2, x3] ++ [x4, x5])) hL3
      have q5 := t9.trans t10
      have q4 := t8.trans q5
      have q3 := (t6.trans t7).trans q4
      have q2 := t5.trans q3
      have q1 := t4.trans q2
      have P1 : Paired (DueAt K (upd (upd H8 L2 (.lst [x4, x5])) L3 (.lst ([x1, x2, x3] ++ [x4, x5])))) [x1, x2, x3, x4, x5] fiveO :=
        .cons (e1.tups (sameTups q1)) (.cons (e2.tups (sameTups q2)) (.cons (e3.tups (sameTups q3)) (.cons (e4.tups (sameTups q4)) (.cons (e5.tups (sameTups q5)) .nil))))
      have hL3d : (upd (upd H8 L2 (.lst [x4, x5])) L3 (.lst ([x1, x2, x3] ++ [x4, x5]))) L3 = some (.lst [x1, x2, x3, x4, x5]) := upd_same
      show tSeq _ _ _ _ (upd (upd H8 L2 (.lst [x4, x5])) L3 (.lst ([x1, x2, x3] ++ [x4, x5])))
      generalize upd (upd H8 L2 (.lst [x4, x5])) L3 (.lst ([x1, x2, x3] ++ [x4, x5])) = H9 at P1 hL3d ⊢
      refine fun Ha y1 a1 b1 => fun Hb y2 a2 b2 => fun Hc y3 a3 b3 => fun Hd y4 a4 b4 => fun He y5 a5 b5 => ⟨(show 5 ≤ sizeLine by decide), fun L4 hL4 => ?_⟩
      have c6 := same_upd (o := .lst [y1, y2, y3, y4, y5]) hL4
      have c5 := a5.trans c6
      have c4 := a4.trans c5
      have c3 := a3.trans c4
      have c2 := a2.trans c3
      have c1 := a1.trans c2
      have P2 : Paired (DueAt K (upd He L4 (.lst [y1, y2, y3, y4, y5]))) [y1, y2, y3, y4, y5] fiveO :=
        .cons (b1.tups (sameTups c2)) (.cons (b2.tups (sameTups c3)) (.cons (b3.tups (sameTups c4)) (.cons (b4.tups (sameTups c5)) (.cons (b5.tups (sameTups c6)) .nil))))
      have P3 : Paired (DueAt K (upd He L4 (.lst [y1, y2, y3, y4, y5]))) [x1, x2, x3, x4, x5] fiveO := paired_mono (fun _ _ h => DueAt.tups h (sameTups c1)) P1
      obtain ⟨g1, g2, g3, g4, g5⟩ := repr_dueL (c1 _ _ hL3d) P3 five_tm (by decide) (by decide)
      obtain ⟨i1, _, _, _, _⟩ := repr_dueL (H := upd He L4 (.lst [y1, y2, y3, y4, y5])) (a := L4) upd_same P2 five_tm (by decide) (by decide)
      refine ⟨_, rfl, .ref L3, _, rfl, .inr ⟨L3, rfl⟩, g1, g2, g3, g4, g5, _, rfl, .ref L4, _, rfl, .inr ⟨L4, rfl⟩, i1, g2, g3, g4, g5, rfl, ?_⟩
      rw [decide_eq_true rfl]
      exact k _
end
end U6
set_option Elab.async false
set_option linter.all false
set_option maxRecDepth 100000
set_option maxHeartbeats 8000000
/-! What the top has written; the walk. -/
namespace U6
open PySem PySem.Spec PyProof.Rows L2 U6R
theorem df_mk {K : PySem.W.Frag} {h : Heap} {mg : Str → Option Value} {x : Str} {st : Stmt} {ps : List Str} {f : Addr} {oc : Value} {od an : Option Addr} {osl : Array (Option Value)} {kV doc pm cdv ct : Value} (X : K.In h) (G : h.Ns mainGlobals mg)
    (a : PySem.W.nsIn K mainGlobals x = some (some (.ref f))) (l : K.lookup f = some ⟨oc, od, .func (PySem.W.fnOf x x (defArgs st) (defBody st) (defScope st) .none kV doc pm an cdv ct), osl⟩) (c : PySem.W.codeIn K cdv x = true) (k : PySem.W.keepIn K (.ref f) = true)
    (b : ∀ (kV doc pm : Value) (an : Option Addr) (cdv ct : Value) (us : List Value), us.length = ps.length → bindArgs (PySem.W.fnOf x x (defArgs st) (defBody st) (defScope st) .none kV doc pm an cdv ct) ⟨us, []⟩ = pure (ps.zip us)) :
    Df K mg x st ps f (PySem.W.fnOf x x (defArgs st) (defBody st) (defScope st) .none kV doc pm an cdv ct) :=
  ⟨fun_mk l c k, PySem.W.mg_of X G a, (fun_mk (st := st) l c k).binds b⟩
/-- an error of the class at S is what «except S» names -/
theorem exm_me {K : PySem.W.Frag} {S : Addr} (h1 : PySem.W.subIn K (.ref S) (.type "BaseException") = some true) (h2 : PySem.W.isClsIn K S = true) (h3 : PySem.W.typeIn K (.ref S) = some (.type "type")) (h4 : PySem.W.subIn K (.ref S) (.ref S) = some true) :
    PySem.W.exmOne K (.ref S) (.ref S) = some true := by
  have e1 : (PySem.W.subIn K (.ref S) (.type "BaseException") == some true) = true := by rw [h1] <;> rfl
  have e2 : ((PySem.W.clsIn K S).isSome && PySem.W.typeIn K (.ref S) == some (.type "type")) = true := by
    have h2' : (PySem.W.clsIn K S).isSome = true := h2
    rw [h2', h3] <;> rfl
  show (if (PySem.W.subIn K (.ref S) (.type "BaseException") == some true) = true then (if ((PySem.W.clsIn K S).isSome && PySem.W.typeIn K (.ref S) == some (.type "type")) = true then PySem.W.subIn K (.ref S) (.ref S) else none) else none) = some true
  rw [if_pos e1, if_pos e2]
  exact h4
set_option maxHeartbeats 0 in
theorem all_mk {P : Program} {w : World} {K : PySem.W.Frag} {h : Heap} {mg : Str → Option Value} {fa : Addr} (X : K.In h) (G : h.Ns mainGlobals mg) (hfa : mg "law" = some (.ref fa))
    {nm q : Str} {N : Addr} {bs : List Value} {sn : List Str} {sub : List Value} {ab : Bool} {col : Option Bool} {dd : Option Addr} {m0 m1 m2 m3 m5 : Option Value}
    {fI C C0 : Addr} {odI anI : Option Addr} {slI : Array (Option Value)} {ocI kVI dcI pmI cdI ctI : Value}
    {f0 : Addr} {od0 an0 : Option Addr} {sl0 : Array (Option Value)} {oc0 kV0 dc0 pm0 cd0 ct0 : Value}
    {f1 : Addr} {od1 an1 : Option Addr} {sl1 : Array (Option Value)} {oc1 kV1 dc1 pm1 cd1 ct1 : Value}
    {f2 : Addr} {od2 an2 : Option Addr} {sl2 : Array (Option Value)} {oc2 kV2 dc2 pm2 cd2 ct2 : Value}
    {f3 : Addr} {od3 an3 : Option Addr} {sl3 : Array (Option Value)} {oc3 kV3 dc3 pm3 cd3 ct3 : Value}
    {f4 : Addr} {od4 an4 : Option Addr} {sl4 : Array (Option Value)} {oc4 kV4 dc4 pm4 cd4 ct4 : Value}
    {f5 : Addr} {od5 an5 : Option Addr} {sl5 : Array (Option Value)} {oc5 kV5 dc5 pm5 cd5 ct5 : Value}
    {f6 : Addr} {od6 an6 : Option Addr} {sl6 : Array (Option Value)} {oc6 kV6 dc6 pm6 cd6 ct6 : Value}
    {f7 : Addr} {od7 an7 : Option Addr} {sl7 : Array (Option Value)} {oc7 kV7 dc7 pm7 cd7 ct7 : Value}
    {f8 : Addr} {od8 an8 : Option Addr} {sl8 : Array (Option Value)} {oc8 kV8 dc8 pm8 cd8 ct8 : Value}
    {f9 : Addr} {od9 an9 : Option Addr} {sl9 : Array (Option Value)} {oc9 kV9 dc9 pm9 cd9 ct9 : Value}
    {f10 : Addr} {od10 an10 : Option Addr} {sl10 : Array (Option Value)} {oc10 kV10 dc10 pm10 cd10 ct10 : Value}
    {f11 : Addr} {od11 an11 : Option Addr} {sl11 : Array (Option Value)} {oc11 kV11 dc11 pm11 cd11 ct11 : Value}
    {f12 : Addr} {od12 an12 : Option Addr} {sl12 : Array (Option Value)} {oc12 kV12 dc12 pm12 cd12 ct12 : Value}
    {f13 : Addr} {od13 an13 : Option Addr} {sl13 : Array (Option Value)} {oc13 kV13 dc13 pm13 cd13 ct13 : Value}
    {f14 : Addr} {od14 an14 : Option Addr} {sl14 : Array (Option Value)} {oc14 kV14 dc14 pm14 cd14 ct14 : Value}
    {f15 : Addr} {od15 an15 : Option Addr} {sl15 : Array (Option Value)} {oc15 kV15 dc15 pm15 cd15 ct15 : Value}
    {f16 : Addr} {od16 an16 : Option Addr} {sl16 : Array (Option Value)} {oc16 kV16 dc16 pm16 cd16 ct16 : Value}
    {f17 : Addr} {od17 an17 : Option Addr} {sl17 : Array (Option Value)} {oc17 kV17 dc17 pm17 cd17 ct17 : Value}
    {f18 : Addr} {od18 an18 : Option Addr} {sl18 : Array (Option Value)} {oc18 kV18 dc18 pm18 cd18 ct18 : Value}
    {f19 : Addr} {od19 an19 : Option Addr} {sl19 : Array (Option Value)} {oc19 kV19 dc19 pm19 cd19 ct19 : Value}
    {f20 : Addr} {od20 an20 : Option Addr} {sl20 : Array (Option Value)} {oc20 kV20 dc20 pm20 cd20 ct20 : Value}
    {f21 : Addr} {od21 an21 : Option Addr} {sl21 : Array (Option Value)} {oc21 kV21 dc21 pm21 cd21 ct21 : Value}
    {f22 : Addr} {od22 an22 : Option Addr} {sl22 : Array (Option Value)} {oc22 kV22 dc22 pm22 cd22 ct22 : Value}
    {f23 : Addr} {od23 an23 : Option Addr} {sl23 : Array (Option Value)} {oc23 kV23 dc23 pm23 cd23 ct23 : Value}
    (aC : PySem.W.nsIn K mainGlobals "NoUnifier" = some (some (.ref C)))
    (aC0 : PySem.W.nsIn K mainGlobals "WithError" = some (some (.ref C0)))
    (xL : K.lookup C = some (excClassObj nm q C N bs [.ref C0, .type "ValueError", .type "Exception", .type "BaseException", .type "object"] true sn sub ab col dd m0 m1 m2 m3 m5 "ValueError.__new__"))
    (sa : PySem.W.findIn K (.ref C) "__setattr__" = some (some (.builtin "object.__setattr__")))
    (eC : PySem.W.subIn K (.ref C) (.type "BaseException") = some true)
    (tC : PySem.W.typeIn K (.ref C) = some (.type "type"))
    (kC : PySem.W.keepIn K (.ref C) = true)
    (rd0 : PySem.W.readsIn K C0 (.type "type") = true)
    (ga0 : PySem.W.specialIn K (.ref C0) "__getattribute__" = some (some (.builtin "type.__getattribute__")))
    (fd0 : PySem.W.findCls K (.ref C0) (.type "type") "__init__" = some (.val (.builtin "ValueError.__init__")))
    (noP : PySem.W.findIn K (.ref C) "place" = some none)
    (iC : PySem.W.findIn K (.ref C) "__init__" = some (some (.ref fI)))
    (tI : PySem.W.typeIn K (.ref fI) = some (.type "function"))
    (isC : PySem.W.isClsIn K C = true)
    (sC : PySem.W.subIn K (.ref C) (.ref C) = some true)
    (lI : K.lookup fI = some ⟨ocI, odI, .func (PySem.W.fnOf "__init__" "NoUnifier.__init__" (defArgs sInit) (defBody sInit) (defScope sInit) .none kVI dcI pmI anI cdI ctI), slI⟩)
    (cI : PySem.W.codeIn K cdI "NoUnifier.__init__" = true)
    (kI : PySem.W.keepIn K (.ref fI) = true)
    (a0 : PySem.W.nsIn K mainGlobals "is_free" = some (some (.ref f0))) (l0 : K.lookup f0 = some ⟨oc0, od0, .func (PySem.W.fnOf "is_free" "is_free" (defArgs sFree) (defBody sFree) (defScope sFree) .none kV0 dc0 pm0 an0 cd0 ct0), sl0⟩) (c0 : PySem.W.codeIn K cd0 "is_free" = true) (k0 : PySem.W.keepIn K (.ref f0) = true)
    (a1 : PySem.W.nsIn K mainGlobals "variables_of" = some (some (.ref f1))) (l1 : K.lookup f1 = some ⟨oc1, od1, .func (PySem.W.fnOf "variables_of" "variables_of" (defArgs sVars) (defBody sVars) (defScope sVars) .none kV1 dc1 pm1 an1 cd1 ct1), sl1⟩) (c1 : PySem.W.codeIn K cd1 "variables_of" = true) (k1 : PySem.W.keepIn K (.ref f1) = true)
    (a2 : PySem.W.nsIn K mainGlobals "filled" = some (some (.ref f2))) (l2 : K.lookup f2 = some ⟨oc2, od2, .func (PySem.W.fnOf "filled" "filled" (defArgs sFilled) (defBody sFilled) (defScope sFilled) .none kV2 dc2 pm2 an2 cd2 ct2), sl2⟩) (c2 : PySem.W.codeIn K cd2 "filled" = true) (k2 : PySem.W.keepIn K (.ref f2) = true)
    (a3 : PySem.W.nsIn K mainGlobals "known_row" = some (some (.ref f3))) (l3 : K.lookup f3 = some ⟨oc3, od3, .func (PySem.W.fnOf "known_row" "known_row" (defArgs sKrow) (defBody sKrow) (defScope sKrow) .none kV3 dc3 pm3 an3 cd3 ct3), sl3⟩) (c3 : PySem.W.codeIn K cd3 "known_row" = true) (k3 : PySem.W.keepIn K (.ref f3) = true)
    (a4 : PySem.W.nsIn K mainGlobals "leader_of" = some (some (.ref f4))) (l4 : K.lookup f4 = some ⟨oc4, od4, .func (PySem.W.fnOf "leader_of" "leader_of" (defArgs sLeader) (defBody sLeader) (defScope sLeader) .none kV4 dc4 pm4 an4 cd4 ct4), sl4⟩) (c4 : PySem.W.codeIn K cd4 "leader_of" = true) (k4 : PySem.W.keepIn K (.ref f4) = true)
    (a5 : PySem.W.nsIn K mainGlobals "leaders_in_order" = some (some (.ref f5))) (l5 : K.lookup f5 = some ⟨oc5, od5, .func (PySem.W.fnOf "leaders_in_order" "leaders_in_order" (defArgs sOrder) (defBody sOrder) (defScope sOrder) .none kV5 dc5 pm5 an5 cd5 ct5), sl5⟩) (c5 : PySem.W.codeIn K cd5 "leaders_in_order" = true) (k5 : PySem.W.keepIn K (.ref f5) = true)
    (a6 : PySem.W.nsIn K mainGlobals "unified" = some (some (.ref f6))) (l6 : K.lookup f6 = some ⟨oc6, od6, .func (PySem.W.fnOf "unified" "unified" (defArgs sUnified) (defBody sUnified) (defScope sUnified) .none kV6 dc6 pm6 an6 cd6 ct6), sl6⟩) (c6 : PySem.W.codeIn K cd6 "unified" = true) (k6 : PySem.W.keepIn K (.ref f6) = true)
    (a7 : PySem.W.nsIn K mainGlobals "_law_purse" = some (some (.ref f7))) (l7 : K.lookup f7 = some ⟨oc7, od7, .func (PySem.W.fnOf "_law_purse" "_law_purse" (defArgs sPurse) (defBody sPurse) (defScope sPurse) .none kV7 dc7 pm7 an7 cd7 ct7), sl7⟩) (c7 : PySem.W.codeIn K cd7 "_law_purse" = true) (k7 : PySem.W.keepIn K (.ref f7) = true)
    (a8 : PySem.W.nsIn K mainGlobals "_law_draw" = some (some (.ref f8))) (l8 : K.lookup f8 = some ⟨oc8, od8, .func (PySem.W.fnOf "_law_draw" "_law_draw" (defArgs sDraw) (defBody sDraw) (defScope sDraw) .none kV8 dc8 pm8 an8 cd8 ct8), sl8⟩) (c8 : PySem.W.codeIn K cd8 "_law_draw" = true) (k8 : PySem.W.keepIn K (.ref f8) = true)
    (a9 : PySem.W.nsIn K mainGlobals "_law_pick" = some (some (.ref f9))) (l9 : K.lookup f9 = some ⟨oc9, od9, .func (PySem.W.fnOf "_law_pick" "_law_pick" (defArgs sPick) (defBody sPick) (defScope sPick) .none kV9 dc9 pm9 an9 cd9 ct9), sl9⟩) (c9 : PySem.W.codeIn K cd9 "_law_pick" = true) (k9 : PySem.W.keepIn K (.ref f9) = true)
    (a10 : PySem.W.nsIn K mainGlobals "_law_names" = some (some (.ref f10))) (l10 : K.lookup f10 = some ⟨oc10, od10, .func (PySem.W.fnOf "_law_names" "_law_names" (defArgs sNames) (defBody sNames) (defScope sNames) .none kV10 dc10 pm10 an10 cd10 ct10), sl10⟩) (c10 : PySem.W.codeIn K cd10 "_law_names" = true) (k10 : PySem.W.keepIn K (.ref f10) = true)
    (a11 : PySem.W.nsIn K mainGlobals "_law_stock" = some (some (.ref f11))) (l11 : K.lookup f11 = some ⟨oc11, od11, .func (PySem.W.fnOf "_law_stock" "_law_stock" (defArgs sStock) (defBody sStock) (defScope sStock) .none kV11 dc11 pm11 an11 cd11 ct11), sl11⟩) (c11 : PySem.W.codeIn K cd11 "_law_stock" = true) (k11 : PySem.W.keepIn K (.ref f11) = true)
    (a12 : PySem.W.nsIn K mainGlobals "_law_pairs" = some (some (.ref f12))) (l12 : K.lookup f12 = some ⟨oc12, od12, .func (PySem.W.fnOf "_law_pairs" "_law_pairs" (defArgs sPairs) (defBody sPairs) (defScope sPairs) .none kV12 dc12 pm12 an12 cd12 ct12), sl12⟩) (c12 : PySem.W.codeIn K cd12 "_law_pairs" = true) (k12 : PySem.W.keepIn K (.ref f12) = true)
    (a13 : PySem.W.nsIn K mainGlobals "_law_is_name" = some (some (.ref f13))) (l13 : K.lookup f13 = some ⟨oc13, od13, .func (PySem.W.fnOf "_law_is_name" "_law_is_name" (defArgs sIsName) (defBody sIsName) (defScope sIsName) .none kV13 dc13 pm13 an13 cd13 ct13), sl13⟩) (c13 : PySem.W.codeIn K cd13 "_law_is_name" = true) (k13 : PySem.W.keepIn K (.ref f13) = true)
    (a14 : PySem.W.nsIn K mainGlobals "_law_terms" = some (some (.ref f14))) (l14 : K.lookup f14 = some ⟨oc14, od14, .func (PySem.W.fnOf "_law_terms" "_law_terms" (defArgs sTerms) (defBody sTerms) (defScope sTerms) .none kV14 dc14 pm14 an14 cd14 ct14), sl14⟩) (c14 : PySem.W.codeIn K cd14 "_law_terms" = true) (k14 : PySem.W.keepIn K (.ref f14) = true)
    (a15 : PySem.W.nsIn K mainGlobals "_law_lots" = some (some (.ref f15))) (l15 : K.lookup f15 = some ⟨oc15, od15, .func (PySem.W.fnOf "_law_lots" "_law_lots" (defArgs sLots) (defBody sLots) (defScope sLots) .none kV15 dc15 pm15 an15 cd15 ct15), sl15⟩) (c15 : PySem.W.codeIn K cd15 "_law_lots" = true) (k15 : PySem.W.keepIn K (.ref f15) = true)
    (a16 : PySem.W.nsIn K mainGlobals "_law_is_true" = some (some (.ref f16))) (l16 : K.lookup f16 = some ⟨oc16, od16, .func (PySem.W.fnOf "_law_is_true" "_law_is_true" (defArgs sIsTrue) (defBody sIsTrue) (defScope sIsTrue) .none kV16 dc16 pm16 an16 cd16 ct16), sl16⟩) (c16 : PySem.W.codeIn K cd16 "_law_is_true" = true) (k16 : PySem.W.keepIn K (.ref f16) = true)
    (a17 : PySem.W.nsIn K mainGlobals "_law_due" = some (some (.ref f17))) (l17 : K.lookup f17 = some ⟨oc17, od17, .func (PySem.W.fnOf "_law_due" "_law_due" (defArgs sDue) (defBody sDue) (defScope sDue) .none kV17 dc17 pm17 an17 cd17 ct17), sl17⟩) (c17 : PySem.W.codeIn K cd17 "_law_due" = true) (k17 : PySem.W.keepIn K (.ref f17) = true)
    (a18 : PySem.W.nsIn K mainGlobals "_law_by_classes" = some (some (.ref f18))) (l18 : K.lookup f18 = some ⟨oc18, od18, .func (PySem.W.fnOf "_law_by_classes" "_law_by_classes" (defArgs sClasses) (defBody sClasses) (defScope sClasses) .none kV18 dc18 pm18 an18 cd18 ct18), sl18⟩) (c18 : PySem.W.codeIn K cd18 "_law_by_classes" = true) (k18 : PySem.W.keepIn K (.ref f18) = true)
    (a19 : PySem.W.nsIn K mainGlobals "_law_told" = some (some (.ref f19))) (l19 : K.lookup f19 = some ⟨oc19, od19, .func (PySem.W.fnOf "_law_told" "_law_told" (defArgs sTold) (defBody sTold) (defScope sTold) .none kV19 dc19 pm19 an19 cd19 ct19), sl19⟩) (c19 : PySem.W.codeIn K cd19 "_law_told" = true) (k19 : PySem.W.keepIn K (.ref f19) = true)
    (a20 : PySem.W.nsIn K mainGlobals "_law_is_steady" = some (some (.ref f20))) (l20 : K.lookup f20 = some ⟨oc20, od20, .func (PySem.W.fnOf "_law_is_steady" "_law_is_steady" (defArgs sSteady) (defBody sSteady) (defScope sSteady) .none kV20 dc20 pm20 an20 cd20 ct20), sl20⟩) (c20 : PySem.W.codeIn K cd20 "_law_is_steady" = true) (k20 : PySem.W.keepIn K (.ref f20) = true)
    (a21 : PySem.W.nsIn K mainGlobals "_law_is_filled" = some (some (.ref f21))) (l21 : K.lookup f21 = some ⟨oc21, od21, .func (PySem.W.fnOf "_law_is_filled" "_law_is_filled" (defArgs sIsFilled) (defBody sIsFilled) (defScope sIsFilled) .none kV21 dc21 pm21 an21 cd21 ct21), sl21⟩) (c21 : PySem.W.codeIn K cd21 "_law_is_filled" = true) (k21 : PySem.W.keepIn K (.ref f21) = true)
    (a22 : PySem.W.nsIn K mainGlobals "_law_is_long" = some (some (.ref f22))) (l22 : K.lookup f22 = some ⟨oc22, od22, .func (PySem.W.fnOf "_law_is_long" "_law_is_long" (defArgs sLong) (defBody sLong) (defScope sLong) .none kV22 dc22 pm22 an22 cd22 ct22), sl22⟩) (c22 : PySem.W.codeIn K cd22 "_law_is_long" = true) (k22 : PySem.W.keepIn K (.ref f22) = true)
    (a23 : PySem.W.nsIn K mainGlobals "law" = some (some (.ref f23))) (l23 : K.lookup f23 = some ⟨oc23, od23, .func (PySem.W.fnOf "law" "law" (defArgs sLaw) (defBody sLaw) (defScope sLaw) .none kV23 dc23 pm23 an23 cd23 ct23), sl23⟩) (c23 : PySem.W.codeIn K cd23 "law" = true) (k23 : PySem.W.keepIn K (.ref f23) = true)
    (bisi : PySem.W.nsIn K mainGlobals "isinstance" = some none)
    (bstr : PySem.W.nsIn K mainGlobals "str" = some none)
    (btup : PySem.W.nsIn K mainGlobals "tuple" = some none)
    (bsrt : PySem.W.nsIn K mainGlobals "sorted" = some none)
    (bset : PySem.W.nsIn K mainGlobals "set" = some none)
    (bdct : PySem.W.nsIn K mainGlobals "dict" = some none)
    (benm : PySem.W.nsIn K mainGlobals "enumerate" = some none)
    (blen : PySem.W.nsIn K mainGlobals "len" = some none)
    (bsum : PySem.W.nsIn K mainGlobals "sum" = some none)
    (bint : PySem.W.nsIn K mainGlobals "int" = some none)
    (brng : PySem.W.nsIn K mainGlobals "range" = some none)
    (blst : PySem.W.nsIn K mainGlobals "list" = some none)
    (bzip : PySem.W.nsIn K mainGlobals "zip" = some none)
    (brpr : PySem.W.nsIn K mainGlobals "repr" = some none) :
    ∃ fd : FuncData, (∀ (s : Shared) (u : Value), BindsTo s fd ⟨[u], []⟩ [("_law_script", u)]) ∧ ∀ base : Heap, K.In base → base.Ns mainGlobals mg → FnOkG P w K mg base 7 fa fd ["_law_script"] (spLaw K) := by
  have e := hfa.symm.trans (PySem.W.mg_of X G a23)
  cases e
  have D0 := df_mk (x := "is_free") (st := sFree) (ps := ["term"]) X G a0 l0 c0 k0 (fun _ _ _ _ _ _ us hl => match us, hl with | [_], _ => rfl)
  have D1 := df_mk (x := "variables_of") (st := sVars) (ps := ["pattern"]) X G a1 l1 c1 k1 (fun _ _ _ _ _ _ us hl => match us, hl with | [_], _ => rfl)
  have D2 := df_mk (x := "filled") (st := sFilled) (ps := ["pattern", "known"]) X G a2 l2 c2 k2 (fun _ _ _ _ _ _ us hl => match us, hl with | [_, _], _ => rfl)
  have D3 := df_mk (x := "known_row") (st := sKrow) (ps := ["known", "variables"]) X G a3 l3 c3 k3 (fun _ _ _ _ _ _ us hl => match us, hl with | [_, _], _ => rfl)
  have D4 := df_mk (x := "leader_of") (st := sLeader) (ps := ["table", "term"]) X G a4 l4 c4 k4 (fun _ _ _ _ _ _ us hl => match us, hl with | [_, _], _ => rfl)
  have D5 := df_mk (x := "leaders_in_order") (st := sOrder) (ps := ["one", "other"]) X G a5 l5 c5 k5 (fun _ _ _ _ _ _ us hl => match us, hl with | [_, _], _ => rfl)
  have D6 := df_mk (x := "unified") (st := sUnified) (ps := ["equations"]) X G a6 l6 c6 k6 (fun _ _ _ _ _ _ us hl => match us, hl with | [_], _ => rfl)
  have D7 := df_mk (x := "_law_purse") (st := sPurse) (ps := ["_law_script"]) X G a7 l7 c7 k7 (fun _ _ _ _ _ _ us hl => match us, hl with | [_], _ => rfl)
  have D8 := df_mk (x := "_law_draw") (st := sDraw) (ps := ["_law_purse_here", "_law_many"]) X G a8 l8 c8 k8 (fun _ _ _ _ _ _ us hl => match us, hl with | [_, _], _ => rfl)
  have D9 := df_mk (x := "_law_pick") (st := sPick) (ps := ["_law_purse_here", "_law_some"]) X G a9 l9 c9 k9 (fun _ _ _ _ _ _ us hl => match us, hl with | [_, _], _ => rfl)
  have D10 := df_mk (x := "_law_names") (st := sNames) (ps := ["_law_purse_here", "_law_many"]) X G a10 l10 c10 k10 (fun _ _ _ _ _ _ us hl => match us, hl with | [_, _], _ => rfl)
  have D11 := df_mk (x := "_law_stock") (st := sStock) (ps := ["_law_purse_here", "_law_many"]) X G a11 l11 c11 k11 (fun _ _ _ _ _ _ us hl => match us, hl with | [_, _], _ => rfl)
  have D12 := df_mk (x := "_law_pairs") (st := sPairs) (ps := ["_law_purse_here", "_law_names_here", "_law_stock_here", "_law_many"]) X G a12 l12 c12 k12 (fun _ _ _ _ _ _ us hl => match us, hl with | [_, _, _, _], _ => rfl)
  have D13 := df_mk (x := "_law_is_name") (st := sIsName) (ps := ["_law_term"]) X G a13 l13 c13 k13 (fun _ _ _ _ _ _ us hl => match us, hl with | [_], _ => rfl)
  have D14 := df_mk (x := "_law_terms") (st := sTerms) (ps := ["_law_pairs_here", "_law_is_names"]) X G a14 l14 c14 k14 (fun _ _ _ _ _ _ us hl => match us, hl with | [_, _], _ => rfl)
  have D15 := df_mk (x := "_law_lots") (st := sLots) (ps := ["_law_menu", "_law_size"]) X G a15 l15 c15 k15 (fun _ _ _ _ _ _ us hl => match us, hl with | [_, _], _ => rfl)
  have D16 := df_mk (x := "_law_is_true") (st := sIsTrue) (ps := ["_law_pairs_here", "_law_table"]) X G a16 l16 c16 k16 (fun _ _ _ _ _ _ us hl => match us, hl with | [_, _], _ => rfl)
  have D17 := df_mk (x := "_law_due") (st := sDue) (ps := ["_law_names_here", "_law_lots_here"]) X G a17 l17 c17 k17 (fun _ _ _ _ _ _ us hl => match us, hl with | [_, _], _ => rfl)
  have D18 := df_mk (x := "_law_by_classes") (st := sClasses) (ps := ["_law_pairs_here"]) X G a18 l18 c18 k18 (fun _ _ _ _ _ _ us hl => match us, hl with | [_], _ => rfl)
  have D19 := df_mk (x := "_law_told") (st := sTold) (ps := ["_law_pairs_here"]) X G a19 l19 c19 k19 (fun _ _ _ _ _ _ us hl => match us, hl with | [_], _ => rfl)
  have D20 := df_mk (x := "_law_is_steady") (st := sSteady) (ps := ["_law_purse_here", "_law_pairs_here", "_law_due_here"]) X G a20 l20 c20 k20 (fun _ _ _ _ _ _ us hl => match us, hl with | [_, _, _], _ => rfl)
  have D21 := df_mk (x := "_law_is_filled") (st := sIsFilled) (ps := ["_law_purse_here", "_law_pairs_here", "_law_names_here", "_law_every", "_law_due_here"]) X G a21 l21 c21 k21 (fun _ _ _ _ _ _ us hl => match us, hl with | [_, _, _, _, _], _ => rfl)
  have D22 := df_mk (x := "_law_is_long") (st := sLong) (ps := ["_law_purse_here"]) X G a22 l22 c22 k22 (fun _ _ _ _ _ _ us hl => match us, hl with | [_], _ => rfl)
  have D23 := df_mk (x := "law") (st := sLaw) (ps := ["_law_script"]) X G a23 l23 c23 k23 (fun _ _ _ _ _ _ us hl => match us, hl with | [_], _ => rfl)
  have B : Bl mg := ⟨PySem.W.mg_none_of X G bisi, PySem.W.mg_none_of X G bstr, PySem.W.mg_none_of X G btup, PySem.W.mg_none_of X G bsrt, PySem.W.mg_none_of X G bset, PySem.W.mg_none_of X G bdct, PySem.W.mg_none_of X G benm, PySem.W.mg_none_of X G blen, PySem.W.mg_none_of X G bsum, PySem.W.mg_none_of X G bint, PySem.W.mg_none_of X G brng, PySem.W.mg_none_of X G blst, PySem.W.mg_none_of X G bzip, PySem.W.mg_none_of X G brpr⟩
  have FI := fun_mk (st := sInit) lI cI kI
  have bI := FI.binds (ps := ["self", "place"]) fun _ _ _ _ _ _ us hl => match us, hl with | [_, _], _ => rfl
  have XE : Ex K mg C C0 fI _ := ⟨⟨⟨nm, q, N, bs, _, sn, sub, ab, col, dd, m0, m1, m2, m3, m5, xL, (show PySem.HandSPX.refsVE [.type "ValueError", .type "Exception", .type "BaseException", .type "object"] = true by decide +kernel)⟩, sa, eC, tC, kC⟩, PySem.W.mg_of X G aC, PySem.W.mg_of X G aC0, ⟨rd0, ga0, fd0⟩, noP, iC, tI, exm_me eC isC tC sC, FI, bI⟩
  refine ⟨PySem.W.fnOf "law" "law" (defArgs sLaw) (defBody sLaw) (defScope sLaw) .none kV23 dc23 pm23 an23 cd23 ct23, fun s u => .of_eq rfl, fun base _ _ => ?_⟩
  have GU := ok_unified (P := P) (w := w) (base := base) D6 B D0 D1 D4 D5 XE
  have GT := ok_told (P := P) (w := w) (base := base) D19 D6 XE GU
  have GNa := ok_names (P := P) (w := w) (base := base) D10 B D8 D9
  have GSt := ok_stock (P := P) (w := w) (base := base) D11 B D8 D9
  have GPr := ok_pairs (P := P) (w := w) (base := base) D12 B D8 D9
  have GTe := ok_terms (P := P) (w := w) (base := base) D14 B D13
  have GCl := ok_classes (P := P) (w := w) (base := base) D18 B D14 D13
  have GIf := ok_isfilled (P := P) (w := w) (base := base) D21 B D8 D9 D16 D2 D3 D0
  have GSy := ok_steady (P := P) (w := w) (base := base) D20 B D8 D19 GT D6 GU (fun s us hl => match us, hl with | [_], _ => .of_eq rfl)
  have GLg := ok_long (P := P) (w := w) (base := base) D22 B D8 D9 D19 GT
  exact ok_law (P := P) (w := w) (base := base) D23 B D7 D8 D10 GNa D11 GSt D12 GPr D14 GTe D15 D16 D17 D18 GCl D20 GSy D21 GIf D22 GLg D19 GT
theorem walk {l : PySem.W.OpenLaw} {q : Program} {loose : List Str} {XP : (Str → Option Value) → Heap → Prop} {YP : World → Heap → Prop} {d : DefRec} {K : Params → PySem.W.Frag} (hn : l.most = some 63) (hdf : d.params.defaults = [])
    (hY : ∀ (w : World) (h : Heap), YP w h → (K w.params).In h)
    (F : ∀ (w : World) (mg : Str → Option Value) (fa : Addr) (h : Heap), (K w.params).In h → h.Ns mainGlobals mg → mg d.name = some (.ref fa) →
      ∃ fd : FuncData, (∀ (s : Shared) (u : Value), BindsTo s fd ⟨[u], []⟩ [("_law_script", u)]) ∧ ∀ base : Heap, (K w.params).In base → base.Ns mainGlobals mg → FnOkG l.prog w (K w.params) mg base 7 fa fd ["_law_script"] (spLaw (K w.params))) :
    PySem.W.WalkO q loose XP YP l.row.toRowW d [] (fun f vs => PySem.call f vs) := by
  refine Att.attach_call hn hdf fun w s₀ s₁ mg mb fa o pm cd doc a vs ns G Y ho hd hcd hmg hobj hints hlen hg => ?_
  have KX := hY w _ Y
  obtain ⟨fd, hb, hF⟩ := F w mg fa _ KX G.T.g hmg
  exact law_callG (k := 7) KX G.T.g G.T.b G.T.builtins G.T.nolimit hg hobj hints (Nat.le_trans hlen (by decide)) ⟨rfl, by decide, by decide⟩ hF hb (fun H hO hS => ⟨a, ns, rfl, hS, fun _ => rfl⟩)
end U6
set_option Elab.async false
set_option linter.all false
set_option maxRecDepth 100000
open PySem PySem.W PyProof.Rows in
set_option maxRecDepth 100000 in
set_option maxHeartbeats 0 in
theorem PySem.Challenge.cw_onlywith_k06_whole_unified_is_most_gener_holds : PySem.Challenge.rw_onlywith_k06_whole_unified_is_most_gener.Holds := by
  w_on; o_law; k_head; (case hw => w_witness2)
  k_fill
  refine U6.walk (l := PySem.Challenge.rw_onlywith_k06_whole_unified_is_most_gener) rfl rfl (fun w h Y => PySem.W.kIn_of Y) ?F
  case F =>
    intro w mg fa h KX G hmg
    refine' U6.all_mk KX G hmg ?aC ?aC0 ?xL ?sa ?eC ?tC ?kC ?rd0 ?ga0 ?fd0 ?noP ?iC ?tI ?isC ?sC ?lI ?cI ?kI ?a0 ?l0 ?c0 ?k0 ?a1 ?l1 ?c1 ?k1 ?a2 ?l2 ?c2 ?k2 ?a3 ?l3 ?c3 ?k3 ?a4 ?l4 ?c4 ?k4 ?a5 ?l5 ?c5 ?k5 ?a6 ?l6 ?c6 ?k6 ?a7 ?l7 ?c7 ?k7 ?a8 ?l8 ?c8 ?k8 ?a9 ?l9 ?c9 ?k9 ?a10 ?l10 ?c10 ?k10 ?a11 ?l11 ?c11 ?k11 ?a12 ?l12 ?c12 ?k12 ?a13 ?l13 ?c13 ?k13 ?a14 ?l14 ?c14 ?k14 ?a15 ?l15 ?c15 ?k15 ?a16 ?l16 ?c16 ?k16 ?a17 ?l17 ?c17 ?k17 ?a18 ?l18 ?c18 ?k18 ?a19 ?l19 ?c19 ?k19 ?a20 ?l20 ?c20 ?k20 ?a21 ?l21 ?c21 ?k21 ?a22 ?l22 ?c22 ?k22 ?a23 ?l23 ?c23 ?k23 ?bisi ?bstr ?btup ?bsrt ?bset ?bdct ?benm ?blen ?bsum ?bint ?brng ?blst ?bzip ?brpr
    (case aC => k_is)
    (case aC0 => k_is)
    (case xL => k_is)
    (case sa => k_is)
    (case eC => k_is)
    (case tC => k_is)
    (case kC => k_is)
    (case rd0 => k_is)
    (case ga0 => k_is)
    (case fd0 => k_is)
    (case noP => k_is)
    (case iC => k_is)
    (case tI => k_is)
    (case isC => k_is)
    (case sC => first | rfl | k_is)
    (case lI => k_is)
    (case cI => k_is)
    (case kI => k_is)
    (case a0 => k_is)
    (case l0 => k_is)
    (case c0 => k_is)
    (case k0 => k_is)
    (case a1 => k_is)
    (case l1 => k_is)
    (case c1 => k_is)
    (case k1 => k_is)
    (case a2 => k_is)
    (case l2 => k_is)
    (case c2 => k_is)
    (case k2 => k_is)
    (case a3 => k_is)
    (case l3 => k_is)
    (case c3 => k_is)
    (case k3 => k_is)
    (case a4 => k_is)
    (case l4 => k_is)
    (case c4 => k_is)
    (case k4 => k_is)
    (case a5 => k_is)
    (case l5 => k_is)
    (case c5 => k_is)
    (case k5 => k_is)
    (case a6 => k_is)
    (case l6 => k_is)
    (case c6 => k_is)
    (case k6 => k_is)
    (case a7 => k_is)
    (case l7 => k_is)
    (case c7 => k_is)
    (case k7 => k_is)
    (case a8 => k_is)
    (case l8 => k_is)
    (case c8 => k_is)
    (case k8 => k_is)
    (case a9 => k_is)
    (case l9 => k_is)
    (case c9 => k_is)
    (case k9 => k_is)
    (case a10 => k_is)
    (case l10 => k_is)
    (case c10 => k_is)
    (case k10 => k_is)
    (case a11 => k_is)
    (case l11 => k_is)
    (case c11 => k_is)
    (case k11 => k_is)
    (case a12 => k_is)
    (case l12 => k_is)
    (case c12 => k_is)
    (case k12 => k_is)
    (case a13 => k_is)
    (case l13 => k_is)
    (case c13 => k_is)
    (case k13 => k_is)
    (case a14 => k_is)
    (case l14 => k_is)
    (case c14 => k_is)
    (case k14 => k_is)
    (case a15 => k_is)
    (case l15 => k_is)
    (case c15 => k_is)
    (case k15 => k_is)
    (case a16 => k_is)
    (case l16 => k_is)
    (case c16 => k_is)
    (case k16 => k_is)
    (case a17 => k_is)
    (case l17 => k_is)
    (case c17 => k_is)
    (case k17 => k_is)
    (case a18 => k_is)
    (case l18 => k_is)
    (case c18 => k_is)
    (case k18 => k_is)
    (case a19 => k_is)
    (case l19 => k_is)
    (case c19 => k_is)
    (case k19 => k_is)
    (case a20 => k_is)
    (case l20 => k_is)
    (case c20 => k_is)
    (case k20 => k_is)
    (case a21 => k_is)
    (case l21 => k_is)
    (case c21 => k_is)
    (case k21 => k_is)
    (case a22 => k_is)
    (case l22 => k_is)
    (case c22 => k_is)
    (case k22 => k_is)
    (case a23 => k_is)
    (case l23 => k_is)
    (case c23 => k_is)
    (case k23 => k_is)
    (case bisi => k_is)
    (case bstr => k_is)
    (case btup => k_is)
    (case bsrt => k_is)
    (case bset => k_is)
    (case bdct => k_is)
    (case benm => k_is)
    (case blen => k_is)
    (case bsum => k_is)
    (case bint => k_is)
    (case brng => k_is)
    (case blst => k_is)
    (case bzip => k_is)
    (case brpr => k_is)
