import PyProof.Rows.All
import Wide.All
import OpenK.AllK
import Wide.FinOn
import HandS.ForMost
import HandS.TryOnly
import HandS.Defaults
import HandS.Deep
import HandS.TupAny
import HandS.TupMul
import HandS.IsInst
import KE.SortKeyHeap
import KE.DataCmp
import KE.DataMinMax
import HandS.Text
import HandS.Codes
import HandS.ReCall
import HandS.LawCells
import PyProof.StrOps2
import PyProof.P3In
import HandS.SortKw
import HandS.More
import KE.KDictSum
import KE.SortCalls
import KE.SortData
import HandS.DictComp
import HandS.Small
import HandS.Star
import HandS.Style
import HandS.Iter
import HandS.Rev
import KE.GoesNew
import HandS.StrMore
import HandS.Conv
import KE.GoesSet
import HandS.SetTxt0
import HandS.Set
import HandS.SetBool
import KE.KStateDown
import HandS.Ends
import HandS.Words
import HandS.WordsExc
import HandS.Head0
import HandS.Head1
import HandS.Head2
import HandS.HeadEnd
import HandS.HeadHook1
import HandS.HeadHook2
import PySem.Challenge.RW_wordsahead_k15_kept_rows
set_option Elab.async false
set_option linter.all false
set_option maxRecDepth 100000
set_option maxHeartbeats 4000000
section
/-! W1: plain data over the hand layer: what a value stands for, who owns what, steps. -/
namespace Wk
open PySem PySem.Spec PyProof.Rows L2

/-- a value that is not reckoned out on its own -/
noncomputable def hide {α : Type} (a : α) : α := Classical.choose (⟨a, rfl⟩ : ∃ x, x = a)
theorem hide_eq {α : Type} (a : α) : hide a = a := Classical.choose_spec (⟨a, rfl⟩ : ∃ x, x = a)
/-- plain data -/
inductive D where
  | non | bl (b : Bool) | int (i : Int) | str (s : List Nat)
  | tup (xs : List D) | lst (xs : List D)
  | scr (xs : List D)
  | dct (ks vs : List D)
  | obj (c : String) (ns : List String) (vs : List D)
  deriving Inhabited

/-- a value: o: a new object that nobody else holds -/
structure Val where
  o : Bool
  d : D
  deriving Inhabited
abbrev fz (d : D) : Val := ⟨false, d⟩
abbrev ow (d : D) : Val := ⟨true, d⟩

/-- a text as the model has it: its length, its signs -/
def strG (s : List Nat) : Bool := decide (s.length ≤ sizeLine) && s.all fun c => decide (c < 0x110000)

/-! ### what stands for what -/
mutual
inductive Rep (K : PySem.W.Frag) (F : Hp) : V → D → Prop
  | non : Rep K F .non .non
  | bl (b : Bool) : Rep K F (.bl b) (.bl b)
  | int (i : Int) : Rep K F (.int i) (.int i)
  | str (s : List Nat) (h : strG s = true) : Rep K F (.str ⟨s.toArray⟩) (.str s)
  | tup {a : Addr} {vs : List V} {ds : List D} : SqT K F a vs → Reps K F vs ds → Rep K F (.ref a) (.tup ds)
  | lst {a : Addr} {vs : List V} {ds : List D} : F a = some (.lst vs) → Reps K F vs ds → Rep K F (.ref a) (.lst ds)
  | scr {a : Addr} {vs : List V} {ds : List D} : SqL K F a vs → Reps K F vs ds → Rep K F (.ref a) (.scr ds)
  | dctK {a : Addr} {kvs : List (Key × V)} {ks vs : List D} : F a = some (.dK kvs) → Reps K F (kvs.map fun p => kV p.1) ks → Reps K F (kvs.map (·.2)) vs → Rep K F (.ref a) (.dct ks vs)
inductive Reps (K : PySem.W.Frag) (F : Hp) : List V → List D → Prop
  | nil : Reps K F [] []
  | cons {v : V} {vs : List V} {d : D} {ds : List D} : Rep K F v d → Reps K F vs ds → Reps K F (v :: vs) (d :: ds)
end

theorem _root_.L2.Same.seqT {K : PySem.W.Frag} {H H' : Hp} {a : Addr} {xs : List V} (e : Same H H') (h : SqT K H a xs) : SqT K H' a xs := by
  rcases h with (h | ⟨o, h⟩) | h
  · exact .inl (.inl (e _ _ h))
  · exact .inl (.inr ⟨o, e _ _ h⟩)
  · exact .inr h

section
variable {K : PySem.W.Frag} {F F' H H' : Hp}
mutual
theorem Rep.mono (e : Same F F') : ∀ {v : V} {d : D}, Rep K F v d → Rep K F' v d
  | _, _, .non => .non
  | _, _, .bl b => .bl b
  | _, _, .int i => .int i
  | _, _, .str s h => .str s h
  | _, _, .tup h r => .tup (e.seqT h) (Reps.mono e r)
  | _, _, .lst h r => .lst (e _ _ h) (Reps.mono e r)
  | _, _, .scr h r => .scr (e.seq h) (Reps.mono e r)
  | _, _, .dctK h r q => .dctK (e _ _ h) (Reps.mono e r) (Reps.mono e q)
theorem Reps.mono (e : Same F F') : ∀ {vs : List V} {ds : List D}, Reps K F vs ds → Reps K F' vs ds
  | _, _, .nil => .nil
  | _, _, .cons r t => .cons (Rep.mono e r) (Reps.mono e t)
end
theorem Reps.length : ∀ {vs : List V} {ds : List D}, Reps K F vs ds → vs.length = ds.length
  | _, _, .nil => rfl
  | _, _, .cons _ t => congrArg (· + 1) (Reps.length t)
theorem Reps.get : ∀ {vs : List V} {ds : List D} {i : Nat} {d : D}, Reps K F vs ds → ds[i]? = some d → ∃ v, vs[i]? = some v ∧ Rep K F v d
  | _, _, _, _, .nil, e => by simp at e
  | _, _, 0, _, .cons r _, e => by simp at e; subst e; exact ⟨_, rfl, r⟩
  | _, _, i + 1, d, .cons _ t, e => by
    obtain ⟨v, h1, h2⟩ := Reps.get (i := i) (d := d) t (by simpa using e)
    exact ⟨v, by simpa using h1, h2⟩
theorem Reps.get' : ∀ {vs : List V} {ds : List D} {i : Nat} {v : V}, Reps K F vs ds → vs[i]? = some v → ∃ d, ds[i]? = some d ∧ Rep K F v d
  | _, _, _, _, .nil, e => by simp at e
  | _, _, 0, _, .cons r _, e => by simp at e; subst e; exact ⟨_, rfl, r⟩
  | _, _, i + 1, d, .cons _ t, e => by
    obtain ⟨v, h1, h2⟩ := Reps.get' (i := i) (v := d) t (by simpa using e)
    exact ⟨v, by simpa using h1, h2⟩
theorem Reps.append : ∀ {vs ws : List V} {ds es : List D}, Reps K F vs ds → Reps K F ws es → Reps K F (vs ++ ws) (ds ++ es)
  | _, _, _, _, .nil, s => s
  | _, _, _, _, .cons r t, s => .cons r (Reps.append t s)
theorem Reps.split : ∀ {ds es : List D} {vs : List V}, Reps K F vs (ds ++ es) → ∃ v1 v2, vs = v1 ++ v2 ∧ Reps K F v1 ds ∧ Reps K F v2 es
  | [], _, vs, h => ⟨[], vs, rfl, .nil, h⟩
  | d :: ds, es, _, .cons r t => by
    obtain ⟨v1, v2, rfl, h1, h2⟩ := Reps.split (ds := ds) (es := es) t
    exact ⟨_ :: v1, v2, rfl, .cons r h1, h2⟩
theorem Reps.take (n : Nat) {vs : List V} {ds : List D} (h : Reps K F vs ds) : Reps K F (vs.take n) (ds.take n) := by
  induction n generalizing vs ds with
  | zero => simp; exact .nil
  | succ n ih =>
    cases h with
    | nil => simp; exact .nil
    | cons r t => exact .cons r (ih t)
theorem Reps.drop (n : Nat) {vs : List V} {ds : List D} (h : Reps K F vs ds) : Reps K F (vs.drop n) (ds.drop n) := by
  induction n generalizing vs ds with
  | zero => simpa using h
  | succ n ih =>
    cases h with
    | nil => simp; exact .nil
    | cons r t => exact ih t
theorem Reps.reverse {vs : List V} {ds : List D} (h : Reps K F vs ds) : Reps K F vs.reverse ds.reverse := by
  induction ds generalizing vs with
  | nil => cases h; exact .nil
  | cons d ds ih =>
    cases h with
    | cons r t =>
      rw [List.reverse_cons, List.reverse_cons]
      exact (ih t).append (.cons r .nil)
theorem Reps.set {vs : List V} {ds : List D} {v : V} {d : D} (h : Reps K F vs ds) (r : Rep K F v d) (i : Nat) : Reps K F (vs.set i v) (ds.set i d) := by
  induction ds generalizing vs i with
  | nil => cases h; exact .nil
  | cons e ds ih =>
    cases h with
    | cons q t =>
      cases i with
      | zero => exact .cons r t
      | succ i => exact .cons q (ih t i)
end

/-- what an owned object holds -/
def Cell (K : PySem.W.Frag) (F H : Hp) (a : Addr) : D → Prop
  | .lst ds => ∃ vs, H a = some (.lst vs) ∧ Reps K F vs ds
  | .dct ks ds => ∃ kvs, H a = some (.dK kvs) ∧ Reps K F (kvs.map fun p => kV p.1) ks ∧ Reps K F (kvs.map (·.2)) ds
  | _ => False
def VOk (K : PySem.W.Frag) (F H : Hp) (x : V) (v : Val) : Prop :=
  if v.o = true then ∃ a, x = .ref a ∧ F a = none ∧ Cell K F H a v.d else Rep K F x v.d
theorem VOk.fz {K : PySem.W.Frag} {F H : Hp} {x : V} {d : D} : VOk K F H x (fz d) ↔ Rep K F x d := by simp [VOk]
theorem VOk.ow {K : PySem.W.Frag} {F H : Hp} {x : V} {d : D} : VOk K F H x (ow d) ↔ ∃ a, x = .ref a ∧ F a = none ∧ Cell K F H a d := by simp [VOk]

abbrev LV := List (Val × V)
/-- the addresses that are owned -/
def owA : Val × V → List Addr
  | (⟨true, _⟩, .ref a) => [a]
  | _ => []
def ows (L : LV) : List Addr := L.flatMap owA
theorem ows_nil : ows [] = [] := rfl
theorem ows_cons (p : Val × V) (L : LV) : ows (p :: L) = owA p ++ ows L := rfl
theorem ows_append (L M : LV) : ows (L ++ M) = ows L ++ ows M := List.flatMap_append
theorem ows_perm {L M : LV} (h : L.Perm M) : (ows L).Perm (ows M) := h.flatMap_right _
theorem owA_fz (d : D) (x : V) : owA (fz d, x) = [] := rfl
theorem mem_ows {L : LV} {a : Addr} : a ∈ ows L ↔ ∃ d, ((⟨true, d⟩ : Val), V.ref a) ∈ L := by
  unfold ows
  rw [List.mem_flatMap]
  constructor
  · rintro ⟨⟨⟨o, d⟩, x⟩, h1, h2⟩
    cases o with
    | false => simp [owA] at h2
    | true =>
      cases x with
      | ref b => simp [owA] at h2; subst h2; exact ⟨d, h1⟩
      | _ => simp [owA] at h2
  · rintro ⟨d, h⟩
    exact ⟨_, h, by simp [owA]⟩

structure Rel (K : PySem.W.Frag) (L : LV) (F H : Hp) : Prop where
  sub : Same F H
  ok : ∀ p ∈ L, VOk K F H p.2 p.1
  nd : (ows L).Nodup

theorem Cell.some {K : PySem.W.Frag} {F H : Hp} {a : Addr} {d : D} (h : Cell K F H a d) : ∃ o, H a = some o := by
  cases d with
  | lst ds => obtain ⟨vs, e, _⟩ := h; exact ⟨_, e⟩
  | dct ks ds => obtain ⟨vs, e, _⟩ := h; exact ⟨_, e⟩
  | _ => exact h.elim
theorem Cell.mono {K : PySem.W.Frag} {F F' H H' : Hp} {a : Addr} {d : D} (h : Cell K F H a d) (m : Same F F') (e : ∀ o, H a = Option.some o → H' a = Option.some o) : Cell K F' H' a d := by
  cases d with
  | lst ds => obtain ⟨vs, e1, r⟩ := h; exact ⟨vs, e _ e1, r.mono m⟩
  | dct ks ds => obtain ⟨vs, e1, r, q⟩ := h; exact ⟨vs, e _ e1, r.mono m, q.mono m⟩
  | _ => exact h.elim

section
variable {K : PySem.W.Frag} {F F' F'' H H' H'' : Hp} {L L' L'' M T : LV}
theorem Rel.perm (r : Rel K L F H) (h : L.Perm M) : Rel K M F H := ⟨r.sub, fun p hp => r.ok p (h.mem_iff.mpr hp), (ows_perm h).nodup_iff.mp r.nd⟩
theorem ows_sub (h : L.Sublist M) : (ows L).Sublist (ows M) := by
  induction h with
  | slnil => exact List.Sublist.refl _
  | cons a h ih => rw [ows_cons]; exact ih.trans (List.sublist_append_right _ _)
  | cons_cons a h ih => rw [ows_cons, ows_cons]; exact (List.Sublist.refl _).append ih
theorem Rel.less (r : Rel K M F H) (h : L.Sublist M) : Rel K L F H := ⟨r.sub, fun p hp => r.ok p (h.subset hp), r.nd.sublist (ows_sub h)⟩
theorem Rel.left (r : Rel K (L ++ M) F H) : Rel K L F H := r.less (List.sublist_append_left _ _)
theorem Rel.right (r : Rel K (L ++ M) F H) : Rel K M F H := r.less (List.sublist_append_right _ _)
theorem Rel.tail {p : Val × V} (r : Rel K (p :: L) F H) : Rel K L F H := r.less (List.sublist_cons_self _ _)
theorem Rel.ow_at (r : Rel K L F H) {a : Addr} (h : a ∈ ows L) : F a = none ∧ ∃ o, H a = some o := by
  obtain ⟨d, hd⟩ := mem_ows.mp h
  obtain ⟨b, e, hF, c⟩ := VOk.ow.mp (r.ok _ hd)
  cases e
  exact ⟨hF, c.some⟩

structure Stp (K : PySem.W.Frag) (L : LV) (F H : Hp) (L' : LV) (F' H' : Hp) : Prop where
  rel : Rel K L' F' H'
  mono : Same F F'
  keep : ∀ a o, H a = some o → a ∉ ows L → H' a = some o ∧ (F a = none → F' a = none)
  own : ∀ a ∈ ows L', a ∈ ows L ∨ H a = none
theorem Stp.refl (r : Rel K L F H) : Stp K L F H L F H := ⟨r, Same.refl _, fun _ _ e _ => ⟨e, fun x => x⟩, fun _ h => .inl h⟩
theorem Stp.trans (a : Stp K L F H L' F' H') (b : Stp K L' F' H' L'' F'' H'') : Stp K L F H L'' F'' H'' := by
  refine ⟨b.rel, a.mono.trans b.mono, fun x o e n => ?_, fun x hx => ?_⟩
  · obtain ⟨h1, h2⟩ := a.keep x o e n
    have n1 : x ∉ ows L' := fun z => (a.own x z).elim n fun q => by rw [e] at q; cases q
    obtain ⟨h3, h4⟩ := b.keep x o h1 n1
    exact ⟨h3, fun z => h4 (h2 z)⟩
  · rcases b.own x hx with h | h
    · exact a.own x h
    · by_cases q : x ∈ ows L
      · exact .inl q
      · refine .inr ?_
        cases e : H x with
        | none => rfl
        | some o =>
          rw [(a.keep x o e q).1] at h
          cases h
theorem Stp.perm (a : Stp K L F H L' F' H') (h : L'.Perm M) : Stp K L F H M F' H' := ⟨a.rel.perm h, a.mono, a.keep, fun x hx => a.own x ((ows_perm h).mem_iff.mpr hx)⟩
theorem Stp.permL (a : Stp K L F H L' F' H') (h : L.Perm M) : Stp K M F H L' F' H' := by
  refine ⟨a.rel, a.mono, fun x o e n => a.keep x o e fun z => n ((ows_perm h).mem_iff.mp z), fun x hx => ?_⟩
  rcases a.own x hx with q | q
  · exact .inl ((ows_perm h).mem_iff.mp q)
  · exact .inr q
theorem Stp.less (a : Stp K L F H L' F' H') (h : M.Sublist L') : Stp K L F H M F' H' := ⟨a.rel.less h, a.mono, a.keep, fun x hx => a.own x ((ows_sub h).subset hx)⟩
theorem Stp.tail {p : Val × V} (a : Stp K L F H (p :: L') F' H') : Stp K L F H L' F' H' := a.less (List.sublist_cons_self _ _)
/-- what is not touched stands -/
theorem VOk.kept {x : V} {v : Val} (h : VOk K F H x v) (m : Same F F') (k : ∀ a o, x = .ref a → v.o = true → H a = some o → H' a = some o ∧ (F a = none → F' a = none)) : VOk K F' H' x v := by
  obtain ⟨o, d⟩ := v
  cases o with
  | false => exact VOk.fz.mpr ((VOk.fz.mp h).mono m)
  | true =>
    obtain ⟨a, rfl, hF, c⟩ := VOk.ow.mp h
    obtain ⟨ob, e⟩ := c.some
    refine VOk.ow.mpr ⟨a, rfl, (k a ob rfl rfl e).2 hF, c.mono m fun o' e' => (k a o' rfl rfl e').1⟩
theorem Stp.frame (a : Stp K L F H L' F' H') (r : Rel K (L ++ T) F H) : Stp K (L ++ T) F H (L' ++ T) F' H' := by
  have nd := r.nd
  rw [ows_append] at nd
  obtain ⟨nL, nT, dj⟩ := List.nodup_append.mp nd
  have kT : ∀ b ∈ ows T, ∀ o, H b = some o → H' b = some o ∧ (F b = none → F' b = none) := fun b hb o e => a.keep b o e fun z => dj b z b hb rfl
  refine ⟨⟨a.rel.sub, fun p hp => ?_, ?_⟩, a.mono, fun x o e n => ?_, fun x hx => ?_⟩
  · rcases List.mem_append.mp hp with hp | hp
    · exact a.rel.ok p hp
    · refine (r.ok p (List.mem_append_right _ hp)).kept a.mono fun b o e eo eH => kT b ?_ o eH
      obtain ⟨⟨o', d⟩, x⟩ := p
      have e1 : o' = true := eo
      have e2 : x = .ref b := e
      subst e1 e2
      exact mem_ows.mpr ⟨d, hp⟩
  · rw [ows_append]
    refine List.nodup_append.mpr ⟨a.rel.nd, nT, fun x hx y hy z => ?_⟩
    subst z
    rcases a.own x hx with q | q
    · exact dj x q x hy rfl
    · obtain ⟨_, o, e⟩ := r.right.ow_at hy
      rw [e] at q; cases q
  · rw [ows_append] at n
    exact a.keep x o e fun z => n (List.mem_append_left _ z)
  · rw [ows_append] at hx ⊢
    rcases List.mem_append.mp hx with hx | hx
    · rcases a.own x hx with q | q
      · exact .inl (List.mem_append_left _ q)
      · exact .inr q
    · exact .inl (List.mem_append_right _ hx)
theorem Stp.frameL (a : Stp K L F H L' F' H') (r : Rel K (T ++ L) F H) : Stp K (T ++ L) F H (T ++ L') F' H' :=
  ((a.frame (T := T) (r.perm List.perm_append_comm)).permL List.perm_append_comm).perm List.perm_append_comm
theorem Stp.frame1 {p : Val × V} (a : Stp K L F H L' F' H') (r : Rel K (p :: L) F H) : Stp K (p :: L) F H (p :: L') F' H' := a.frameL (T := [p]) r
/-- a new object, kept or owned -/
theorem Stp.new {p : Addr} {o : HO} {v : Val} (s : Same F H) (hp : H p = none) (e : (v.o = true ∧ Cell K F (upd H p o) p v.d) ∨ (v.o = false ∧ Rep K (upd F p o) (.ref p) v.d)) :
    ∃ F', Stp K [] F H [(v, .ref p)] F' (upd H p o) := by
  have hF : F p = none := by
    cases q : F p with
    | none => rfl
    | some z => rw [s p z q] at hp; cases hp
  have k : ∀ a z, H a = some z → a ≠ p := fun a z q w => by subst w; rw [hp] at q; cases q
  rcases e with ⟨e, c⟩ | ⟨e, c⟩
  · refine ⟨F, ⟨fun a z q => ?_, fun q hq => ?_, ?_⟩, Same.refl _, fun a z q _ => ⟨by rw [upd_ne (k a z q)]; exact q, fun x => x⟩, fun a ha => ?_⟩
    · have := s a z q
      rw [upd_ne (k a z this)]; exact this
    · rw [List.mem_singleton] at hq; subst hq
      obtain ⟨o', d⟩ := v
      have e' : o' = true := e
      subst e'
      exact VOk.ow.mpr ⟨p, rfl, hF, c⟩
    · obtain ⟨o', d⟩ := v
      have e' : o' = true := e
      subst e'
      simp [ows, owA]
    · obtain ⟨o', d⟩ := v
      have e' : o' = true := e
      subst e'
      simp [ows, owA] at ha
      subst ha
      exact .inr hp
  · refine ⟨upd F p o, ⟨fun a z q => ?_, fun q hq => ?_, ?_⟩, fun a z q => ?_, fun a z q _ => ⟨by rw [upd_ne (k a z q)]; exact q, fun x => by rw [upd_ne (k a z q)]; exact x⟩, fun a ha => ?_⟩
    · by_cases w : a = p
      · subst w; rw [upd_same] at q ⊢; exact q
      · rw [upd_ne w] at q ⊢; exact s a z q
    · rw [List.mem_singleton] at hq; subst hq
      obtain ⟨o', d⟩ := v
      have e' : o' = false := e
      subst e'
      exact VOk.fz.mpr c
    · obtain ⟨o', d⟩ := v
      have e' : o' = false := e
      subst e'
      simp [ows, owA]
    · rw [upd_ne (fun w => by subst w; rw [hF] at q; cases q)]; exact q
    · obtain ⟨o', d⟩ := v
      have e' : o' = false := e
      subst e'
      simp [ows, owA] at ha
/-- a value that needs nothing new -/
theorem Stp.val {x : V} {d : D} (s : Same F H) (r : Rep K F x d) : Stp K [] F H [(fz d, x)] F H := by
  refine ⟨⟨s, fun p hp => ?_, ?_⟩, Same.refl _, fun _ _ e _ => ⟨e, fun z => z⟩, fun a ha => ?_⟩
  · rw [List.mem_singleton] at hp; subst hp; exact VOk.fz.mpr r
  · exact List.nodup_nil
  · exact absurd ha (by simp [ows, owA])
end
theorem same_upd {H : Hp} {p : Addr} {o : HO} (h : H p = none) : Same H (upd H p o) := fun a z q => by
  rw [upd_ne (fun w => by subst w; rw [h] at q; cases q)]; exact q
end Wk
end

section
/-! W2: slots, readings by plain data. -/
namespace Wk
open PySem PySem.Spec PyProof.Rows L2

abbrev Slo := Option Val
abbrev En := List Slo
abbrev XE := En → Option (Val × En)
abbrev XT := En → Option (Bool × En)
inductive Out where
  | nx | rt (v : Val) | bk | ct
abbrev XS := En → Option (Out × En)

/-- slots and their values -/
inductive Zip : En → L2.St → LV → Prop
  | nil : Zip [] [] []
  | skip {e : En} {s : L2.St} {L : LV} {y : Option V} : Zip e s L → Zip (none :: e) (y :: s) L
  | cons {e : En} {s : L2.St} {L : LV} {v : Val} {x : V} : Zip e s L → Zip (some v :: e) (some x :: s) ((v, x) :: L)
theorem Zip.len {e : En} {s : L2.St} {L : LV} (z : Zip e s L) : e.length = s.length := by
  induction z with
  | nil => rfl
  | skip _ ih => simp [ih]
  | cons _ ih => simp [ih]
/-- a slot that holds a value -/
theorem Zip.get {e : En} {s : L2.St} {L : LV} {i : Nat} {v : Val} (z : Zip e s L) (h : e[i]? = some (some v)) :
    ∃ x L1 L2, s[i]? = some (some x) ∧ L = L1 ++ (v, x) :: L2 ∧ Zip (e.set i none) s (L1 ++ L2) ∧ (∀ y, Zip (e.set i none) (s.set i y) (L1 ++ L2)) ∧
      (∀ w, Zip (e.set i (some w)) s (L1 ++ (w, x) :: L2)) ∧ ∀ w y, Zip (e.set i (some w)) (s.set i (some y)) (L1 ++ (w, y) :: L2) := by
  induction z generalizing i with
  | nil => simp at h
  | skip z ih =>
    cases i with
    | zero => simp at h
    | succ i =>
      obtain ⟨x, L1, L2, h1, h2, h3, h3', h4, h5⟩ := ih (i := i) (by simpa using h)
      exact ⟨x, L1, L2, by simpa using h1, h2, by simpa using h3.skip, fun y => by simpa using (h3' y).skip, fun w => by simpa using (h4 w).skip, fun w y => by simpa using (h5 w y).skip⟩
  | @cons e s L v' x' z ih =>
    cases i with
    | zero =>
      simp at h; subst h
      exact ⟨x', [], L, by simp, rfl, by simpa using z.skip, fun y => by simpa using z.skip, fun w => by simpa using z.cons, fun w y => by simpa using z.cons⟩
    | succ i =>
      obtain ⟨x, L1, L2, h1, h2, h3, h3', h4, h5⟩ := ih (i := i) (by simpa using h)
      subst h2
      exact ⟨x, (v', x') :: L1, L2, by simpa using h1, rfl, by simpa using h3.cons, fun y => by simpa using (h3' y).cons, fun w => by simpa using (h4 w).cons, fun w y => by simpa using (h5 w y).cons⟩
/-- a slot that holds none -/
theorem Zip.get0 {e : En} {s : L2.St} {L : LV} {i : Nat} (z : Zip e s L) (h : e[i]? = some none) :
    ∃ L1 L2, L = L1 ++ L2 ∧ (∀ y, Zip e (s.set i y) L) ∧ ∀ w y, Zip (e.set i (some w)) (s.set i (some y)) (L1 ++ (w, y) :: L2) := by
  induction z generalizing i with
  | nil => simp at h
  | @skip e s L y z ih =>
    cases i with
    | zero => exact ⟨[], L, rfl, fun y => by simpa using z.skip, fun w y => by simpa using z.cons⟩
    | succ i =>
      obtain ⟨L1, L2, h1, h2, h3⟩ := ih (i := i) (by simpa using h)
      exact ⟨L1, L2, h1, fun y => by simpa using (h2 y).skip, fun w y => by simpa using (h3 w y).skip⟩
  | @cons e s L v' x' z ih =>
    cases i with
    | zero => simp at h
    | succ i =>
      obtain ⟨L1, L2, h1, h2, h3⟩ := ih (i := i) (by simpa using h)
      subst h1
      exact ⟨(v', x') :: L1, L2, rfl, fun y => by simpa using (h2 y).cons, fun w y => by simpa using (h3 w y).cons⟩
/-- a slot is stored, whatever it held -/
theorem Zip.store {e : En} {s : L2.St} {L : LV} {i : Nat} (z : Zip e s L) (h : i < e.length) (w : Val) (y : V) :
    ∃ L1, L1.Sublist L ∧ ∃ L', Zip (e.set i (some w)) (s.set i (some y)) L' ∧ ((w, y) :: L1).Perm L' := by
  cases q : e[i]? with
  | none => rw [List.getElem?_eq_none_iff] at q; omega
  | some o =>
    cases o with
    | none =>
      obtain ⟨L1, L2, h1, h2, h3⟩ := z.get0 q
      subst h1
      exact ⟨L1 ++ L2, List.Sublist.refl _, _, h3 w y, List.perm_middle.symm⟩
    | some v =>
      obtain ⟨x, L1, L2, h1, h2, _, _, h4, h5⟩ := z.get q
      subst h2
      exact ⟨L1 ++ L2, (List.Sublist.refl L1).append (List.sublist_cons_self _ _), _, h5 w y, List.perm_middle.symm⟩
theorem Zip.det {e : En} {s : L2.St} {L M : LV} (z : Zip e s L) (y : Zip e s M) : L = M := by
  induction z generalizing M with
  | nil => cases y; rfl
  | skip z ih => cases y with | skip y => exact ih y
  | cons z ih => cases y with | cons y => rw [ih y]

/-! ### readings -/
section
variable (K : PySem.W.Frag)
def tE (f : XE) : TE := fun σ H Q => ∃ env L F v env', Zip env σ L ∧ Rel K L F H ∧ f env = some (v, env') ∧
  ∀ x L' F' H', Zip env' σ L' → Stp K L F H ((v, x) :: L') F' H' → Q x H'
def tT (f : XT) : TT := fun σ H Q => ∃ env L F b env', Zip env σ L ∧ Rel K L F H ∧ f env = some (b, env') ∧
  ∀ L' F' H', Zip env' σ L' → Stp K L F H L' F' H' → Q b H'
/-- what is wanted behind a statement -/
def After (ro : List Nat) (Dn : Ends) (σ : L2.St) (L : LV) (F H : Hp) (o : Out) (env' : En) : Prop :=
  ∀ σ' L' F' H', Zip env' σ' L' → (∀ i ∈ ro, σ'[i]? = σ[i]?) → match o with
    | .nx => Stp K L F H L' F' H' → Dn.nx σ' H'
    | .bk => Stp K L F H L' F' H' → Dn.bk σ' H'
    | .ct => Stp K L F H L' F' H' → Dn.ct σ' H'
    | .rt v => ∀ x, Stp K L F H ((v, x) :: L') F' H' → Dn.rt x H'
def tS (ro : List Nat) (f : XS) : TS := fun Dn σ H => ∃ env L F o env', Zip env σ L ∧ Rel K L F H ∧ f env = some (o, env') ∧ After K ro Dn σ L F H o env'
end
def IE (X : Cx) (e : Expr) (f : XE) : Prop := PE X e (tE X.K f)
def IT (X : Cx) (e : Expr) (f : XT) : Prop := PT X e (tT X.K f)
def IS (X : Cx) (ro : List Nat) (s : Stmt) (f : XS) : Prop := PS X s (tS X.K ro f)
def IB (X : Cx) (ro : List Nat) (s : List Stmt) (f : XS) : Prop := PSs X s (tS X.K ro f)

section
variable {X : Cx} {e : Expr} {t u : TE}
theorem _root_.L2.PE.imp (h : PE X e t) (i : ∀ σ H Q, u σ H Q → t σ H Q) : PE X e u := ⟨fun pins s σ H Q I q => h.run pins s σ H Q I (i σ H Q q)⟩
theorem _root_.L2.PT.imp {t u : TT} (h : PT X e t) (i : ∀ σ H Q, u σ H Q → t σ H Q) : PT X e u := ⟨fun pins s σ H Q I q => h.run pins s σ H Q I (i σ H Q q)⟩
theorem _root_.L2.PA.imp {es : List Expr} {t u : TA} (h : PA X es t) (i : ∀ σ H Q, u σ H Q → t σ H Q) : PA X es u := ⟨fun pos pins s σ H Q I q => h.run pos pins s σ H Q I (i σ H Q q)⟩
theorem _root_.L2.PS.imp {s : Stmt} {t u : TS} (h : PS X s t) (i : ∀ D σ H, u D σ H → t D σ H) : PS X s u := ⟨fun pins s σ H D I q => h.run pins s σ H D I (i D σ H q)⟩
theorem _root_.L2.PSs.imp {s : List Stmt} {t u : TS} (h : PSs X s t) (i : ∀ D σ H, u D σ H → t D σ H) : PSs X s u := ⟨fun pins s σ H D I q => h.run pins s σ H D I (i D σ H q)⟩
end

/-! ### the simplest expressions -/
/-- a written value -/
def eC (d : D) : XE := fun env => some (fz d, env)
/-- a slot's value, given away: an owned one is owned no more -/
def eV (i : Nat) : XE := fun env => match env[i]? with
  | some (some v) => some (fz v.d, env.set i (some (fz v.d)))
  | _ => none
/-- a slot's value, moved out -/
def eM (i : Nat) : XE := fun env => match env[i]? with
  | some (some v) => some (v, env.set i none)
  | _ => none

theorem tE_c {K : PySem.W.Frag} {v : V} {d : D} (r : ∀ F, Rep K F v d) {σ : L2.St} {H : Hp} {Q : VK} (h : tE K (eC d) σ H Q) : tC v σ H Q := by
  obtain ⟨env, L, F, w, env', z, rel, e, q⟩ := h
  injection e with e; injection e with e1 e2
  subst e1 e2
  exact q v L F H z ((Stp.val (K := K) rel.sub (r F)).frame (T := L) rel)
section
variable {X : Cx} {ro : List Nat} {pos : Pos}
theorem ie_int {i : Int} {j : Nat} : IE X (.Constant (.int i) j pos) (eC (.int i)) := PE.imp pe_int fun _ _ _ => tE_c fun _ => .int i
theorem ie_bl {b : Bool} {j : Nat} : IE X (.Constant (.bool b) j pos) (eC (.bl b)) := PE.imp pe_bl fun _ _ _ => tE_c fun _ => .bl b
theorem ie_non {j : Nat} : IE X (.Constant .none j pos) (eC .non) := PE.imp pe_non fun _ _ _ => tE_c fun _ => .non
theorem ie_str {x : Str} {s : List Nat} {j : Nat} (h : x = ⟨s.toArray⟩) (hg : strG s = true) : IE X (.Constant (.str x) j pos) (eC (.str s)) := by
  subst h
  exact PE.imp pe_str fun _ _ _ => tE_c fun _ => .str s hg

theorem Zip.at {env : En} {σ : L2.St} {L : LV} {i : Nat} {v : Val} (z : Zip env σ L) (h : env[i]? = some (some v)) : ∃ x, σ[i]? = some (some x) ∧ (v, x) ∈ L := by
  obtain ⟨x, L1, L2, h1, h2, _⟩ := z.get h
  exact ⟨x, h1, by rw [h2]; simp⟩
/-- an owned value becomes one of many -/
theorem Stp.freeze {K : PySem.W.Frag} {F H : Hp} {d : D} {x : V} {L : LV} {o : Bool} (r : Rel K ((⟨o, d⟩, x) :: L) F H) : ∃ F', Stp K ((⟨o, d⟩, x) :: L) F H ((fz d, x) :: L) F' H ∧ Rep K F' x d ∧
    ((o = false ∧ F' = F) ∨ ∃ a ob, x = .ref a ∧ H a = some ob ∧ F a = none ∧ o = true ∧ F' = upd F a ob ∧ ((∃ vs, ob = .lst vs) ∨ ∃ kvs, ob = .dK kvs)) := by
  cases o with
  | false => exact ⟨F, .refl r, VOk.fz.mp (r.ok _ List.mem_cons_self), .inl ⟨rfl, rfl⟩⟩
  | true =>
    obtain ⟨a, ex, hF, c⟩ := VOk.ow.mp (r.ok _ List.mem_cons_self)
    have ex : x = .ref a := ex
    subst ex
    obtain ⟨ob, e⟩ := c.some
    have m : Same F (upd F a ob) := same_upd hF
    have na : a ∉ ows L := fun z => by
      have nd := r.nd
      rw [ows_cons] at nd
      exact (List.nodup_append.mp nd).2.2 a (by simp [owA]) a z rfl
    have rep : Rep K (upd F a ob) (.ref a) d := by
      cases d with
      | lst ds => obtain ⟨vs, e1, q⟩ := c; rw [e] at e1; cases e1; exact .lst upd_same (q.mono m)
      | dct ks ds => obtain ⟨kvs, e1, q, q'⟩ := c; rw [e] at e1; cases e1; exact .dctK upd_same (q.mono m) (q'.mono m)
      | _ => exact c.elim
    refine ⟨upd F a ob, ⟨⟨fun b z q => ?_, fun p hp => ?_, ?_⟩, m, fun b z q n => ⟨q, fun w => ?_⟩, fun b hb => ?_⟩, rep, .inr ⟨a, ob, rfl, e, hF, rfl, rfl, ?_⟩⟩
    · by_cases w : b = a
      · subst w; rw [upd_same] at q; cases q; exact e
      · rw [upd_ne w] at q; exact r.sub b z q
    · rcases List.mem_cons.mp hp with rfl | hp2
      · exact VOk.fz.mpr rep
      · refine (r.ok p (List.mem_cons_of_mem _ hp2)).kept m fun b ob' e1 e2 e3 => ⟨e3, fun w => ?_⟩
        rw [upd_ne]
        · exact w
        · intro w'
          subst w'
          obtain ⟨⟨o', d'⟩, x'⟩ := p
          have e2 : o' = true := e2
          have e1 : x' = .ref b := e1
          subst e1 e2
          exact na (mem_ows.mpr ⟨d', hp2⟩)
    · have nd := r.tail.nd
      rw [ows_cons]
      exact nd
    · rw [upd_ne]
      · exact w
      · intro w'
        subst w'
        exact n (by rw [ows_cons]; simp [owA])
    · rw [ows_cons] at hb ⊢
      rcases List.mem_append.mp hb with hb | hb
      · simp [owA] at hb
      · exact .inl (List.mem_append_right _ hb)
    · cases d with
      | lst ds => obtain ⟨vs, e1, q⟩ := c; rw [e] at e1; cases e1; exact .inl ⟨vs, rfl⟩
      | dct ks ds => obtain ⟨kvs, e1, q, q'⟩ := c; rw [e] at e1; cases e1; exact .inr ⟨kvs, rfl⟩
      | _ => exact c.elim
/-- a copy of a frozen entry -/
theorem Stp.dup {K : PySem.W.Frag} {F H : Hp} {d : D} {x : V} {L : LV} (r : Rel K L F H) (h : Rep K F x d) : Stp K L F H ((fz d, x) :: L) F H :=
  ((Stp.val (K := K) r.sub h).frame (T := L) r)

theorem ie_var {i : Nat} {x : Str} (hN : X.N[i]? = some x := by rfl) (hv : Vis X.env.scope x := by first | exact Or.inl rfl | exact Or.inr (Or.inl rfl) | exact Or.inr (Or.inr rfl)) (hd : (x == ("__debug__" : Str)) = false := by decide) (hcd : (x == ("__classdict__" : Str)) = false := by decide) :
    IE X (.Name x pos) (eV i) := by
  refine PE.imp (pe_var hN hv hd hcd) fun σ H Q h => ?_
  obtain ⟨env, L, F, w, env', z, rel, e, q⟩ := h
  unfold eV at e
  split at e
  · rename_i v hv'
    injection e with e; injection e with e1 e2
    subst e1 e2
    obtain ⟨y, L1, L2, h1, h2, _, _, h4, _⟩ := z.get hv'
    subst h2
    obtain ⟨o, d⟩ := v
    obtain ⟨F', st, rp, _⟩ := Stp.freeze (rel.perm (List.perm_middle (a := (⟨o, d⟩, y)) (l₁ := L1) (l₂ := L2)))
    refine ⟨y, h1, q y _ F' H (h4 (fz d)) ?_⟩
    have s2 := st.trans (Stp.dup st.rel rp)
    exact (s2.permL List.perm_middle.symm).perm (List.Perm.cons _ List.perm_middle.symm)
  · cases e
theorem ie_mov {i : Nat} {x : Str} (hN : X.N[i]? = some x := by rfl) (hv : Vis X.env.scope x := by first | exact Or.inl rfl | exact Or.inr (Or.inl rfl) | exact Or.inr (Or.inr rfl)) (hd : (x == ("__debug__" : Str)) = false := by decide) (hcd : (x == ("__classdict__" : Str)) = false := by decide) :
    IE X (.Name x pos) (eM i) := by
  refine PE.imp (pe_var hN hv hd hcd) fun σ H Q h => ?_
  obtain ⟨env, L, F, w, env', z, rel, e, q⟩ := h
  unfold eM at e
  split at e
  · rename_i v hv'
    injection e with e; injection e with e1 e2
    subst e1 e2
    obtain ⟨y, L1, L2, h1, h2, h3, _⟩ := z.get hv'
    subst h2
    exact ⟨y, h1, q y _ F H h3 ((Stp.refl rel).perm List.perm_middle)⟩
  · cases e
end
end Wk
end

section
/-! W3: operands, operators, tests, statements, targets. -/
namespace Wk
open PySem PySem.Spec PyProof.Rows L2

/-! ### operands: a slot is read where it stands, at the end -/
inductive Opd where
  | e (f : XE) | s (i : Nat)
inductive OV where
  | t (v : Val) | s (i : Nat)
def evs : List Opd → En → Option (List OV × En)
  | [], env => some ([], env)
  | .e f :: r, env => (f env).bind fun p => (evs r p.2).bind fun q => some (.t p.1 :: q.1, q.2)
  | .s i :: r, env => match env[i]? with
    | some (some _) => (evs r env).bind fun q => some (.s i :: q.1, q.2)
    | _ => none
def OV.val (env : En) : OV → Option Val
  | .t v => some v
  | .s i => match env[i]? with
    | some (some v) => some v
    | _ => none
def valsO (env : En) : List OV → Option (List Val)
  | [] => some []
  | o :: r => (o.val env).bind fun v => (valsO env r).bind fun vs => some (v :: vs)
inductive Mtc (σ : L2.St) : List OV → List V → LV → Prop
  | nil : Mtc σ [] [] []
  | t {v : Val} {x : V} {os : List OV} {xs : List V} {T : LV} : Mtc σ os xs T → Mtc σ (.t v :: os) (x :: xs) ((v, x) :: T)
  | s {i : Nat} {x : V} {os : List OV} {xs : List V} {T : LV} : σ[i]? = some (some x) → Mtc σ os xs T → Mtc σ (.s i :: os) (x :: xs) T
def tA (K : PySem.W.Frag) (os : List Opd) : TA := fun σ H Q => ∃ env L F ovs env', Zip env σ L ∧ Rel K L F H ∧ evs os env = some (ovs, env') ∧
  ∀ xs T L' F' H', Zip env' σ L' → Stp K L F H (T ++ L') F' H' → Mtc σ ovs xs T → Q xs H'
def tO (K : PySem.W.Frag) : Opd → TE
  | .e f => tE K f
  | .s i => tVar i
def IO (X : Cx) (e : Expr) (o : Opd) : Prop := PE X e (tO X.K o)
def IA (X : Cx) (es : List Expr) (os : List Opd) : Prop := PA X es (tA X.K os)

theorem tA_nil {K : PySem.W.Frag} {σ : L2.St} {H : Hp} {Q : List V → Hp → Prop} (h : tA K [] σ H Q) : Q [] H := by
  obtain ⟨env, L, F, ovs, env', z, rel, e, q⟩ := h
  injection e with e; injection e with e1 e2
  subst e1 e2
  exact q [] [] L F H z (.refl rel) .nil
theorem tA_cons {K : PySem.W.Frag} {o : Opd} {os : List Opd} {σ : L2.St} {H : Hp} {Q : List V → Hp → Prop} (h : tA K (o :: os) σ H Q) :
    tO K o σ H fun x H1 => tA K os σ H1 fun xs H2 => Q (x :: xs) H2 := by
  obtain ⟨env, L, F, ovs, env', z, rel, e, q⟩ := h
  cases o with
  | e f =>
    unfold evs at e
    cases e1 : f env with
    | none => rw [e1] at e; cases e
    | some p =>
      obtain ⟨v, env1⟩ := p
      rw [e1] at e
      simp only [Option.bind_some] at e
      cases e2 : evs os env1 with
      | none => rw [e2] at e; cases e
      | some p2 =>
        obtain ⟨ov2, env2⟩ := p2
        rw [e2] at e
        injection e with e; injection e with e3 e4
        subst e3 e4
        refine ⟨env, L, F, v, env1, z, rel, e1, fun x L1 F1 H1 z1 s1 => ?_⟩
        refine ⟨env1, L1, F1, ov2, env2, z1, s1.rel.tail, e2, fun xs T L' F' H' z2 s2 m => ?_⟩
        have s3 := s1.trans (s2.frame1 s1.rel)
        exact q (x :: xs) ((v, x) :: T) L' F' H' z2 s3 (.t m)
  | s i =>
    unfold evs at e
    split at e
    · rename_i v hv
      obtain ⟨x, hx, _⟩ := z.at hv
      cases e2 : evs os env with
      | none => rw [e2] at e; cases e
      | some p2 =>
        obtain ⟨ov2, env2⟩ := p2
        rw [e2] at e
        injection e with e; injection e with e3 e4
        subst e3 e4
        refine ⟨x, hx, env, L, F, ov2, env2, z, rel, e2, fun xs T L' F' H' z2 s2 m => ?_⟩
        exact q (x :: xs) T L' F' H' z2 s2 (.s hx m)
    · cases e
/-- values and what they stand for -/
inductive VOks (K : PySem.W.Frag) (F H : Hp) : List V → List Val → Prop
  | nil : VOks K F H [] []
  | cons {x : V} {xs : List V} {v : Val} {vs : List Val} : VOk K F H x v → VOks K F H xs vs → VOks K F H (x :: xs) (v :: vs)
theorem vals_ok {K : PySem.W.Frag} {F H : Hp} {env : En} {σ : L2.St} {L : LV} (z : Zip env σ L) (hl : ∀ p ∈ L, VOk K F H p.2 p.1) : ∀ {ovs : List OV} {xs : List V} {T : LV} {vs : List Val},
    Mtc σ ovs xs T → (∀ p ∈ T, VOk K F H p.2 p.1) → valsO env ovs = some vs → VOks K F H xs vs
  | _, _, _, _, .nil, _, e => by injection e with e; subst e; exact .nil
  | .t v :: os, x :: xs, _ :: T, vs, .t m, hT, e => by
    cases e2 : valsO env os with
    | none => simp [valsO, OV.val, e2] at e
    | some vs2 =>
      simp [valsO, OV.val, e2] at e
      subst e
      exact .cons (hT _ List.mem_cons_self) (vals_ok z hl m (fun p hp => hT p (List.mem_cons_of_mem _ hp)) e2)
  | .s i :: os, x :: xs, T, vs, .s hx m, hT, e => by
    cases e1 : (OV.s i).val env with
    | none => simp [valsO, e1] at e
    | some v =>
      cases e2 : valsO env os with
      | none => simp [valsO, e1, e2] at e
      | some vs2 =>
        simp [valsO, e1, e2] at e
        subst e
        unfold OV.val at e1
        simp only at e1
        split at e1
        · rename_i v' hv
          injection e1 with e1; subst e1
          obtain ⟨y, hy, hm⟩ := z.at hv
          rw [hx] at hy; injection hy with hy; injection hy with hy; subst hy
          exact .cons (hl _ hm) (vals_ok z hl m hT e2)
        · cases e1

/-! ### what is reckoned of values alone -/
abbrev Fn := List Val → Option Val
def eApp (g : Fn) (os : List Opd) : XE := fun env => (evs os env).bind fun p => (valsO p.2 p.1).bind fun vs => (g vs).bind fun v => some (v, p.2)
/-- a reading by values does what g says -/
def OkC (K : PySem.W.Frag) (r : List V → Hp → VK → Prop) (g : Fn) : Prop :=
  ∀ F H xs vs v Q, Same F H → VOks K F H xs vs → g vs = some v → (∀ z F' H', Stp K [] F H [(v, z)] F' H' → Q z H') → r xs H Q
theorem app_core {K : PySem.W.Frag} {g : Fn} {os : List Opd} {r : List V → Hp → VK → Prop} (hr : OkC K r g) {σ : L2.St} {H : Hp} {Q : VK} (h : tE K (eApp g os) σ H Q) : tA K os σ H fun xs H1 => r xs H1 Q := by
  obtain ⟨env, L, F, v, env', z, rel, e, q⟩ := h
  unfold eApp at e
  cases e1 : evs os env with
  | none => rw [e1] at e; cases e
  | some p =>
    obtain ⟨ovs, env1⟩ := p
    rw [e1] at e
    simp only [Option.bind_some] at e
    cases e2 : valsO env1 ovs with
    | none => rw [e2] at e; cases e
    | some vs =>
      rw [e2] at e
      simp only [Option.bind_some] at e
      cases e3 : g vs with
      | none => rw [e3] at e; cases e
      | some w =>
        rw [e3] at e
        injection e with e; injection e with e4 e5
        subst e4 e5
        refine ⟨env, L, F, ovs, env1, z, rel, e1, fun xs T L' F' H' z1 s1 m => ?_⟩
        refine hr F' H' xs vs w Q s1.rel.sub (vals_ok z1 (fun p hp => s1.rel.ok p (List.mem_append_right _ hp)) m (fun p hp => s1.rel.ok p (List.mem_append_left _ hp)) e2) e3 fun y F2 H2 s2 => ?_
        have s3 : Stp K (T ++ L') F' H' ((w, y) :: (T ++ L')) F2 H2 := s2.frame (L := []) (T := T ++ L') s1.rel
        exact q y L' F2 H2 z1 ((s1.trans s3).less ((List.sublist_append_right T L').cons_cons _))

section
variable {X : Cx} {ro : List Nat} {pos : Pos} {e a b c : Expr} {es : List Expr} {o oa ob : Opd} {os : List Opd} {f : XE} {g : Fn} {x : Str} {p : Pos} {T id : String}
theorem io_e (h : IE X e f) : IO X e (.e f) := h
theorem io_s {i : Nat} (hN : X.N[i]? = some x := by rfl) (hv : Vis X.env.scope x := by first | exact Or.inl rfl | exact Or.inr (Or.inl rfl) | exact Or.inr (Or.inr rfl)) (hd : (x == ("__debug__" : Str)) = false := by decide) (hcd : (x == ("__classdict__" : Str)) = false := by decide) :
    IO X (.Name x pos) (.s i) := pe_var hN hv hd hcd
theorem ia_nil : IA X [] [] := PA.imp pa_nil fun _ _ _ h => tA_nil h
theorem ia_cons (h : IO X e o) (t : IA X es os) (hs : starEach (e :: es) X.env = (false, eval e X.env) :: starEach es X.env := by rfl) : IA X (e :: es) (o :: os) := PA.imp (pa_cons h t hs) fun _ _ _ h => tA_cons h
/-- two operands in a row -/
def OkR2 (K : PySem.W.Frag) (r : R2) (g : Fn) : Prop := OkC K (fun xs H Q => ∃ x y, xs = [x, y] ∧ r x y H Q) g
def OkR1 (K : PySem.W.Frag) (r : V → Hp → VK → Prop) (g : Fn) : Prop := OkC K (fun xs H Q => ∃ x, xs = [x] ∧ r x H Q) g
theorem op2_core {K : PySem.W.Frag} {r : R2} (hr : OkR2 K r g) {σ : L2.St} {H : Hp} {Q : VK} (h : tE K (eApp g [oa, ob]) σ H Q) : tOp r (tO K oa) (tO K ob) σ H Q := by
  have h1 := tA_cons (app_core hr h)
  have mono : ∀ (o : Opd) (σ : L2.St) (H : Hp) (Q Q' : VK), tO K o σ H Q → (∀ x H, Q x H → Q' x H) → tO K o σ H Q' := fun o σ H Q Q' h i => by
    cases o with
    | e f =>
      obtain ⟨env, L, F, v, env', z, rel, e, q⟩ := h
      exact ⟨env, L, F, v, env', z, rel, e, fun x L' F' H' z s => i x H' (q x L' F' H' z s)⟩
    | s j => obtain ⟨v, e, q⟩ := h; exact ⟨v, e, i v H q⟩
  refine mono oa σ H _ _ h1 fun x H1 h2 => mono ob σ H1 _ _ (tA_cons h2) fun y H2 h3 => ?_
  obtain ⟨x', y', e, q⟩ := tA_nil h3
  injection e with e1 e2; injection e2 with e2 _
  subst e1 e2
  exact q
theorem op1_core {K : PySem.W.Frag} {r : V → Hp → VK → Prop} (hr : OkR1 K r g) {σ : L2.St} {H : Hp} {Q : VK} (h : tE K (eApp g [oa]) σ H Q) : tUn r (tO K oa) σ H Q := by
  have h1 := tA_cons (app_core hr h)
  cases oa with
  | e f =>
    obtain ⟨env, L, F, v, env', z, rel, e, q⟩ := h1
    refine ⟨env, L, F, v, env', z, rel, e, fun x L' F' H' z s => ?_⟩
    obtain ⟨x', e, q⟩ := tA_nil (q x L' F' H' z s)
    injection e with e _
    subst e
    exact q
  | s j =>
    obtain ⟨x, e, h3⟩ := h1
    obtain ⟨x', e', q⟩ := tA_nil h3
    injection e' with e' _
    subst e'
    exact ⟨x, e, q⟩
theorem ie_op {op : Operator} {r : R2} (ho : OpR X (binaryOp op) r) (hr : OkR2 X.K r g) (ha : IO X a oa) (hb : IO X b ob) : IE X (.BinOp a op b pos) (eApp g [oa, ob]) := PE.imp (pe_op ho ha hb) fun _ _ _ => op2_core hr
theorem ie_un {op : UnaryOp} {r : V → Hp → VK → Prop} (ho : UnR X (unaryOp op) r) (hr : OkR1 X.K r g) (ha : IO X a oa) : IE X (.UnaryOp op a pos) (eApp g [oa]) := PE.imp (pe_un ho ha) fun _ _ _ => op1_core hr
theorem ie_cmp {op : CmpOp} {r : R2} (ho : OpR X (compareOp op) r) (hr : OkR2 X.K r g) (ha : IO X a oa) (hb : IO X b ob) (hm : behindInMarks op b = false) : IE X (.Compare a [op] [b] pos) (eApp g [oa, ob]) := PE.imp (pe_cmpR ho ha hb hm) fun _ _ _ => op2_core hr
theorem ie_ix {r : R2} (ho : IxR X r) (hr : OkR2 X.K r g) (ha : IO X a oa) (hb : IO X b ob) (hs : PlainIx b := by exact fun _ _ => rfl) : IE X (.Subscript a b pos) (eApp g [oa, ob]) := PE.imp (pe_ix ho ha hb hs) fun _ _ _ => op2_core hr
theorem ie_callB {r : List V → Hp → VK → Prop} (hc : CallR X (.builtin id) r) (hr : OkC X.K r g) (hg : Gl X x) (hm : X.mg x = none) (hv : bootBuiltins x = some (.builtin id)) (ha : IA X (e :: es) os) (hn : x ≠ "__name__" := by decide) (hdb : (x == ("__debug__" : Str)) = false := by decide)
    (he : starEach (e :: es) X.env = (false, eval e X.env) :: starEach es X.env := by rfl) (hpl : (backTo pos (starEach es X.env)).any (·.1) = false := by rfl) : IE X (.Call (.Name x p) (e :: es) [] pos) (eApp g os) :=
  PE.imp (pe_callB hc hg hm hv ha hn hdb he hpl) fun _ _ _ => app_core hr
theorem ie_callTy {r : List V → Hp → VK → Prop} (hc : CallR X (.type T) r) (hr : OkC X.K r g) (hg : Gl X x) (hm : X.mg x = none) (hv : bootBuiltins x = some (.type T)) (ha : IA X (e :: es) os) (hn : x ≠ "__name__" := by decide) (hdb : (x == ("__debug__" : Str)) = false := by decide)
    (he : starEach (e :: es) X.env = (false, eval e X.env) :: starEach es X.env := by rfl) (hpl : (backTo pos (starEach es X.env)).any (·.1) = false := by rfl) : IE X (.Call (.Name x p) (e :: es) [] pos) (eApp g os) :=
  PE.imp (pe_callTy hc hg hm hv ha hn hdb he hpl) fun _ _ _ => app_core hr

/-! ### tests -/
def tOf (f : XE) : XT := fun env => (f env).bind fun p => match p.1.d with
  | .bl b => some (b, p.2)
  | _ => none
theorem Rep.bl_inv {K : PySem.W.Frag} {F : Hp} {x : V} {b : Bool} (h : Rep K F x (.bl b)) : x = .bl b := by cases h; rfl
theorem Rep.int_inv {K : PySem.W.Frag} {F : Hp} {x : V} {b : Int} (h : Rep K F x (.int b)) : x = .int b := by cases h; rfl
theorem Rep.str_inv {K : PySem.W.Frag} {F : Hp} {x : V} {b : List Nat} (h : Rep K F x (.str b)) : x = .str ⟨b.toArray⟩ ∧ strG b = true := by cases h with | str _ h => exact ⟨rfl, h⟩
theorem Rep.non_inv {K : PySem.W.Frag} {F : Hp} {x : V} (h : Rep K F x .non) : x = .non := by cases h; rfl
theorem VOk.scalar {K : PySem.W.Frag} {F H : Hp} {x : V} {v : Val} (h : VOk K F H x v) (hs : v.o = true → ¬ ∃ a, Cell K F H a v.d) : Rep K F x v.d := by
  obtain ⟨o, d⟩ := v
  cases o with
  | false => exact VOk.fz.mp h
  | true => obtain ⟨a, _, _, c⟩ := VOk.ow.mp h; exact (hs rfl ⟨a, c⟩).elim
theorem VOk.bl {K : PySem.W.Frag} {F H : Hp} {x : V} {o : Bool} {b : Bool} (h : VOk K F H x ⟨o, .bl b⟩) : x = .bl b := (h.scalar fun _ ⟨_, c⟩ => c).bl_inv
theorem VOk.int {K : PySem.W.Frag} {F H : Hp} {x : V} {o : Bool} {b : Int} (h : VOk K F H x ⟨o, .int b⟩) : x = .int b := (h.scalar fun _ ⟨_, c⟩ => c).int_inv
theorem VOk.str {K : PySem.W.Frag} {F H : Hp} {x : V} {o : Bool} {b : List Nat} (h : VOk K F H x ⟨o, .str b⟩) : x = .str ⟨b.toArray⟩ ∧ strG b = true := (h.scalar fun _ ⟨_, c⟩ => c).str_inv
theorem VOk.non {K : PySem.W.Frag} {F H : Hp} {x : V} {o : Bool} (h : VOk K F H x ⟨o, .non⟩) : x = .non := (h.scalar fun _ ⟨_, c⟩ => c).non_inv
theorem VOk.tup {K : PySem.W.Frag} {F H : Hp} {x : V} {o : Bool} {ds : List D} (s : Same F H) (h : VOk K F H x ⟨o, .tup ds⟩) : ∃ a vs, x = .ref a ∧ SqT K F a vs ∧ SqT K H a vs ∧ Reps K F vs ds := by
  have r : Rep K F x (.tup ds) := h.scalar fun _ ⟨_, c⟩ => c
  cases r with
  | tup q r => exact ⟨_, _, rfl, q, s.seqT q, r⟩
theorem VOk.lst {K : PySem.W.Frag} {F H : Hp} {x : V} {o : Bool} {ds : List D} (s : Same F H) (h : VOk K F H x ⟨o, .lst ds⟩) : ∃ a vs, x = .ref a ∧ H a = some (.lst vs) ∧ Reps K F vs ds := by
  cases o with
  | false =>
    have r := VOk.fz.mp h
    cases r with
    | lst q r => exact ⟨_, _, rfl, s _ _ q, r⟩
  | true =>
    obtain ⟨a, e, _, vs, c, r⟩ := VOk.ow.mp h
    exact ⟨a, vs, e, c, r⟩
theorem tOf_core {K : PySem.W.Frag} {σ : L2.St} {H : Hp} {Q : Bool → Hp → Prop} (h : tT K (tOf f) σ H Q) : tE K f σ H fun x H1 => ∃ c, x = .bl c ∧ Q c H1 := by
  obtain ⟨env, L, F, b, env', z, rel, e, q⟩ := h
  unfold tOf at e
  cases e1 : f env with
  | none => rw [e1] at e; cases e
  | some p =>
    obtain ⟨⟨o, d⟩, env1⟩ := p
    rw [e1] at e
    simp only [Option.bind_some] at e
    cases d with
    | bl b' =>
      injection e with e; injection e with e2 e3
      subst e2 e3
      exact ⟨env, L, F, _, env1, z, rel, e1, fun x L' F' H' z1 s1 => ⟨b', (s1.rel.ok _ List.mem_cons_self).bl, q L' F' H' z1 s1.tail⟩⟩
    | _ => cases e
theorem it_val (h : IE X e f) (he : ∀ whole, isTrue e X.env whole = (do let v ← whole; standAt e.pos; holding [v] (truthy v)) := by intro _; rfl) : IT X e (tOf f) := PT.imp (pt_val h he) fun _ _ _ => tOf_core
theorem it_cmp {op : CmpOp} {r : R2} (ho : OpR X (compareOp op) r) (hr : OkR2 X.K r g) (ha : IO X a oa) (hb : IO X b ob) (hm : behindInMarks op b = false) : IT X (.Compare a [op] [b] pos) (tOf (eApp g [oa, ob])) :=
  PT.imp (pt_cmpR ho ha hb hm) fun σ H Q h => op2_core hr (tOf_core h)
def tNot (f : XT) : XT := fun env => (f env).bind fun p => some (!p.1, p.2)
def tAnd (f g : XT) : XT := fun env => (f env).bind fun p => if p.1 = true then g p.2 else some (false, p.2)
def tOr (f g : XT) : XT := fun env => (f env).bind fun p => if p.1 = true then some (true, p.2) else g p.2
def IW (X : Cx) (e : Expr) (f : XT) : Prop := PW X e (tT X.K f)
theorem tT_bind {K : PySem.W.Frag} {f : XT} {k : Bool × En → Option (Bool × En)} {σ : L2.St} {H : Hp} {Q : Bool → Hp → Prop} (h : tT K (fun env => (f env).bind k) σ H Q) :
    tT K f σ H fun b H1 => ∃ env L F b' env', Zip env σ L ∧ Rel K L F H1 ∧ k (b, env) = some (b', env') ∧ ∀ L' F' H', Zip env' σ L' → Stp K L F H1 L' F' H' → Q b' H' := by
  obtain ⟨env, L, F, b, env', z, rel, e, q⟩ := h
  cases e1 : f env with
  | none => simp only [e1] at e; cases e
  | some p =>
    obtain ⟨b1, env1⟩ := p
    simp only [e1, Option.bind_some] at e
    exact ⟨env, L, F, b1, env1, z, rel, e1, fun L1 F1 H1 z1 s1 => ⟨env1, L1, F1, b, env', z1, s1.rel, e, fun L' F' H' z2 s2 => q L' F' H' z2 (s1.trans s2)⟩⟩
theorem tT_mono {K : PySem.W.Frag} {f : XT} {σ : L2.St} {H : Hp} {Q Q' : Bool → Hp → Prop} (h : tT K f σ H Q) (i : ∀ b H, Q b H → Q' b H) : tT K f σ H Q' := by
  obtain ⟨env, L, F, b, env', z, rel, e, q⟩ := h
  exact ⟨env, L, F, b, env', z, rel, e, fun L' F' H' z s => i _ _ (q L' F' H' z s)⟩
theorem it_not {f : XT} (h : IT X a f) : IT X (.UnaryOp .Not a pos) (Wk.tNot f) := PT.imp (pt_not h) fun σ H Q q => tT_mono (tT_bind q) fun b H1 ⟨env, L, F, b', env', z, rel, e, k⟩ => by
  injection e with e; injection e with e1 e2
  subst e1 e2
  exact k L F H1 z (.refl rel)
theorem it_w {f : XT} (h : IW X e f) : IT X e f := PW.pt h
theorem iw_and1 {f : XT} (h : IT X a f) : IW X (.BoolOp .And [a] pos) f := pw_and1 h
theorem iw_or1 {f : XT} (h : IT X a f) : IW X (.BoolOp .Or [a] pos) f := pw_or1 h
theorem _root_.L2.PW.imp {t u : TT} (h : PW X e t) (i : ∀ σ H Q, u σ H Q → t σ H Q) : PW X e u := ⟨fun wh pins s σ H Q I q => h.run wh pins s σ H Q I (i σ H Q q)⟩
theorem iw_and {f g : XT} (h : IT X a f) (hb : IW X (.BoolOp .And (b :: es) pos) g) : IW X (.BoolOp .And (a :: b :: es) pos) (Wk.tAnd f g) := PW.imp (pw_and h hb) fun σ H Q q => tT_mono (tT_bind q) fun c H1 ⟨env, L, F, b', env', z, rel, e, k⟩ => by
  cases c with
  | true =>
    rw [if_pos rfl]
    exact ⟨env, L, F, b', env', z, rel, (by simpa using e), k⟩
  | false =>
    simp at e
    obtain ⟨e1, e2⟩ := e
    subst e1 e2
    rw [if_neg (by decide)]
    exact k L F H1 z (.refl rel)
theorem iw_or {f g : XT} (h : IT X a f) (hb : IW X (.BoolOp .Or (b :: es) pos) g) : IW X (.BoolOp .Or (a :: b :: es) pos) (Wk.tOr f g) := PW.imp (pw_or h hb) fun σ H Q q => tT_mono (tT_bind q) fun c H1 ⟨env, L, F, b', env', z, rel, e, k⟩ => by
  cases c with
  | false =>
    rw [if_neg (by decide)]
    exact ⟨env, L, F, b', env', z, rel, (by simpa using e), k⟩
  | true =>
    simp at e
    obtain ⟨e1, e2⟩ := e
    subst e1 e2
    rw [if_pos rfl]
    exact k L F H1 z (.refl rel)
/-- and, or, not as values, of truth values -/
def eAnd (f g : XE) : XE := fun env => (f env).bind fun p => match p.1.d with
  | .bl true => g p.2
  | .bl false => some (fz (.bl false), p.2)
  | _ => none
def eOr (f g : XE) : XE := fun env => (f env).bind fun p => match p.1.d with
  | .bl true => some (fz (.bl true), p.2)
  | .bl false => g p.2
  | _ => none
def eNot (f : XE) : XE := fun env => (f env).bind fun p => match p.1.d with
  | .bl b => some (fz (.bl (!b)), p.2)
  | _ => none
def eIf (c : XT) (f g : XE) : XE := fun env => (c env).bind fun p => if p.1 = true then f p.2 else g p.2
theorem tE_bind {K : PySem.W.Frag} {f : XE} {k : Val × En → Option (Val × En)} {σ : L2.St} {H : Hp} {Q : VK} (h : tE K (fun env => (f env).bind k) σ H Q) :
    tE K f σ H fun x H1 => ∃ env L F v w env', Zip env σ L ∧ Rel K ((v, x) :: L) F H1 ∧ k (v, env) = some (w, env') ∧ ∀ y L' F' H', Zip env' σ L' → Stp K ((v, x) :: L) F H1 ((w, y) :: L') F' H' → Q y H' := by
  obtain ⟨env, L, F, b, env', z, rel, e, q⟩ := h
  cases e1 : f env with
  | none => simp only [e1] at e; cases e
  | some p =>
    obtain ⟨b1, env1⟩ := p
    simp only [e1, Option.bind_some] at e
    exact ⟨env, L, F, b1, env1, z, rel, e1, fun x L1 F1 H1 z1 s1 => ⟨env1, L1, F1, b1, b, env', z1, s1.rel, e, fun y L' F' H' z2 s2 => q y L' F' H' z2 (s1.trans s2)⟩⟩
theorem tE_mono {K : PySem.W.Frag} {f : XE} {σ : L2.St} {H : Hp} {Q Q' : VK} (h : tE K f σ H Q) (i : ∀ x H, Q x H → Q' x H) : tE K f σ H Q' := by
  obtain ⟨env, L, F, b, env', z, rel, e, q⟩ := h
  exact ⟨env, L, F, b, env', z, rel, e, fun x L' F' H' z s => i _ _ (q x L' F' H' z s)⟩
theorem Stp.less1 {K : PySem.W.Frag} {F H F' H' : Hp} {p : Val × V} {L L' : LV} (r : Rel K (p :: L) F H) (s : Stp K L F H L' F' H') : Stp K (p :: L) F H L' F' H' := (s.frame1 r).tail
theorem ie_and {f g : XE} (h : IE X a f) (hb : IE X (.BoolOp .And (b :: es) pos) g) : IE X (.BoolOp .And (a :: b :: es) pos) (eAnd f g) := PE.imp (pe_and h hb) fun σ H Q q => tE_mono (tE_bind q) fun x H1 ⟨env, L, F, v, w, env', z, rel, e, k⟩ => by
  obtain ⟨o, d⟩ := v
  simp only at e
  split at e
  · refine ⟨true, (rel.ok _ List.mem_cons_self).bl, ?_⟩
    rw [if_pos rfl]
    exact ⟨env, L, F, w, env', z, rel.tail, e, fun y L' F' H' z' s => k y L' F' H' z' (Stp.less1 rel s)⟩
  · injection e with e; injection e with e1 e2
    subst e1 e2
    refine ⟨false, (rel.ok _ List.mem_cons_self).bl, ?_⟩
    rw [if_neg (by decide)]
    exact k _ L F H1 z (Stp.less1 rel (Stp.dup rel.tail (.bl false)))
  · cases e
theorem ie_or {f g : XE} (h : IE X a f) (hb : IE X (.BoolOp .Or (b :: es) pos) g) : IE X (.BoolOp .Or (a :: b :: es) pos) (eOr f g) := PE.imp (pe_or h hb) fun σ H Q q => tE_mono (tE_bind q) fun x H1 ⟨env, L, F, v, w, env', z, rel, e, k⟩ => by
  obtain ⟨o, d⟩ := v
  simp only at e
  split at e
  · injection e with e; injection e with e1 e2
    subst e1 e2
    refine ⟨true, (rel.ok _ List.mem_cons_self).bl, ?_⟩
    rw [if_pos rfl]
    exact k _ L F H1 z (Stp.less1 rel (Stp.dup rel.tail (.bl true)))
  · refine ⟨false, (rel.ok _ List.mem_cons_self).bl, ?_⟩
    rw [if_neg (by decide)]
    exact ⟨env, L, F, w, env', z, rel.tail, e, fun y L' F' H' z' s => k y L' F' H' z' (Stp.less1 rel s)⟩
  · cases e
theorem ie_one {op : BoolOp} (h : IE X a f) : IE X (.BoolOp op [a] pos) f := pe_one h
theorem ie_not {f : XE} (h : IE X a f) : IE X (.UnaryOp .Not a pos) (eNot f) := PE.imp (pe_not h) fun σ H Q q => tE_mono (tE_bind q) fun x H1 ⟨env, L, F, v, w, env', z, rel, e, k⟩ => by
  obtain ⟨o, d⟩ := v
  simp only at e
  split at e
  · injection e with e; injection e with e1 e2
    subst e1 e2
    exact ⟨_, (rel.ok _ List.mem_cons_self).bl, k _ L F H1 z (Stp.less1 rel (Stp.dup rel.tail (.bl _)))⟩
  · cases e
theorem ie_if {t : XT} {f g : XE} (hc : IT X c t) (ha : IE X a f) (hb : IE X b g) : IE X (.IfExp c a b pos) (eIf t f g) := PE.imp (pe_ifExp hc ha hb) fun σ H Q h => by
  obtain ⟨env, L, F, w, env', z, rel, e, q⟩ := h
  unfold eIf at e
  cases e1 : t env with
  | none => rw [e1] at e; cases e
  | some p =>
    obtain ⟨b1, env1⟩ := p
    rw [e1] at e
    simp only [Option.bind_some] at e
    refine ⟨env, L, F, b1, env1, z, rel, e1, fun L1 F1 H1 z1 s1 => ?_⟩
    cases b1 with
    | true =>
      rw [if_pos rfl] at e ⊢
      exact ⟨env1, L1, F1, w, env', z1, s1.rel, e, fun x L' F' H' z' s => q x L' F' H' z' (s1.trans s)⟩
    | false =>
      rw [if_neg (by decide)] at e ⊢
      exact ⟨env1, L1, F1, w, env', z1, s1.rel, e, fun x L' F' H' z' s => q x L' F' H' z' (s1.trans s)⟩
end
end Wk
end

section
/-! W4: statements, targets, loops. -/
namespace Wk
open PySem PySem.Spec PyProof.Rows L2

def bNil : XS := fun env => some (.nx, env)
def bCons (f g : XS) : XS := fun env => (f env).bind fun p => match p.1 with
  | .nx => g p.2
  | .bk => some (.bk, p.2)
  | .ct => some (.ct, p.2)
  | .rt v => some (.rt v, p.2)
def sBk : XS := fun env => some (.bk, env)
def sCt : XS := fun env => some (.ct, env)
def sDrop (f : XE) : XS := fun env => (f env).bind fun p => some (.nx, p.2)
def sRet (f : XE) : XS := fun env => (f env).bind fun p => some (.rt p.1, p.2)
def sRetN : XS := fun env => some (.rt (fz .non), env)
def sIf (c : XT) (f g : XS) : XS := fun env => (c env).bind fun p => if p.1 = true then f p.2 else g p.2
def gN (i : Nat) : Val → En → Option En := fun v env => if i < env.length then some (env.set i (some v)) else none
def sSet (g : Val → En → Option En) (f : XE) : XS := fun env => (f env).bind fun p => (g p.1 p.2).bind fun e => some (.nx, e)
def gL : List (Val → En → Option En) → List D → En → Option En
  | [], [], env => some env
  | g :: gs, d :: ds, env => (g (fz d) env).bind fun e => gL gs ds e
  | _, _, _ => none
def gT (gs : List (Val → En → Option En)) : Val → En → Option En := fun v env => match v.d with
  | .tup ds => gL gs ds env
  | .lst ds => gL gs ds env
  | _ => none
abbrev XI := En → Option (List D × En)
def forL (g : Val → En → Option En) (b : XS) : List D → En → Option (Out × En)
  | [], env => some (.nx, env)
  | d :: ds, env => (g (fz d) env).bind fun e => (b e).bind fun p => match p.1 with
    | .nx => forL g b ds p.2
    | .ct => forL g b ds p.2
    | .bk => some (.nx, p.2)
    | .rt v => some (.rt v, p.2)
def sFor (it : XI) (g : Val → En → Option En) (b : XS) : XS := fun env => (it env).bind fun p => forL g b p.1 p.2
def whL (c : XT) (b : XS) : Nat → En → Option (Out × En)
  | 0, _ => none
  | n + 1, env => (c env).bind fun p => if p.1 = true then (b p.2).bind fun q => (match q.1 with
      | .nx => whL c b n q.2
      | .ct => whL c b n q.2
      | .bk => some (.nx, q.2)
      | .rt v => some (.rt v, q.2))
    else some (.nx, p.2)
open Classical in
noncomputable def sWh (c : XT) (b : XS) : XS := fun env => if h : ∃ r n, whL c b n env = some r then some (Classical.choose h) else none

section
variable {K : PySem.W.Frag} {ro : List Nat} {Dn : Ends} {σ σ1 : L2.St} {L L1 : LV} {F F1 H H1 : Hp} {o : Out} {env env' : En}
theorem After.trans (h : After K ro Dn σ L F H o env') (s : Stp K L F H L1 F1 H1) (hr : ∀ i ∈ ro, σ1[i]? = σ[i]?) : After K ro Dn σ1 L1 F1 H1 o env' := by
  intro σ' L' F' H' z hr'
  have h2 := h σ' L' F' H' z fun i hi => (hr' i hi).trans (hr i hi)
  cases o with
  | nx => exact fun s' => h2 (s.trans s')
  | bk => exact fun s' => h2 (s.trans s')
  | ct => exact fun s' => h2 (s.trans s')
  | rt v => exact fun x s' => h2 x (s.trans s')
theorem tS_bind {ro : List Nat} {f : XE} {k : Val × En → Option (Out × En)} {σ : L2.St} {H : Hp} {Dn : Ends} (h : tS K ro (fun env => (f env).bind k) Dn σ H) :
    tE K f σ H fun x H1 => ∃ env L F v o env', Zip env σ L ∧ Rel K ((v, x) :: L) F H1 ∧ k (v, env) = some (o, env') ∧ After K ro Dn σ ((v, x) :: L) F H1 o env' := by
  obtain ⟨env, L, F, o, env', z, rel, e, q⟩ := h
  cases e1 : f env with
  | none => simp only [e1] at e; cases e
  | some p =>
    obtain ⟨b1, env1⟩ := p
    simp only [e1, Option.bind_some] at e
    exact ⟨env, L, F, b1, env1, z, rel, e1, fun x L1 F1 H1 z1 s1 => ⟨env1, L1, F1, b1, o, env', z1, s1.rel, e, q.trans s1 fun _ _ => rfl⟩⟩
end

section
variable {X : Cx} {ro : List Nat} {pos : Pos} {e a b c iter tg : Expr} {es : List Expr} {st : Stmt} {sts tts : List Stmt} {f g k : XS} {h : XE} {x : Str} {p : Pos}
theorem ib_nil : IB X ro [] bNil := PSs.imp pss_nil fun D σ H ⟨env, L, F, o, env', z, rel, e, q⟩ => by
  injection e with e; injection e with e1 e2
  subst e1 e2
  exact q σ L F H z (fun _ _ => rfl) (.refl rel)
theorem ib_cons (h1 : IS X ro st f) (h2 : IB X ro sts g) : IB X ro (st :: sts) (bCons f g) := PSs.imp (pss_cons h1 h2) fun D σ H ⟨env, L, F, o, env', z, rel, e, q⟩ => by
  unfold bCons at e
  cases e1 : f env with
  | none => rw [e1] at e; cases e
  | some r =>
    obtain ⟨o1, env1⟩ := r
    rw [e1] at e
    simp only [Option.bind_some] at e
    refine ⟨env, L, F, o1, env1, z, rel, e1, ?_⟩
    intro σ1 L1 F1 H1 z1 hr
    cases o1 with
    | nx =>
      intro s1
      exact ⟨env1, L1, F1, o, env', z1, s1.rel, e, q.trans s1 hr⟩
    | bk => injection e with e; injection e with e2 e3; subst e2 e3; exact q σ1 L1 F1 H1 z1 hr
    | ct => injection e with e; injection e with e2 e3; subst e2 e3; exact q σ1 L1 F1 H1 z1 hr
    | rt v => injection e with e; injection e with e2 e3; subst e2 e3; exact q σ1 L1 F1 H1 z1 hr
theorem is_pass : IS X ro (.Pass pos) bNil := PS.imp ps_pass fun D σ H ⟨env, L, F, o, env', z, rel, e, q⟩ => by
  injection e with e; injection e with e1 e2
  subst e1 e2
  exact q σ L F H z (fun _ _ => rfl) (.refl rel)
theorem is_break : IS X ro (.Break pos) sBk := PS.imp ps_break fun D σ H ⟨env, L, F, o, env', z, rel, e, q⟩ => by
  injection e with e; injection e with e1 e2
  subst e1 e2
  exact q σ L F H z (fun _ _ => rfl) (.refl rel)
theorem is_continue : IS X ro (.Continue pos) sCt := PS.imp ps_continue fun D σ H ⟨env, L, F, o, env', z, rel, e, q⟩ => by
  injection e with e; injection e with e1 e2
  subst e1 e2
  exact q σ L F H z (fun _ _ => rfl) (.refl rel)
theorem is_drop (he : IE X e h) (hs : swapsWith e none pos.line X.env = pure false := by rfl) : IS X ro (.Expr e pos) (sDrop h) := PS.imp (ps_expr he hs) fun D σ H q => tE_mono (tS_bind q) fun x H1 ⟨env, L, F, v, o, env', z, rel, e, k⟩ => by
  injection e with e; injection e with e1 e2
  subst e1 e2
  exact k σ L F H1 z (fun _ _ => rfl) (Stp.refl rel).tail
theorem is_ret (he : IE X e h) : IS X ro (.Return (some e) pos) (sRet h) := PS.imp (ps_ret he) fun D σ H q => tE_mono (tS_bind q) fun x H1 ⟨env, L, F, v, o, env', z, rel, e, k⟩ => by
  injection e with e; injection e with e1 e2
  subst e1 e2
  exact k σ L F H1 z (fun _ _ => rfl) x (Stp.refl rel)
theorem is_retN : IS X ro (.Return none pos) sRetN := PS.imp ps_retN fun D σ H ⟨env, L, F, o, env', z, rel, e, q⟩ => by
  injection e with e; injection e with e1 e2
  subst e1 e2
  exact q σ L F H z (fun _ _ => rfl) .non (Stp.dup rel .non)
theorem is_if {t : XT} (hc : IT X c t) (ha : IB X ro sts f) (hb : IB X ro tts g) : IS X ro (.If c sts tts pos) (sIf t f g) := PS.imp (ps_if hc ha hb) fun D σ H ⟨env, L, F, o, env', z, rel, e, q⟩ => by
  unfold sIf at e
  cases e1 : t env with
  | none => rw [e1] at e; cases e
  | some r =>
    obtain ⟨b1, env1⟩ := r
    rw [e1] at e
    simp only [Option.bind_some] at e
    refine ⟨env, L, F, b1, env1, z, rel, e1, fun L1 F1 H1 z1 s1 => ?_⟩
    cases b1 with
    | true =>
      rw [if_pos rfl] at e ⊢
      exact ⟨env1, L1, F1, o, env', z1, s1.rel, e, q.trans s1 fun _ _ => rfl⟩
    | false =>
      rw [if_neg (by decide)] at e ⊢
      exact ⟨env1, L1, F1, o, env', z1, s1.rel, e, q.trans s1 fun _ _ => rfl⟩

/-! ### targets -/
def tG (K : PySem.W.Frag) (ro : List Nat) (g : Val → En → Option En) : TG := fun x σ H Q => ∃ env L F v env', Zip env σ L ∧ Rel K ((v, x) :: L) F H ∧ g v env = some env' ∧
  ∀ σ' L' F' H', Zip env' σ' L' → σ'.length = σ.length → (∀ i ∈ ro, σ'[i]? = σ[i]?) → Stp K ((v, x) :: L) F H L' F' H' → Q σ' H'
def tGs (K : PySem.W.Frag) (ro : List Nat) (gs : List (Val → En → Option En)) : TGs := fun xs σ H Q => ∃ env L F ds env', Zip env σ L ∧ Rel K L F H ∧ Reps K F xs ds ∧ gL gs ds env = some env' ∧
  ∀ σ' L' F' H', Zip env' σ' L' → σ'.length = σ.length → (∀ i ∈ ro, σ'[i]? = σ[i]?) → Stp K L F H L' F' H' → Q σ' H'
def IG (X : Cx) (ro : List Nat) (tg : Expr) (g : Val → En → Option En) : Prop := PG X tg (tG X.K ro g)
def IGs (X : Cx) (ro : List Nat) (ts : List Expr) (gs : List (Val → En → Option En)) : Prop := PGs X ts (tGs X.K ro gs)
theorem _root_.L2.PG.imp {t u : TG} (h : PG X tg t) (i : ∀ v σ H Q, u v σ H Q → t v σ H Q) : PG X tg u := ⟨fun pins s σ H v w Q I r q => h.run pins s σ H v w Q I r (i v σ H Q q)⟩
theorem _root_.L2.PGs.imp {t u : TGs} (h : PGs X es t) (i : ∀ v σ H Q, u v σ H Q → t v σ H Q) : PGs X es u := ⟨fun pins s σ H v w Q I r q => h.run pins s σ H v w Q I r (i v σ H Q q)⟩
theorem ig_name {i : Nat} (hN : X.N.Nodup) (hr : i ∉ ro) (hi : X.N[i]? = some x := by rfl) (hx : Loc X.env.scope x := by first | exact Or.inl rfl | exact Or.inr rfl) (hf : X.fn x = true ∨ X.env.scope.names.lookup x = some .local := by first | exact .inl rfl | exact .inr rfl) : IG X ro (.Name x pos) (gN i) :=
  PG.imp (pg_name hN hi hx hf) fun x σ H Q ⟨env, L, F, v, env', z, rel, e, q⟩ => by
    unfold gN at e
    split at e
    · rename_i hl
      injection e with e; subst e
      obtain ⟨L1, h1, L2, z2, h2⟩ := z.store hl v x
      refine q _ L2 F H z2 (by simp) (fun j hj => ?_) (((Stp.refl rel).less (h1.cons_cons _)).perm h2)
      exact List.getElem?_set_ne (show i ≠ j from fun w => hr (by rw [w]; exact hj))
    · cases e
theorem igs_nil : IGs X ro [] [] := PGs.imp pgs_nil fun xs σ H Q ⟨env, L, F, ds, env', z, rel, r, e, q⟩ => by
  cases ds with
  | nil =>
    cases r
    injection e with e; subst e
    exact ⟨rfl, q σ L F H z rfl (fun _ _ => rfl) (.refl rel)⟩
  | cons d ds => cases e
theorem igs_cons {g : Val → En → Option En} {gs : List (Val → En → Option En)} (h1 : IG X ro e g) (h2 : IGs X ro es gs) (hs : (assignEach (e :: es) X.env).map (·.2) = assign e X.env :: (assignEach es X.env).map (·.2) := by rfl) : IGs X ro (e :: es) (g :: gs) :=
  PGs.imp (pgs_cons h1 h2 hs) fun xs σ H Q ⟨env, L, F, ds, env', z, rel, r, e, q⟩ => by
    cases ds with
    | nil => cases e
    | cons d ds =>
      cases r with
      | @cons x xs _ _ r1 r2 =>
        unfold gL at e
        cases e1 : g (fz d) env with
        | none => rw [e1] at e; cases e
        | some env1 =>
          rw [e1] at e
          simp only [Option.bind_some] at e
          refine ⟨x, xs, rfl, env, L, F, fz d, env1, z, (Stp.dup rel r1).rel, e1, fun σ1 L1 F1 H1 z1 hn1 hr s1 => ?_⟩
          have s2 := (Stp.dup rel r1).trans s1
          exact ⟨env1, L1, F1, ds, env', z1, s1.rel, r2.mono s1.mono, e, fun σ' L' F' H' z' hn' hr' s' => q σ' L' F' H' z' (hn'.trans hn1) (fun i hi => (hr' i hi).trans (hr i hi)) (s2.trans s')⟩
theorem gL_len : ∀ {gs : List (Val → En → Option En)} {ds : List D} {env env' : En}, gL gs ds env = some env' → ds.length = gs.length
  | [], [], _, _, _ => rfl
  | g :: gs, d :: ds, env, env', e => by
    unfold gL at e
    cases e1 : g (fz d) env with
    | none => rw [e1] at e; cases e
    | some env1 =>
      rw [e1] at e
      simp [gL_len e]
  | [], _ :: _, _, _, e => by cases e
  | _ :: _, [], _, _, e => by cases e
theorem _root_.L2.PG.either {tg : Expr} {t u : TG} (h : PG X tg t) (i : PG X tg u) : PG X tg fun v σ H Q => t v σ H Q ∨ u v σ H Q := ⟨fun pins s σ H v w Q I r q => q.elim (h.run pins s σ H v w Q I r) (i.run pins s σ H v w Q I r)⟩
theorem ig_tup {gs : List (Val → En → Option En)} {k : Nat} (hc : X.calm = true) (h : IGs X ro es gs) (hl : es.length = gs.length := by rfl) (hn : (assignEach es X.env).length = es.length := by rfl) (hst : (assignEach es X.env).findIdx? (·.1) = none := by rfl) :
    IG X ro (.Tuple es k pos) (gT gs) := PG.imp (PG.either (pg_tup (n := gs.length) hc h (hn.trans hl) hst) (pg_lst (n := gs.length) hc h (hn.trans hl) hst)) fun x σ H Q ⟨env, L, F, v, env', z, rel, e, q⟩ => by
  unfold gT at e
  obtain ⟨o, d⟩ := v
  cases d with
  | lst ds =>
    have e : gL gs ds env = some env' := e
    obtain ⟨a, vs, rfl, hH, r⟩ := (rel.ok _ List.mem_cons_self).lst rel.sub
    refine .inr ⟨a, vs, rfl, .inl (.inl hH), ?_, env, L, F, ds, env', z, rel.tail, r, e, fun σ' L' F' H' z' hn' hr s => q σ' L' F' H' z' hn' hr (Stp.less1 rel s)⟩
    rw [r.length]
    exact gL_len e
  | tup ds =>
    have e : gL gs ds env = some env' := e
    obtain ⟨a, vs, rfl, hF, hH, r⟩ := (rel.ok _ List.mem_cons_self).tup rel.sub
    refine .inl ⟨a, vs, rfl, hH, ?_, env, L, F, ds, env', z, rel.tail, r, e, fun σ' L' F' H' z' hn' hr s => q σ' L' F' H' z' hn' hr (Stp.less1 rel s)⟩
    rw [r.length]
    exact gL_len e
  | _ => cases e
theorem is_asg {g : Val → En → Option En} (he : IE X e h) (hg : IG X ro tg g) (hs : swapsWithSole [tg] e pos.line X.env = pure false := by rfl) (hw : swappedStores [tg] e X.env = pure none := by rfl)
    (h1 : (assignEach [tg] X.env).map (·.2) = [assign tg X.env] := by rfl) : IS X ro (.Assign [tg] e pos) (sSet g h) := PS.imp (ps_asg he hg hs hw h1) fun D σ H q => tE_mono (tS_bind q) fun x H1 ⟨env, L, F, v, o, env', z, rel, e, k⟩ => by
  cases e1 : g v env with
  | none => simp [e1] at e
  | some env1 =>
    simp [e1] at e
    obtain ⟨e2, e3⟩ := e
    subst e2 e3
    exact ⟨env, L, F, v, env1, z, rel, e1, fun σ' L' F' H' z' hn' hr s' => k σ' L' F' H' z' hr s'⟩
theorem is_set {i : Nat} {pos' : Pos} (hN : X.N.Nodup) (hr : i ∉ ro) (he : IE X e h) (hi : X.N[i]? = some x := by rfl) (hx : Loc X.env.scope x := by first | exact Or.inl rfl | exact Or.inr rfl) (hs : swapsWith e (some (.Name x pos')) pos.line X.env = pure false := by rfl) (hf : X.fn x = true ∨ X.env.scope.names.lookup x = some .local := by first | exact .inl rfl | exact .inr rfl) :
    IS X ro (.Assign [.Name x pos'] e pos) (sSet (gN i) h) := PS.imp (ps_set hN hi hx he hs hf) fun D σ H q => tE_mono (tS_bind q) fun x H1 ⟨env, L, F, v, o, env', z, rel, e, k⟩ => by
  cases e1 : gN i v env with
  | none => simp [e1] at e
  | some env1 =>
    simp [e1] at e
    obtain ⟨e2, e3⟩ := e
    subst e2 e3
    unfold gN at e1
    split at e1
    · rename_i hl
      injection e1 with e1; subst e1
      obtain ⟨L1, h1, L2, z2, h2⟩ := z.store hl v x
      refine k _ L2 F H1 z2 (fun j hj => ?_) (((Stp.refl rel).less (h1.cons_cons _)).perm h2)
      exact List.getElem?_set_ne (show i ≠ j from fun w => hr (by rw [w]; exact hj))
    · cases e1

/-! ### loops -/
def Walk (K : PySem.W.Frag) (J : It) (ds : List D) (Fb : Hp) : Prop :=
  ∀ F H i, Same Fb F → Same F H → (∀ d, ds[i]? = some d → J.go i H ∧ ∀ x H', J.yld i H x H' → ∃ F', Stp K [] F H [(fz d, x)] F' H') ∧ (ds.length ≤ i → J.stop i H)
def tI (K : PySem.W.Frag) (f : XI) : TI := fun σ H R => ∃ env L F ds env', Zip env σ L ∧ Rel K L F H ∧ f env = some (ds, env') ∧
  ∀ J L' F' H', Zip env' σ L' → Stp K L F H L' F' H' → Walk K J ds F' → R J H'
def II (X : Cx) (tg iter : Expr) (f : XI) : Prop := PI X tg iter (tI X.K f)
theorem _root_.L2.PI.imp {t u : TI} (h : PI X tg iter t) (i : ∀ σ H R, u σ H R → t σ H R) : PI X tg iter u := ⟨fun pins s σ H R I q => h.run pins s σ H R I (i σ H R q)⟩
theorem is_for {it : XI} {g : Val → En → Option En} (hp : PassesOwn (model X.prog X.w) X.A X.env X.xe) (hc : X.calm = true) (hi : II X tg iter it) (hg : IG X ro tg g) (hb : IB X ro sts f)
    (hs : ∀ x, foldedSetIterable iter X.env x = pure x := by intro _; rfl) : IS X ro (.For tg iter sts [] pos) (sFor it g f) := PS.imp (ps_for hp hc hi hg hb hs) fun D σ H ⟨env, L, F, o, env', z, rel, e, q⟩ => by
  unfold sFor at e
  cases e1 : it env with
  | none => rw [e1] at e; cases e
  | some r =>
    obtain ⟨ds, env1⟩ := r
    rw [e1] at e
    simp only [Option.bind_some] at e
    refine ⟨env, L, F, ds, env1, z, rel, e1, fun J L1 F1 H1 z1 s1 w => ?_⟩
    refine ⟨fun i m σ H => i + m = ds.length ∧ ∃ env L F o env', Zip env σ L ∧ Rel X.K L F H ∧ Same F1 F ∧ forL g f (ds.drop i) env = some (o, env') ∧ After X.K ro D σ L F H o env',
      ⟨ds.length, Nat.zero_add _, env1, L1, F1, o, env', z1, s1.rel, Same.refl _, by simpa using e, q.trans s1 fun _ _ => rfl⟩, ?_⟩
    rintro i m σ2 H2 ⟨him, env2, L2, F2, o2, env2', z2, rel2, m2, e2, q2⟩
    obtain ⟨w1, w2⟩ := w F2 H2 i m2 rel2.sub
    by_cases hlt : i < ds.length
    · have hd : ds[i]? = some ds[i] := List.getElem?_eq_getElem hlt
      obtain ⟨go, yl⟩ := w1 _ hd
      have ed : ds.drop i = ds[i] :: ds.drop (i + 1) := List.drop_eq_getElem_cons hlt
      rw [ed] at e2
      unfold forL at e2
      cases e3 : g (fz ds[i]) env2 with
      | none => rw [e3] at e2; cases e2
      | some env3 =>
        rw [e3] at e2
        simp only [Option.bind_some] at e2
        cases e4 : f env3 with
        | none => rw [e4] at e2; cases e2
        | some r4 =>
          obtain ⟨o4, env4⟩ := r4
          rw [e4] at e2
          simp only [Option.bind_some] at e2
          refine .inr ⟨go, fun σ' H' => i + 1 + (m - 1) = ds.length ∧ ∃ env L F o env', Zip env σ' L ∧ Rel X.K L F H' ∧ Same F1 F ∧ forL g f (ds.drop (i + 1)) env = some (o, env') ∧ After X.K ro D σ' L F H' o env', fun σ' H' h => ⟨m - 1, by omega, h⟩, fun x H3 hy => ?_⟩
          obtain ⟨F3, s3⟩ := yl x H3 hy
          have s3' := s3.frame (L := []) (T := L2) rel2
          refine ⟨env2, L2, F3, fz ds[i], env3, z2, s3'.rel, e3, fun σ4 L4 F4 H4 z4 hn4 hr4 s4 => ?_⟩
          have s5 := s3'.trans s4
          refine ⟨env3, L4, F4, o4, env4, z4, s4.rel, e4, ?_⟩
          intro σ5 L5 F5 H5 z5 hr5
          cases o4 with
          | nx =>
            intro s6
            refine ⟨by omega, env4, L5, F5, o2, env2', z5, s6.rel, m2.trans (s5.mono.trans s6.mono), e2, ?_⟩
            exact (q2.trans s5 hr4).trans s6 hr5
          | ct =>
            intro s6
            refine ⟨by omega, env4, L5, F5, o2, env2', z5, s6.rel, m2.trans (s5.mono.trans s6.mono), e2, ?_⟩
            exact (q2.trans s5 hr4).trans s6 hr5
          | bk =>
            intro s6
            injection e2 with e2; injection e2 with e5 e6
            subst e5 e6
            exact q2 σ5 L5 F5 H5 z5 (fun i hi => (hr5 i hi).trans (hr4 i hi)) (s5.trans s6)
          | rt v =>
            intro x s6
            injection e2 with e2; injection e2 with e5 e6
            subst e5 e6
            exact q2 σ5 L5 F5 H5 z5 (fun i hi => (hr5 i hi).trans (hr4 i hi)) x (s5.trans s6)
    · have ed : ds.drop i = [] := List.drop_eq_nil_iff.mpr (by omega)
      rw [ed] at e2
      injection e2 with e2; injection e2 with e5 e6
      subst e5 e6
      exact .inl ⟨w2 (by omega), q2 σ2 L2 F2 H2 z2 (fun _ _ => rfl) (.refl rel2)⟩
theorem whL_mono {c : XT} {b : XS} : ∀ {n : Nat} {env : En} {r : Out × En}, whL c b n env = some r → ∀ m, n ≤ m → whL c b m env = some r
  | 0, _, _, h, _, _ => by cases h
  | n + 1, env, r, h, m, hm => by
    obtain ⟨m', rfl⟩ : ∃ m', m = m' + 1 := ⟨m - 1, by omega⟩
    unfold whL at h ⊢
    cases e1 : c env with
    | none => rw [e1] at h; cases h
    | some p =>
      rw [e1] at h
      simp only [Option.bind_some] at h ⊢
      split at h
      · rename_i hp
        rw [if_pos hp]
        cases e2 : b p.2 with
        | none => rw [e2] at h; cases h
        | some q =>
          rw [e2] at h
          simp only [Option.bind_some] at h ⊢
          obtain ⟨o, env2⟩ := q
          cases o with
          | nx => exact whL_mono h m' (by omega)
          | ct => exact whL_mono h m' (by omega)
          | bk => exact h
          | rt v => exact h
      · rename_i hp
        rw [if_neg hp]
        exact h
theorem sWh_of {c : XT} {b : XS} {n : Nat} {env : En} {r : Out × En} (h : whL c b n env = some r) : sWh c b env = some r := by
  have hx : ∃ r n, whL c b n env = some r := ⟨r, n, h⟩
  unfold sWh
  rw [dif_pos hx]
  obtain ⟨m, hm⟩ := Classical.choose_spec hx
  have h1 := whL_mono h (max n m) (Nat.le_max_left _ _)
  have h2 := whL_mono hm (max n m) (Nat.le_max_right _ _)
  rw [← h2, h1]
theorem sWh_inv {c : XT} {b : XS} {env : En} {r : Out × En} (h : sWh c b env = some r) : ∃ n, whL c b n env = some r := by
  unfold sWh at h
  split at h
  · rename_i hx
    injection h with h
    rw [← h]
    exact Classical.choose_spec hx
  · cases h
theorem is_while {t : XT} (hp : PassesOwn (model X.prog X.w) X.A X.env X.xe) (hc : IT X c t) (hb : IB X ro sts f) : IS X ro (.While c sts [] pos) (sWh t f) := PS.imp (ps_while hp hc hb) fun D σ H ⟨env, L, F, o, env', z, rel, e, q⟩ => by
  obtain ⟨n, e⟩ := sWh_inv e
  refine ⟨fun m σ H => ∃ env L F o env', Zip env σ L ∧ Rel X.K L F H ∧ whL t f m env = some (o, env') ∧ After X.K ro D σ L F H o env', ⟨n, env, L, F, o, env', z, rel, e, q⟩, ?_⟩
  rintro m σ2 H2 ⟨env2, L2, F2, o2, env2', z2, rel2, e2, q2⟩
  cases m with
  | zero => cases e2
  | succ m =>
    unfold whL at e2
    cases e3 : t env2 with
    | none => rw [e3] at e2; cases e2
    | some r =>
      obtain ⟨b3, env3⟩ := r
      rw [e3] at e2
      simp only [Option.bind_some] at e2
      refine ⟨env2, L2, F2, b3, env3, z2, rel2, e3, fun L3 F3 H3 z3 s3 => ?_⟩
      cases b3 with
      | false =>
        rw [if_neg (by decide)] at e2 ⊢
        injection e2 with e2; injection e2 with e5 e6
        subst e5 e6
        exact q2 σ2 L3 F3 H3 z3 (fun _ _ => rfl) s3
      | true =>
        rw [if_pos rfl] at e2 ⊢
        cases e4 : f env3 with
        | none => rw [e4] at e2; cases e2
        | some r4 =>
          obtain ⟨o4, env4⟩ := r4
          rw [e4] at e2
          simp only [Option.bind_some] at e2
          refine ⟨fun σ' H' => ∃ env L F o env', Zip env σ' L ∧ Rel X.K L F H' ∧ whL t f m env = some (o, env') ∧ After X.K ro D σ' L F H' o env', fun σ' H' h => ⟨m, Nat.lt_succ_self _, h⟩, env3, L3, F3, o4, env4, z3, s3.rel, e4, ?_⟩
          intro σ5 L5 F5 H5 z5 hr5
          cases o4 with
          | nx => exact fun s6 => ⟨env4, L5, F5, o2, env2', z5, s6.rel, e2, (q2.trans s3 fun _ _ => rfl).trans s6 hr5⟩
          | ct => exact fun s6 => ⟨env4, L5, F5, o2, env2', z5, s6.rel, e2, (q2.trans s3 fun _ _ => rfl).trans s6 hr5⟩
          | bk =>
            intro s6
            injection e2 with e2; injection e2 with e5 e6
            subst e5 e6
            exact q2 σ5 L5 F5 H5 z5 hr5 (s3.trans s6)
          | rt v =>
            intro x s6
            injection e2 with e2; injection e2 with e5 e6
            subst e5 e6
            exact q2 σ5 L5 F5 H5 z5 hr5 x (s3.trans s6)
end
end Wk
end

section
/-! W5: what loops walk; comprehensions. -/
namespace Wk
open PySem PySem.Spec PyProof.Rows L2

/-! ### lists, tuples, texts walked -/
def itemsOf : D → Option (List D)
  | .lst ds => some ds
  | .scr ds => some ds
  | .tup ds => some ds
  | .str s => some (s.map fun c => .str [c])
  | _ => none
def xSeq (f : XE) : XI := fun env => (f env).bind fun p => (itemsOf p.1.d).bind fun ds => some (ds, p.2)
section
variable {K : PySem.W.Frag} {F H Fb : Hp} {ds : List D} {a : Addr} {vs : List V}
theorem walk_lst (h : SqL K Fb a vs) (r : Reps K Fb vs ds) : Walk K (Itl K a) ds Fb := fun F H i m s => by
  have hq := s.seq (m.seq h)
  refine ⟨fun d hd => ?_, fun hi => ⟨vs, hq, by rw [r.length]; exact hi⟩⟩
  obtain ⟨x, hx, rx⟩ := r.get hd
  refine ⟨⟨vs, x, hq, hx⟩, fun y H' hy => ?_⟩
  obtain ⟨rfl, hy⟩ := hy
  have e : x = y := Option.some.inj (hx.symm.trans (hy vs hq))
  subst e
  exact ⟨F, Stp.val s (rx.mono m)⟩
theorem walk_tup (h : SqT K Fb a vs) (r : Reps K Fb vs ds) : Walk K (Itt K a) ds Fb := fun F H i m s => by
  have hq := s.seqT (m.seqT h)
  refine ⟨fun d hd => ?_, fun hi => ⟨vs, hq, by rw [r.length]; exact hi⟩⟩
  obtain ⟨x, hx, rx⟩ := r.get hd
  refine ⟨⟨vs, x, hq, hx⟩, fun y H' hy => ?_⟩
  obtain ⟨rfl, hy⟩ := hy
  have e : x = y := Option.some.inj (hx.symm.trans (hy vs hq))
  subst e
  exact ⟨F, Stp.val s (rx.mono m)⟩
theorem strG_one {s : List Nat} {c : Nat} (h : strG s = true) (hc : c ∈ s) : strG [c] = true := by
  unfold strG at h ⊢
  rw [Bool.and_eq_true] at h ⊢
  exact ⟨decide_eq_true (show 1 ≤ sizeLine by decide), by simpa using List.all_eq_true.mp h.2 c hc⟩
theorem walk_str (s : List Nat) (hg : strG s = true) : Walk K (Its ⟨s.toArray⟩) (s.map fun c => D.str [c]) Fb := fun F H i m sm => by
  refine ⟨fun d hd => ?_, fun hi => ?_⟩
  · rw [List.getElem?_map] at hd
    cases q : s[i]? with
    | none => rw [q] at hd; cases hd
    | some c =>
      rw [q] at hd
      injection hd with hd
      subst hd
      refine ⟨?_, fun y H' hy => ?_⟩
      · show i < (s.toArray).size
        have := (List.getElem?_eq_some_iff.mp q).1
        simpa using this
      · obtain ⟨rfl, c', hc, rfl⟩ := hy
        have e : c = c' := by
          have : s[i]? = some c' := by simpa using hc
          rw [q] at this
          exact Option.some.inj this
        subst e
        exact ⟨F, Stp.val sm (.str [c] (strG_one hg (List.mem_of_getElem? q)))⟩
  · show (s.toArray).size ≤ i
    simpa using hi
def intsFrom (lo : Int) (n : Nat) : List D := (List.range n).map fun k : Nat => D.int (lo + (k : Int))
theorem walk_rng (lo : Int) (n : Nat) : Walk K (Itr lo n) (intsFrom lo n) Fb := fun F H i m sm => by
  refine ⟨fun d hd => ?_, fun hi => (show n ≤ i by simpa [intsFrom] using hi)⟩
  unfold intsFrom at hd
  rw [List.getElem?_map] at hd
  cases q : (List.range n)[i]? with
  | none => rw [q] at hd; cases hd
  | some c =>
    rw [q] at hd
    injection hd with hd
    subst hd
    obtain ⟨h1, h2⟩ := List.getElem?_eq_some_iff.mp q
    have hn : i < n := by simpa using h1
    have e : c = i := by simpa using h2.symm
    subst e
    refine ⟨hn, fun y H' hy => ?_⟩
    obtain ⟨rfl, rfl⟩ := hy
    exact ⟨F, Stp.val sm (.int _)⟩
end
section
variable {X : Cx} {tg l a b : Expr} {f : XE} {os : List Opd} {p pos : Pos}
def iSeq (K : PySem.W.Frag) (tl : TE) : TI := fun σ H R => tl σ H fun x H1 => (∃ a xs, x = .ref a ∧ SqL K H1 a xs ∧ R (Itl K a) H1) ∨ (∃ a xs, x = .ref a ∧ SqT K H1 a xs ∧ R (Itt K a) H1) ∨ ∃ s, x = .str s ∧ R (Its s) H1
theorem pi_seq {tl : TE} (hl : PE X l tl) : PI X tg l (iSeq X.K tl) := by
  refine ⟨fun pins s σ H R I h => thn (hl.run pins s σ H _ I h) fun v s1 ⟨x, H1, I1, r1, q1⟩ => ?_⟩
  rcases q1 with ⟨a, xs, e, hq, q⟩ | ⟨a, xs, e, hq, q⟩ | ⟨t, e, q⟩
  · subst e; cases r1
    obtain ⟨its, rv, pl, hz⟩ := I1.list hq
    exact wpAny_pyIter_list pl.isList (pi_one (tk := s1.toks) I1 _ (turn_list a _) ⟨_, Heap.get?_push_size _ rfl, rfl, rfl⟩ q)
  · subst e; cases r1
    obtain ⟨its, rv, pl, hz⟩ := I1.tuple hq
    exact wpAny_pyIter_tuple (show s1.heap.IsTuple a its.toArray from pl) (pi_one (tk := s1.toks) I1 _ (turn_tuple a _) ⟨_, Heap.get?_push_size _ rfl, rfl, rfl⟩ q)
  · subst e
    obtain ⟨u, rfl⟩ := r1
    cases hc : t.cps.all (· < 128) with
    | false => exact wpAny_pyIter_wide hc (pi_one (tk := s1.toks) I1 _ (turn_str _ t u "str_iterator" (.inr rfl)) ⟨_, Heap.get?_push_size _ rfl, rfl, rfl⟩ q)
    | true => exact wpAny_pyIter_ascii hc (pi_one (tk := s1.toks) I1 _ (turn_str _ t u "str_ascii_iterator" (.inl rfl)) ⟨_, Heap.get?_push_size _ rfl, rfl, rfl⟩ q)
theorem ii_seq (hl : IE X l f) : II X tg l (xSeq f) := PI.imp (pi_seq hl) fun σ H R ⟨env, L, F, ds, env', z, rel, e, q⟩ => by
  unfold xSeq at e
  cases e1 : f env with
  | none => rw [e1] at e; cases e
  | some r =>
    obtain ⟨⟨o, d⟩, env1⟩ := r
    rw [e1] at e
    simp only [Option.bind_some] at e
    cases e2 : itemsOf d with
    | none => rw [e2] at e; cases e
    | some ds2 =>
      rw [e2] at e
      injection e with e; injection e with e3 e4
      subst e3 e4
      refine ⟨env, L, F, ⟨o, d⟩, env1, z, rel, e1, fun x L1 F1 H1 z1 s1 => ?_⟩
      obtain ⟨F2, s2, rp, _⟩ := Stp.freeze s1.rel
      have s3 := (s1.trans s2).tail
      cases d with
      | lst ds =>
        injection e2 with e2; subst e2
        cases rp with
        | lst hq r => exact .inl ⟨_, _, rfl, .of (s2.rel.sub _ _ hq), q _ L1 F2 H1 z1 s3 (walk_lst (.of hq) r)⟩
      | scr ds =>
        injection e2 with e2; subst e2
        cases rp with
        | scr hq r => exact .inl ⟨_, _, rfl, s2.rel.sub.seq hq, q _ L1 F2 H1 z1 s3 (walk_lst hq r)⟩
      | tup ds =>
        injection e2 with e2; subst e2
        cases rp with
        | tup hq r => exact .inr (.inl ⟨_, _, rfl, s2.rel.sub.seqT hq, q _ L1 F2 H1 z1 s3 (walk_tup hq r)⟩)
      | str t =>
        injection e2 with e2; subst e2
        cases rp with
        | str _ hg => exact .inr (.inr ⟨_, rfl, q _ L1 F2 H1 z1 s3 (walk_str t hg)⟩)
      | _ => cases e2
/-- operands, then a walk -/
theorem args_walk {k : List Val → Option (List D)} {K : PySem.W.Frag} {σ : L2.St} {H : Hp} {R : It → Hp → Prop} {W : List V → Hp → (It → Hp → Prop) → Prop}
    (hw : ∀ F H xs vs ds, Same F H → VOks K F H xs vs → k vs = some ds → ∀ R, (∀ J, Walk K J ds F → R J H) → W xs H R)
    (h : tI K (fun env => (evs os env).bind fun p => (valsO p.2 p.1).bind fun vs => (k vs).bind fun ds => some (ds, p.2)) σ H R) : tA K os σ H fun xs H1 => W xs H1 R := by
  obtain ⟨env, L, F, ds, env', z, rel, e, q⟩ := h
  cases e1 : evs os env with
  | none => simp only [e1] at e; cases e
  | some r =>
    obtain ⟨ovs, env1⟩ := r
    simp only [e1, Option.bind_some] at e
    cases e2 : valsO env1 ovs with
    | none => rw [e2] at e; cases e
    | some vs =>
      rw [e2] at e
      simp only [Option.bind_some] at e
      cases e3 : k vs with
      | none => rw [e3] at e; cases e
      | some ds2 =>
        rw [e3] at e
        injection e with e; injection e with e4 e5
        subst e4 e5
        refine ⟨env, L, F, ovs, env1, z, rel, e1, fun xs T L' F' H' z1 s1 m => ?_⟩
        exact hw F' H' xs vs ds2 s1.rel.sub (vals_ok z1 (fun p hp => s1.rel.ok p (List.mem_append_right _ hp)) m (fun p hp => s1.rel.ok p (List.mem_append_left _ hp)) e2) e3 R
          fun J w => q J L' F' H' z1 (s1.less (List.sublist_append_right T L')) w
theorem VOks.one {K : PySem.W.Frag} {F H : Hp} {xs : List V} {v : Val} (h : VOks K F H xs [v]) : ∃ x, xs = [x] ∧ VOk K F H x v := by
  cases h with
  | cons r t => cases t; exact ⟨_, rfl, r⟩
theorem VOks.two {K : PySem.W.Frag} {F H : Hp} {xs : List V} {v w : Val} (h : VOks K F H xs [v, w]) : ∃ x y, xs = [x, y] ∧ VOk K F H x v ∧ VOk K F H y w := by
  cases h with
  | cons r t => obtain ⟨y, rfl, q⟩ := t.one; exact ⟨_, y, rfl, r, q⟩
theorem VOks.three {K : PySem.W.Frag} {F H : Hp} {xs : List V} {v w u : Val} (h : VOks K F H xs [v, w, u]) : ∃ x y z, xs = [x, y, z] ∧ VOk K F H x v ∧ VOk K F H y w ∧ VOk K F H z u := by
  cases h with
  | cons r t => obtain ⟨y, z, rfl, q, q'⟩ := t.two; exact ⟨_, y, z, rfl, r, q, q'⟩
def kRange10 : List Val → Option (List D)
  | [⟨_, .int j⟩] => if -(2 ^ 62) ≤ j ∧ j < 2 ^ 62 then some (intsFrom 0 j.toNat) else none
  | _ => none
noncomputable def kRange1 : List Val → Option (List D) := hide kRange10
theorem kRange1_eq : kRange1 = kRange10 := hide_eq _
def kRange20 : List Val → Option (List D)
  | [⟨_, .int i⟩, ⟨_, .int j⟩] => if (-(2 ^ 62) ≤ i ∧ i < 2 ^ 62) ∧ -(2 ^ 62) ≤ j ∧ j < 2 ^ 62 then some (intsFrom i (j - i).toNat) else none
  | _ => none
noncomputable def kRange2 : List Val → Option (List D) := hide kRange20
theorem kRange2_eq : kRange2 = kRange20 := hide_eq _
def xArgs (k : List Val → Option (List D)) (os : List Opd) : XI := fun env => (evs os env).bind fun p => (valsO p.2 p.1).bind fun vs => (k vs).bind fun ds => some (ds, p.2)
theorem ii_range1 (hg : Gl X "range") (hm : X.mg "range" = none) (ha : IA X [a] os) (hs : starEach [a] X.env = [(false, eval a X.env)] := by rfl) : II X tg (.Call (.Name "range" p) [a] [] pos) (xArgs kRange1 os) :=
  PI.imp (pi_range1 hg hm ha hs) fun σ H R h => args_walk (W := fun vs H1 R => ∃ j : Int, vs = [.int j] ∧ -(2 ^ 62) ≤ j ∧ j < 2 ^ 62 ∧ R (Itr 0 j.toNat) H1) (fun F H xs vs ds s r e R q => by
    rw [kRange1_eq] at e
    unfold kRange10 at e
    split at e
    · rename_i o j
      split at e
      · rename_i hj
        injection e with e; subst e
        obtain ⟨x, rfl, hx⟩ := r.one
        exact ⟨j, by rw [hx.int], hj.1, hj.2, q _ (walk_rng 0 _)⟩
      · cases e
    · cases e) h
theorem ii_range2 (hg : Gl X "range") (hm : X.mg "range" = none) (ha : IA X [a, b] os) (hs : starEach [a, b] X.env = [(false, eval a X.env), (false, eval b X.env)] := by rfl) (hs2 : starEach [b] X.env = [(false, eval b X.env)] := by rfl) :
    II X tg (.Call (.Name "range" p) [a, b] [] pos) (xArgs kRange2 os) :=
  PI.imp (pi_range2 hg hm ha hs hs2) fun σ H R h => args_walk (W := fun vs H1 R => ∃ i j : Int, vs = [.int i, .int j] ∧ (-(2 ^ 62) ≤ i ∧ i < 2 ^ 62 ∧ -(2 ^ 62) ≤ j ∧ j < 2 ^ 62) ∧ R (Itr i (j - i).toNat) H1) (fun F H xs vs ds s r e R q => by
    rw [kRange2_eq] at e
    unfold kRange20 at e
    split at e
    · rename_i o i o' j
      split at e
      · rename_i hj
        injection e with e; subst e
        obtain ⟨x, y, rfl, hx, hy⟩ := r.two
        exact ⟨i, j, by rw [hx.int, hy.int], ⟨hj.1.1, hj.1.2, hj.2.1, hj.2.2⟩, q _ (walk_rng i _)⟩
      · cases e
    · cases e) h
end

/-! ### list comprehensions -/
def wipeE (env : En) : List Nat → En
  | [] => env
  | i :: is => (wipeE env is).set i none
def backE (old env : En) : List Nat → En
  | [] => env
  | i :: is => match old[i]? with
    | some s => (backE old env is).set i s
    | none => backE old env is
def lcL (g : Val → En → Option En) (t : XT) (f : XE) (own : List Nat) : List D → En → Option (List D × En)
  | [], env => some ([], env)
  | d :: ds, env => (g (fz d) env).bind fun e1 => (t e1).bind fun p => if p.1 = true then
      (f p.2).bind fun q => (lcL g t f own ds (wipeE q.2 own)).bind fun r => some (q.1.d :: r.1, r.2)
    else lcL g t f own ds (wipeE p.2 own)
def tYes : XT := fun env => some (true, env)
def eLc (own : List Nat) (it : XI) (g : Val → En → Option En) (t : XT) (f : XE) : XE := fun env => (it env).bind fun p => (lcL g t f own p.1 (wipeE p.2 own)).bind fun q =>
  if q.1.length ≤ sizeLine then some (ow (.lst q.1), backE p.2 q.2 own) else none

theorem Zip.wipe1 {e : En} {s : L2.St} {L : LV} {i : Nat} (z : Zip e s L) : ∃ L1, Zip (e.set i none) (s.set i none) L1 ∧ L1.Sublist L := by
  cases q : e[i]? with
  | none =>
    have h : e.length ≤ i := List.getElem?_eq_none_iff.mp q
    have h' : s.length ≤ i := by rw [← z.len]; exact h
    rw [List.set_eq_of_length_le h, List.set_eq_of_length_le h']
    exact ⟨L, z, List.Sublist.refl _⟩
  | some o =>
    cases o with
    | none =>
      obtain ⟨L1, L2, h1, h2, _⟩ := z.get0 q
      have e0 : e.set i none = e := by
        apply List.ext_getElem?
        intro j
        by_cases hj : i = j
        · subst hj
          rw [List.getElem?_set_self (List.getElem?_eq_some_iff.mp q).1, q]
        · rw [List.getElem?_set_ne hj]
      rw [e0]
      exact ⟨L, h2 none, List.Sublist.refl _⟩
    | some v =>
      obtain ⟨x, L1, L2, h1, h2, h3, h4, _⟩ := z.get q
      exact ⟨L1 ++ L2, h4 none, by rw [h2]; exact (List.Sublist.refl L1).append (List.sublist_cons_self _ _)⟩
theorem Zip.wipe {s : L2.St} {e : En} {L : LV} (z : Zip e s L) : ∀ vs : List Nat, ∃ L1, Zip (wipeE e vs) (L2.wipe s vs) L1 ∧ L1.Sublist L
  | [] => ⟨L, z, List.Sublist.refl _⟩
  | i :: is => by
    obtain ⟨L1, z1, h1⟩ := Zip.wipe z is
    obtain ⟨L2, z2, h2⟩ := z1.wipe1 (i := i)
    exact ⟨L2, z2, h2.trans h1⟩
theorem wipe_get {s : L2.St} : ∀ {vs : List Nat} {i : Nat}, i ∉ vs → (L2.wipe s vs)[i]? = s[i]?
  | [], _, _ => rfl
  | v :: vs, i, h => by
    unfold L2.wipe
    rw [List.getElem?_set_ne (fun w => h (by rw [w]; exact List.mem_cons_self))]
    exact wipe_get fun w => h (List.mem_cons_of_mem _ w)
theorem wipe_in {s : L2.St} : ∀ {vs : List Nat} {i : Nat}, i ∈ vs → i < s.length → (L2.wipe s vs)[i]? = some none
  | v :: vs, i, h, hl => by
    unfold L2.wipe
    by_cases w : v = i
    · subst w
      rw [List.getElem?_set_self (by rw [wipe_length]; exact hl)]
    · rw [List.getElem?_set_ne w]
      rcases List.mem_cons.mp h with q | q
      · exact absurd q.symm w
      · exact wipe_in q hl
/-- own slots apart: what the others are is left -/
def compl (n : Nat) (own : List Nat) : List Nat := (List.range n).filter fun i => !own.contains i
theorem wipe_eq {s t : L2.St} {own : List Nat} (hl : t.length = s.length) (h : ∀ i ∈ compl s.length own, t[i]? = s[i]?) : L2.wipe t own = L2.wipe s own := by
  apply List.ext_getElem?
  intro i
  by_cases hi : i < s.length
  · by_cases hm : i ∈ own
    · rw [wipe_in hm hi, wipe_in hm (by rw [hl]; exact hi)]
    · rw [wipe_get hm, wipe_get hm]
      refine h i (List.mem_filter.mpr ⟨List.mem_range.mpr hi, ?_⟩)
      simpa using hm
  · rw [List.getElem?_eq_none (by rw [wipe_length]; omega), List.getElem?_eq_none (by rw [wipe_length]; omega)]
theorem wipe_wipe {s : L2.St} {own : List Nat} : L2.wipe (L2.wipe s own) own = L2.wipe s own := wipe_eq (wipe_length _ _) fun i hi => by
  have : i ∉ own := by simpa using (List.mem_filter.mp hi).2
  exact wipe_get this
theorem wipeE_length (env : En) : ∀ vs : List Nat, (wipeE env vs).length = env.length
  | [] => rfl
  | v :: vs => by unfold wipeE; rw [List.length_set, wipeE_length env vs]
theorem wipeE_get {s : En} : ∀ {vs : List Nat} {i : Nat}, i ∉ vs → (wipeE s vs)[i]? = s[i]?
  | [], _, _ => rfl
  | v :: vs, i, h => by
    unfold wipeE
    rw [List.getElem?_set_ne (fun w => h (by rw [w]; exact List.mem_cons_self))]
    exact wipeE_get fun w => h (List.mem_cons_of_mem _ w)
theorem wipeE_in {s : En} : ∀ {vs : List Nat} {i : Nat}, i ∈ vs → i < s.length → (wipeE s vs)[i]? = some none
  | v :: vs, i, h, hl => by
    unfold wipeE
    by_cases w : v = i
    · subst w
      rw [List.getElem?_set_self (by rw [wipeE_length]; exact hl)]
    · rw [List.getElem?_set_ne w]
      rcases List.mem_cons.mp h with q | q
      · exact absurd q.symm w
      · exact wipeE_in q hl
theorem backE_length (old env : En) : ∀ vs : List Nat, (backE old env vs).length = env.length
  | [] => rfl
  | v :: vs => by
    unfold backE
    split
    · rw [List.length_set, backE_length old env vs]
    · exact backE_length old env vs
theorem backE_get {old env : En} : ∀ {vs : List Nat} {i : Nat}, i ∉ vs → (backE old env vs)[i]? = env[i]?
  | [], _, _ => rfl
  | v :: vs, i, h => by
    unfold backE
    split
    · rw [List.getElem?_set_ne (fun w => h (by rw [w]; exact List.mem_cons_self))]
      exact backE_get fun w => h (List.mem_cons_of_mem _ w)
    · exact backE_get fun w => h (List.mem_cons_of_mem _ w)
theorem backE_in {old env : En} (hl : old.length = env.length) : ∀ {vs : List Nat} {i : Nat}, i ∈ vs → (backE old env vs)[i]? = old[i]?
  | v :: vs, i, h => by
    unfold backE
    by_cases w : v = i
    · subst w
      split
      · rename_i s hs
        have : v < old.length := (List.getElem?_eq_some_iff.mp hs).1
        rw [List.getElem?_set_self (by rw [backE_length]; omega), hs]
      · rename_i hs
        rw [hs]
        have : old.length ≤ v := List.getElem?_eq_none_iff.mp hs
        exact List.getElem?_eq_none (by rw [backE_length]; omega)
    · have q : i ∈ vs := (List.mem_cons.mp h).resolve_left fun z => w z.symm
      split
      · rw [List.getElem?_set_ne w]
        exact backE_in hl q
      · exact backE_in hl q
/-- a Zip by its places -/
theorem Zip.part : ∀ {e : En} {s : L2.St} {L : LV} (own : Nat → Bool), Zip e s L → ∃ Lo L1, L.Perm (Lo ++ L1) ∧
    (∀ (e1 : En) (s1 : L2.St), e1.length = e.length → s1.length = s.length → (∀ i, own i = true → i < e.length → e1[i]? = some none) → (∀ i, own i = false → e1[i]? = e[i]? ∧ s1[i]? = s[i]?) → Zip e1 s1 L1) ∧
    (∀ (e2 e3 : En) (s2 : L2.St) (L2 : LV), Zip e2 s2 L2 → e2.length = e.length → s2.length = s.length → (∀ i, own i = true → i < e.length → e2[i]? = some none) → (∀ i, own i = false → s2[i]? = s[i]?) →
      e3.length = e.length → (∀ i, own i = true → e3[i]? = e[i]?) → (∀ i, own i = false → e3[i]? = e2[i]?) → ∃ L3, Zip e3 s L3 ∧ L3.Perm (Lo ++ L2)) := by
  intro e s L own z
  induction z generalizing own with
  | nil =>
    refine ⟨[], [], .nil, fun e1 s1 h1 h2 _ _ => ?_, fun e2 e3 s2 L2 z2 h1 h2 _ _ h3 _ _ => ?_⟩
    · rw [List.eq_nil_of_length_eq_zero h1, List.eq_nil_of_length_eq_zero h2]; exact .nil
    · rw [List.eq_nil_of_length_eq_zero h1, List.eq_nil_of_length_eq_zero h2] at z2
      cases z2
      rw [List.eq_nil_of_length_eq_zero h3]
      exact ⟨[], .nil, .nil⟩
  | @skip e s L y z ih =>
    obtain ⟨Lo, L1, hp, hA, hB⟩ := ih fun i => own (i + 1)
    refine ⟨Lo, L1, hp, fun e1 s1 h1 h2 h3 h4 => ?_, fun e2 e3 s2 L2 z2 h1 h2 h3 h4 h5 h6 h7 => ?_⟩
    · obtain ⟨a1, e1, rfl⟩ := List.exists_cons_of_length_eq_add_one h1
      obtain ⟨b1, s1, rfl⟩ := List.exists_cons_of_length_eq_add_one h2
      have ha : a1 = none := by
        cases q : own 0 with
        | true => simpa using h3 0 q (by simp)
        | false => simpa using (h4 0 q).1
      subst ha
      exact .skip (hA e1 s1 (by simpa using h1) (by simpa using h2) (fun i hi hl => by simpa using h3 (i + 1) hi (by simpa using hl)) fun i hi => by simpa using h4 (i + 1) hi)
    · obtain ⟨a2, e2, rfl⟩ := List.exists_cons_of_length_eq_add_one h1
      obtain ⟨b2, s2, rfl⟩ := List.exists_cons_of_length_eq_add_one h2
      obtain ⟨a3, e3, rfl⟩ := List.exists_cons_of_length_eq_add_one h5
      have step : ∀ L2', Zip e2 s2 L2' → ∃ L3, Zip e3 s L3 ∧ L3.Perm (Lo ++ L2') := fun L2' z2' => hB e2 e3 s2 L2' z2' (by simpa using h1) (by simpa using h2) (fun i hi hl => by simpa using h3 (i + 1) hi (by simpa using hl)) (fun i hi => by simpa using h4 (i + 1) hi) (by simpa using h5)
        (fun i hi => by simpa using h6 (i + 1) hi) fun i hi => by simpa using h7 (i + 1) hi
      cases q : own 0 with
      | true =>
        have e2n : a2 = none := by simpa using h3 0 q (by simp)
        have e3n : a3 = none := by simpa using h6 0 q
        subst e2n e3n
        cases z2 with
        | skip z2 =>
          obtain ⟨L3, z3, p3⟩ := step _ z2
          exact ⟨L3, .skip z3, p3⟩
      | false =>
        have e3n : a3 = a2 := by simpa using h7 0 q
        have eb : b2 = y := by simpa using h4 0 q
        subst e3n eb
        cases z2 with
        | skip z2 =>
          obtain ⟨L3, z3, p3⟩ := step _ z2
          exact ⟨L3, .skip z3, p3⟩
        | cons z2 =>
          obtain ⟨L3, z3, p3⟩ := step _ z2
          exact ⟨_, .cons z3, (p3.cons _).trans List.perm_middle.symm⟩
  | @cons e s L v x z ih =>
    obtain ⟨Lo, L1, hp, hA, hB⟩ := ih fun i => own (i + 1)
    cases q : own 0 with
    | true =>
      refine ⟨(v, x) :: Lo, L1, hp.cons _, fun e1 s1 h1 h2 h3 h4 => ?_, fun e2 e3 s2 L2 z2 h1 h2 h3 h4 h5 h6 h7 => ?_⟩
      · obtain ⟨a1, e1, rfl⟩ := List.exists_cons_of_length_eq_add_one h1
        obtain ⟨b1, s1, rfl⟩ := List.exists_cons_of_length_eq_add_one h2
        have ha : a1 = none := by simpa using h3 0 q (by simp)
        subst ha
        exact .skip (hA e1 s1 (by simpa using h1) (by simpa using h2) (fun i hi hl => by simpa using h3 (i + 1) hi (by simpa using hl)) fun i hi => by simpa using h4 (i + 1) hi)
      · obtain ⟨a2, e2, rfl⟩ := List.exists_cons_of_length_eq_add_one h1
        obtain ⟨b2, s2, rfl⟩ := List.exists_cons_of_length_eq_add_one h2
        obtain ⟨a3, e3, rfl⟩ := List.exists_cons_of_length_eq_add_one h5
        have e2n : a2 = none := by simpa using h3 0 q (by simp)
        have e3n : a3 = some v := by simpa using h6 0 q
        subst e2n e3n
        cases z2 with
        | skip z2 =>
          obtain ⟨L3, z3, p3⟩ := hB e2 e3 s2 L2 z2 (by simpa using h1) (by simpa using h2) (fun i hi hl => by simpa using h3 (i + 1) hi (by simpa using hl)) (fun i hi => by simpa using h4 (i + 1) hi) (by simpa using h5)
            (fun i hi => by simpa using h6 (i + 1) hi) fun i hi => by simpa using h7 (i + 1) hi
          exact ⟨_, .cons z3, p3.cons _⟩
    | false =>
      refine ⟨Lo, (v, x) :: L1, (hp.cons _).trans List.perm_middle.symm, fun e1 s1 h1 h2 h3 h4 => ?_, fun e2 e3 s2 L2 z2 h1 h2 h3 h4 h5 h6 h7 => ?_⟩
      · obtain ⟨a1, e1, rfl⟩ := List.exists_cons_of_length_eq_add_one h1
        obtain ⟨b1, s1, rfl⟩ := List.exists_cons_of_length_eq_add_one h2
        have ha : a1 = some v ∧ b1 = some x := by simpa using h4 0 q
        obtain ⟨ha, hb⟩ := ha
        subst ha hb
        exact .cons (hA e1 s1 (by simpa using h1) (by simpa using h2) (fun i hi hl => by simpa using h3 (i + 1) hi (by simpa using hl)) fun i hi => by simpa using h4 (i + 1) hi)
      · obtain ⟨a2, e2, rfl⟩ := List.exists_cons_of_length_eq_add_one h1
        obtain ⟨b2, s2, rfl⟩ := List.exists_cons_of_length_eq_add_one h2
        obtain ⟨a3, e3, rfl⟩ := List.exists_cons_of_length_eq_add_one h5
        have step : ∀ L2', Zip e2 s2 L2' → ∃ L3, Zip e3 s L3 ∧ L3.Perm (Lo ++ L2') := fun L2' z2' => hB e2 e3 s2 L2' z2' (by simpa using h1) (by simpa using h2) (fun i hi hl => by simpa using h3 (i + 1) hi (by simpa using hl)) (fun i hi => by simpa using h4 (i + 1) hi) (by simpa using h5)
          (fun i hi => by simpa using h6 (i + 1) hi) fun i hi => by simpa using h7 (i + 1) hi
        have e3n : a3 = a2 := by simpa using h7 0 q
        have eb : b2 = some x := by simpa using h4 0 q
        subst e3n eb
        cases z2 with
        | skip z2 =>
          obtain ⟨L3, z3, p3⟩ := step _ z2
          exact ⟨L3, .skip z3, p3⟩
        | cons z2 =>
          obtain ⟨L3, z3, p3⟩ := step _ z2
          exact ⟨_, .cons z3, (p3.cons _).trans List.perm_middle.symm⟩
end Wk
end

section
/-! W6: list comprehensions; what changes an owned object. -/
namespace Wk
open PySem PySem.Spec PyProof.Rows L2

/-- an owned object is written -/
theorem Stp.write {K : PySem.W.Frag} {F H : Hp} {d d' : D} {a : Addr} {o : HO} {L : LV} (r : Rel K ((ow d, .ref a) :: L) F H) (c : Cell K F (upd H a o) a d') : Stp K ((ow d, .ref a) :: L) F H ((ow d', .ref a) :: L) F (upd H a o) := by
  obtain ⟨b, eb, hF, _⟩ := VOk.ow.mp (r.ok _ List.mem_cons_self)
  have eb : V.ref a = .ref b := eb
  cases eb
  have nd := r.nd
  rw [ows_cons] at nd
  have na : a ∉ ows L := fun z => (List.nodup_append.mp nd).2.2 a (by simp [owA]) a z rfl
  have ea : owA (ow d, V.ref a) = owA (ow d', V.ref a) := rfl
  refine ⟨⟨fun b z q => ?_, fun p hp => ?_, by rw [ows_cons, ← ea]; exact nd⟩, Same.refl _, fun b z q n => ⟨?_, fun w => w⟩, fun b hb => .inl (by rw [ows_cons] at hb ⊢; rw [ea]; exact hb)⟩
  · rw [upd_ne (fun w => by subst w; rw [hF] at q; cases q)]; exact r.sub b z q
  · rcases List.mem_cons.mp hp with e | hp2
    · rw [e]; exact VOk.ow.mpr ⟨a, rfl, hF, c⟩
    · refine (r.ok p (List.mem_cons_of_mem _ hp2)).kept (Same.refl _) fun b ob e1 e2 e3 => ⟨?_, fun w => w⟩
      rw [upd_ne]
      · exact e3
      · intro w
        subst w
        obtain ⟨⟨o', d''⟩, x'⟩ := p
        have e2 : o' = true := e2
        have e1 : x' = .ref b := e1
        subst e1 e2
        exact na (mem_ows.mpr ⟨d'', hp2⟩)
  · rw [upd_ne (fun w => by subst w; exact n (by rw [ows_cons]; simp [owA]))]; exact q

section
variable {X : Cx} {pos : Pos} {e a b c iter tg elt : Expr} {es ifs : List Expr}
def ITs (X : Cx) (ifs : List Expr) (t : XT) : Prop := PTs X ifs (tT X.K t)
theorem its_nil : ITs X [] Wk.tYes := ⟨fun pins s σ H Q I ⟨env, L, F, o, env', z, rel, e, q⟩ => by
  injection e with e; injection e with e1 e2
  subst e1 e2
  exact (pts_nil (X := X)).run pins s σ H Q I (q L F H z (.refl rel))⟩
theorem its_one {t : XT} (h : IT X c t) : ITs X [c] t := pts_one h

theorem lc_of {K : PySem.W.Frag} {it : XI} {g : Val → En → Option En} {t : XT} {f : XE} {own : List Nat} {n : Nat} {σ : L2.St} {H : Hp} {Q : VK} (hn : n = σ.length) (h : tE K (eLc own it g t f) σ H Q) :
    tLc (tI K it) (tG K (compl n own) g) (tT K t) (tE K f) own σ H Q := by
  obtain ⟨env, L, F, v, env', z, rel, e, q⟩ := h
  unfold eLc at e
  cases e1 : it env with
  | none => rw [e1] at e; cases e
  | some r =>
    obtain ⟨ds, env1⟩ := r
    rw [e1] at e
    simp only [Option.bind_some] at e
    cases e2 : lcL g t f own ds (wipeE env1 own) with
    | none => rw [e2] at e; cases e
    | some r2 =>
      obtain ⟨out, env2⟩ := r2
      rw [e2] at e
      simp only [Option.bind_some] at e
      split at e
      · rename_i hz
        injection e with e; injection e with e3 e4
        subst e3 e4
        refine ⟨env, L, F, ds, env1, z, rel, e1, fun J L1 F1 H1 z1 s1 w D hD => ?_⟩
        obtain ⟨Lo, Lw, pm, zA, zB⟩ := z1.part fun i => decide (i ∈ own)
        have zw : Zip (wipeE env1 own) (wipe σ own) Lw := zA _ _ (wipeE_length _ _) (wipe_length _ _) (fun i hi hl => wipeE_in (of_decide_eq_true hi) hl) fun i hi => ⟨wipeE_get (of_decide_eq_false hi), wipe_get (of_decide_eq_false hi)⟩
        -- the new list
        obtain ⟨F2, s2⟩ := Stp.new (K := K) (o := .lst []) (v := ow (.lst [])) s1.rel.sub hD (.inl ⟨rfl, [], upd_same, .nil⟩)
        have s3 := s2.frame (L := []) (T := L1) s1.rel
        have s4 : Stp K L1 F1 H1 ((ow (.lst []), .ref D) :: Lo ++ Lw) F2 (upd H1 D (.lst [])) := s3.perm (pm.cons _)
        have hle : env1.length = σ.length := z1.len
        refine ⟨fun i m H => i + m = ds.length ∧ ∃ env3 L3 F3 acc rest, Zip env3 (wipe σ own) L3 ∧ Stp K L1 F1 H1 ((ow (.lst acc), .ref D) :: Lo ++ L3) F3 H ∧ lcL g t f own (ds.drop i) env3 = some (rest, env2) ∧ out = acc ++ rest ∧
            (∀ i, i ∈ own → i < env1.length → env3[i]? = some none), ⟨ds.length, Nat.zero_add _, wipeE env1 own, Lw, F2, [], out, zw, s4, e2, rfl, fun i hi hl => wipeE_in hi hl⟩, ?_⟩
        rintro i m H2 ⟨him, env3, L3, F3, acc, rest, z3, s5, e5, eo, hown⟩
        have hl3 : env3.length = σ.length := by rw [z3.len, wipe_length]
        obtain ⟨w1, w2⟩ := w F3 H2 i s5.mono s5.rel.sub
        by_cases hlt : i < ds.length
        · have hd : ds[i]? = some ds[i] := List.getElem?_eq_getElem hlt
          obtain ⟨go, yl⟩ := w1 _ hd
          rw [List.drop_eq_getElem_cons hlt] at e5
          unfold lcL at e5
          cases e6 : g (fz ds[i]) env3 with
          | none => rw [e6] at e5; cases e5
          | some env4 =>
            rw [e6] at e5
            simp only [Option.bind_some] at e5
            cases e7 : t env4 with
            | none => rw [e7] at e5; cases e5
            | some r7 =>
              obtain ⟨b7, env5⟩ := r7
              rw [e7] at e5
              simp only [Option.bind_some] at e5
              refine .inr ⟨go, fun H' => i + 1 + (m - 1) = ds.length ∧ ∃ env3 L3 F3 acc rest, Zip env3 (wipe σ own) L3 ∧ Stp K L1 F1 H1 ((ow (.lst acc), .ref D) :: Lo ++ L3) F3 H' ∧ lcL g t f own (ds.drop (i + 1)) env3 = some (rest, env2) ∧ out = acc ++ rest ∧
                (∀ i, i ∈ own → i < env1.length → env3[i]? = some none), fun H' hx => ⟨m - 1, by omega, hx⟩, fun x H3 hy => ?_⟩
              obtain ⟨F4, s6⟩ := yl x H3 hy
              have s7 := (s6.frame (L := []) (T := (ow (.lst acc), .ref D) :: Lo ++ L3) s5.rel).perm (List.perm_middle (a := (fz ds[i], x)) (l₁ := (ow (.lst acc), .ref D) :: Lo) (l₂ := L3)).symm
              refine ⟨env3, L3, F4, fz ds[i], env4, z3, s7.rel.right, e6, fun σ4 L4 F5 H4 z4 hn4 hr4 s8 => ?_⟩
              have s9 := s7.trans (s8.frameL (T := (ow (.lst acc), .ref D) :: Lo) s7.rel)
              have hw4 : wipe σ4 own = wipe σ own := (wipe_eq (s := wipe σ own) hn4 (by rw [wipe_length, ← hn]; exact hr4)).trans wipe_wipe
              refine ⟨hw4, env4, L4, F5, b7, env5, z4, s8.rel, e7, fun L5 F6 H5 z5 s10 => ?_⟩
              have s11 := s9.trans (s10.frameL (T := (ow (.lst acc), .ref D) :: Lo) s9.rel)
              have fin : ∀ (e : En) (Lx : LV), Zip e σ4 Lx → ∃ Ly, Zip (wipeE e own) (wipe σ own) Ly ∧ Ly.Sublist Lx ∧ ∀ i, i ∈ own → i < env1.length → (wipeE e own)[i]? = some none := fun e Lx zx => by
                obtain ⟨Ly, zy, hy⟩ := zx.wipe own
                rw [hw4] at zy
                refine ⟨Ly, zy, hy, fun i hi hl => wipeE_in hi ?_⟩
                rw [zx.len, hn4, wipe_length, ← hle]
                exact hl
              cases b7 with
              | false =>
                rw [if_neg (by decide)] at e5
                refine iteF ?_
                obtain ⟨Ly, zy, hy, hyo⟩ := fin env5 L5 z5
                exact ⟨by omega, wipeE env5 own, Ly, F6, acc, rest, zy, (s5.trans s11).less ((List.Sublist.refl ((ow (.lst acc), V.ref D) :: Lo)).append hy), e5, eo, hyo⟩
              | true =>
                rw [if_pos rfl] at e5
                refine iteT ?_
                cases e8 : f env5 with
                | none => rw [e8] at e5; cases e5
                | some r8 =>
                  obtain ⟨⟨o8, d8⟩, env6⟩ := r8
                  rw [e8] at e5
                  simp only [Option.bind_some] at e5
                  cases e9 : lcL g t f own (ds.drop (i + 1)) (wipeE env6 own) with
                  | none => rw [e9] at e5; cases e5
                  | some r9 =>
                    obtain ⟨rest9, env9⟩ := r9
                    rw [e9] at e5
                    injection e5 with e5; injection e5 with ea eb
                    subst ea eb
                    refine ⟨env5, L5, F6, ⟨o8, d8⟩, env6, z5, s10.rel, e8, fun y L6 F7 H6 z6 s12 => ?_⟩
                    have s13 := (s11.trans (s12.frameL (T := (ow (.lst acc), .ref D) :: Lo) s11.rel)).perm (List.perm_middle (a := ((⟨o8, d8⟩ : Val), y)) (l₁ := (ow (.lst acc), .ref D) :: Lo) (l₂ := L6))
                    obtain ⟨F8, s14, ry, _⟩ := Stp.freeze s13.rel
                    have s15 := (s13.trans s14).tail
                    obtain ⟨D', eD, _, accV, hacc, racc⟩ := VOk.ow.mp (s15.rel.ok _ List.mem_cons_self)
                    have eD : V.ref D = .ref D' := eD
                    cases eD
                    have hlen : acc.length < sizeLine := by
                      have h1 : out.length ≤ sizeLine := hz
                      rw [eo, List.length_append, List.length_cons] at h1
                      omega
                    refine ⟨accV, hacc, by rw [racc.length]; exact hlen, by omega, ?_⟩
                    have s16 : Stp K ((ow (.lst acc), .ref D) :: (Lo ++ L6)) F8 H6 ((ow (.lst (acc ++ [d8])), .ref D) :: (Lo ++ L6)) F8 (upd H6 D (.lst (accV ++ [y]))) := Stp.write s15.rel ⟨_, upd_same, racc.append (.cons ry .nil)⟩
                    obtain ⟨Ly, zy, hy2, hyo⟩ := fin env6 L6 z6
                    refine ⟨wipeE env6 own, Ly, F8, acc ++ [d8], rest9, zy, ((s5.trans s15).trans s16).less ((List.Sublist.refl ((ow (.lst (acc ++ [d8])), V.ref D) :: Lo)).append hy2), e9, by rw [eo]; simp, hyo⟩
        · have ed : ds.drop i = [] := List.drop_eq_nil_iff.mpr (by omega)
          rw [ed] at e5
          injection e5 with e5; injection e5 with ea eb
          subst ea eb
          refine .inl ⟨w2 (by omega), ?_⟩
          obtain ⟨L', z', p'⟩ := zB env3 (backE env1 env3 own) (wipe σ own) L3 z3 (by omega) (wipe_length _ _) (fun i hi hl => hown i (of_decide_eq_true hi) hl) (fun i hi => wipe_get (of_decide_eq_false hi))
            (by rw [backE_length]; omega) (fun i hi => backE_in (by omega) (of_decide_eq_true hi)) fun i hi => backE_get (of_decide_eq_false hi)
          rw [List.append_nil] at eo
          subst eo
          exact q (.ref D) L' F3 H2 z' ((s1.trans s5).perm (p'.symm.cons _))
      · cases e
end
end Wk
end

section
/-! W7: comprehensions as rules; methods that change; calls; what a def is worth. -/
namespace Wk
open PySem PySem.Spec PyProof.Rows L2

section
variable {X : Cx} {pos : Pos} {e a b c iter tg elt : Expr} {es ifs : List Expr} {scope : Scope} {own : List (Str × Nat)} {it : XI} {g : Val → En → Option En} {t : XT} {f : XE} {ro : List Nat}
theorem ie_lc (hc : X.calm = true) (hN : X.N.Nodup) (hi : II X tg iter it) (ok : BlkOk X.N X.env.scope scope own)
    (hg : ∀ (s : Shared) (H : Hp) (C : Addr) (cl : List (Str × Addr)) (fp : List Addr), IG (X.blk s H scope (compEnvC scope cl C X.env) fp) (compl X.N.length (own.map (·.2))) tg g)
    (ht : ∀ (s : Shared) (H : Hp) (C : Addr) (cl : List (Str × Addr)) (fp : List Addr), ITs (X.blk s H scope (compEnvC scope cl C X.env) fp) ifs t)
    (he : ∀ (s : Shared) (H : Hp) (C : Addr) (cl : List (Str × Addr)) (fp : List Addr), IE (X.blk s H scope (compEnvC scope cl C X.env) fp) elt f)
    (hs : ∀ x, foldedSetIterable iter X.env x = pure x := by intro _; rfl) : IE X (.ListComp elt [⟨tg, iter, ifs, 0⟩] scope pos) (eLc (own.map (·.2)) it g t f) :=
  ⟨fun pins s σ H Q I q => (pe_lc (g := tG X.K (compl X.N.length (own.map fun p : Str × Nat => p.2)) g) (tt := tT X.K t) (te := tE X.K f) hc hN hi ok hg ht he hs).run pins s σ H Q I (lc_of I.len.symm q)⟩
theorem is_setLc {i : Nat} {y : Str} {py : Pos} {spos : Pos} (hc : X.calm = true) (hN : X.N.Nodup) (hr : i ∉ ro) (hi : II X tg iter it) (ok : BlkOk X.N X.env.scope scope own)
    (hg : ∀ (s : Shared) (H : Hp) (C : Addr) (cl : List (Str × Addr)) (fp : List Addr), IG (X.blk s H scope (compEnvC scope cl C X.env) fp) (compl X.N.length (own.map (·.2))) tg g)
    (ht : ∀ (s : Shared) (H : Hp) (C : Addr) (cl : List (Str × Addr)) (fp : List Addr), ITs (X.blk s H scope (compEnvC scope cl C X.env) fp) ifs t)
    (he : ∀ (s : Shared) (H : Hp) (C : Addr) (cl : List (Str × Addr)) (fp : List Addr), IE (X.blk s H scope (compEnvC scope cl C X.env) fp) elt f)
    (hsw : swapsWith (.ListComp elt [⟨tg, iter, ifs, 0⟩] scope pos) (some (.Name y py)) spos.line X.env = pure true)
    (hy : X.N[i]? = some y := by rfl) (hyl : X.env.scope.names.lookup y = some .local := by rfl)
    (hs : ∀ x, foldedSetIterable iter X.env x = pure x := by intro _; rfl) : IS X ro (.Assign [.Name y py] (.ListComp elt [⟨tg, iter, ifs, 0⟩] scope pos) spos) (sSet (gN i) (eLc (own.map (·.2)) it g t f)) :=
  ⟨fun pins s σ H D I q => (ps_setLc (g := tG X.K (compl X.N.length (own.map fun p : Str × Nat => p.2)) g) (tt := tT X.K t) (te := tE X.K f) hc hN hy hyl hsw hi ok hg ht he hs).run pins s σ H D I (lc_of I.len.symm (tE_mono (tS_bind q) fun x H1 ⟨env, L, F, v, o, env', z, rel, e, k⟩ => by
    cases e1 : gN i v env with
    | none => simp [e1] at e
    | some env1 =>
      simp [e1] at e
      obtain ⟨e2, e3⟩ := e
      subst e2 e3
      unfold gN at e1
      split at e1
      · rename_i hl
        injection e1 with e1; subst e1
        obtain ⟨L1, h1, L2, z2, h2⟩ := z.store hl v x
        refine k _ L2 F H1 z2 (fun j hj => ?_) (((Stp.refl rel).less (h1.cons_cons _)).perm h2)
        exact List.getElem?_set_ne (show i ≠ j from fun w => hr (by rw [w]; exact hj))
      · cases e1))⟩
end

/-! ### frozen on purpose -/
def eFz (f : XE) : XE := fun env => (f env).bind fun p => some (fz p.1.d, p.2)
theorem ie_fz {X : Cx} {e : Expr} {f : XE} (h : IE X e f) : IE X e (eFz f) := PE.imp h fun σ H Q q => tE_mono (tE_bind q) fun x H1 ⟨env, L, F, v, w, env', z, rel, e, k⟩ => by
  injection e with e; injection e with e1 e2
  subst e1 e2
  obtain ⟨F', s, _⟩ := Stp.freeze (o := v.o) (d := v.d) rel
  exact k x L F' H1 z s

/-! ### methods that change an owned object -/
def eMut (i : Nat) (ty : D → Bool) (m : D → List Val → Option (D × Val)) (os : List Opd) : XE := fun env => match env[i]? with
  | some (some v0) => if ty v0.d = true then (evs os env).bind fun p => (valsO p.2 p.1).bind fun vs => if vs.all (fun v => !v.o) = true then
      (match p.2[i]? with
        | some (some ⟨true, d⟩) => (m d vs).bind fun r => if r.2.o = false then some (r.2, p.2.set i (some (ow r.1))) else none
        | _ => none) else none else none
  | _ => none
def OkM (K : PySem.W.Frag) (r : V → List V → Hp → VK → Prop) (m : D → List Val → Option (D × Val)) : Prop :=
  ∀ F H a d d' xs vs v Q, Same F H → F a = none → Cell K F H a d → VOks K F H xs vs → (∀ w ∈ vs, w.o = false) → m d vs = some (d', v) →
    (∀ z H', Cell K F H' a d' → (∀ b, b ≠ a → H' b = H b) → Rep K F z v.d → Q z H') → r (.ref a) xs H Q
def OkTy (K : PySem.W.Frag) (T : String) (ty : D → Bool) : Prop := ∀ F H x v, Same F H → VOk K F H x v → ty v.d = true → tyV K T x H
theorem Stp.write' {K : PySem.W.Frag} {F H H' : Hp} {d d' : D} {a : Addr} {L : LV} (r : Rel K ((ow d, .ref a) :: L) F H) (hk : ∀ b, b ≠ a → H' b = H b) (c : Cell K F H' a d') : Stp K ((ow d, .ref a) :: L) F H ((ow d', .ref a) :: L) F H' := by
  obtain ⟨o, ho⟩ := c.some
  have e : H' = upd H a o := by
    funext b
    by_cases w : b = a
    · subst w; rw [upd_same]; exact ho
    · rw [upd_ne w]; exact hk b w
  subst e
  exact Stp.write r c
theorem mut_core {K : PySem.W.Frag} {i : Nat} {ty : D → Bool} {T : String} {m : D → List Val → Option (D × Val)} {os : List Opd} {r : V → List V → Hp → VK → Prop} (ho : OkTy K T ty) (hr : OkM K r m) {σ : L2.St} {H : Hp} {Q : VK} (h : tE K (eMut i ty m os) σ H Q) :
    tVar i σ H fun x H1 => tyV K T x H1 ∧ tA K os σ H1 fun xs H2 => r x xs H2 Q := by
  obtain ⟨env, L, F, v, env', z, rel, e, q⟩ := h
  unfold eMut at e
  split at e
  · rename_i v0 hv0
    split at e
    · rename_i hty
      obtain ⟨x, hx, hm⟩ := z.at hv0
      refine ⟨x, hx, ho F H x v0 rel.sub (rel.ok _ hm) hty, ?_⟩
      cases e1 : evs os env with
      | none => rw [e1] at e; cases e
      | some p =>
        obtain ⟨ovs, env1⟩ := p
        rw [e1] at e
        simp only [Option.bind_some] at e
        cases e2 : valsO env1 ovs with
        | none => rw [e2] at e; cases e
        | some vs =>
          rw [e2] at e
          simp only [Option.bind_some] at e
          split at e
          · rename_i hfz
            split at e
            · rename_i d hd
              cases e3 : m d vs with
              | none => rw [e3] at e; cases e
              | some w =>
                obtain ⟨d', u⟩ := w
                rw [e3] at e
                simp only [Option.bind_some] at e
                split at e
                · rename_i hu
                  injection e with e; injection e with e4 e5
                  subst e4 e5
                  refine ⟨env, L, F, ovs, env1, z, rel, e1, fun xs T' L' F' H' z1 s1 mt => ?_⟩
                  obtain ⟨y, La, Lb, hy, eL, _, _, hset, _⟩ := z1.get hd
                  rw [hx] at hy; injection hy with hy; injection hy with hy; subst hy
                  have hvs := vals_ok z1 (fun p hp => s1.rel.ok p (List.mem_append_right _ hp)) mt (fun p hp => s1.rel.ok p (List.mem_append_left _ hp)) e2
                  subst eL
                  obtain ⟨a, ea, hF, cell⟩ := VOk.ow.mp (s1.rel.ok (⟨true, d⟩, x) (by simp))
                  have ea : x = .ref a := ea
                  subst ea
                  refine hr F' H' a d d' xs vs u Q s1.rel.sub hF cell hvs (fun w hw => by simpa using (List.all_eq_true.mp hfz) w hw) e3 fun zz H2 c2 hk rz => ?_
                  have s2 : Stp K L F H ((ow d, V.ref a) :: (La ++ Lb)) F' H' := (s1.less (List.sublist_append_right T' _)).perm List.perm_middle
                  have s3 := s2.trans (Stp.write' s2.rel hk c2)
                  have s4 := s3.trans (Stp.dup s3.rel rz)
                  obtain ⟨uo, ud⟩ := u
                  have hu : uo = false := hu
                  subst hu
                  exact q zz _ F' H2 (hset (ow d')) (s4.perm (List.Perm.cons _ List.perm_middle.symm))
                · cases e
            · cases e
          · cases e
    · cases e
  · cases e
section
variable {X : Cx} {pos apos cpos : Pos} {e o : Expr} {es : List Expr} {i : Nat} {x name : Str} {ty : D → Bool} {T id : String} {m : D → List Val → Option (D × Val)} {os : List Opd} {r : V → List V → Hp → VK → Prop}
theorem ie_mut (pa : PlainAttrs T) (slot : Slot T name id) (hty : typeOf (.builtin id) = pure (.type "method_descriptor")) (hm : MtR X id r) (ho : OkTy X.K T ty) (hr : OkM X.K r m) (ha : IA X (e :: es) os)
    (hN : X.N[i]? = some x := by rfl) (hv : Vis X.env.scope x := by first | exact Or.inl rfl | exact Or.inr (Or.inl rfl) | exact Or.inr (Or.inr rfl)) (hd : (x == ("__debug__" : Str)) = false := by decide) (hcd : (x == ("__classdict__" : Str)) = false := by decide)
    (hbase : attributeBase (.Name x pos) name X.env (eval (.Name x pos) X.env) = eval (.Name x pos) X.env := by rfl)
    (hfew : ((backTo cpos (starEach (e :: es) X.env)).all (fun x => !x.1) && (backToKw cpos (keywordEach [] X.env)).all (fun x => x.1.isSome)
      && decide ((e :: es).length + ([] : List Keyword).length + (if ([] : List Keyword).isEmpty then 0 else 1) < 30)) = true := by rfl)
    (hline : (apos.endLine == cpos.line) = true := by rfl) (hs : starEach (e :: es) X.env = (false, eval e X.env) :: starEach es X.env := by rfl) (hplain : (backTo cpos (starEach es X.env)).any (·.1) = false := by rfl) :
    IE X (.Call (.Attribute (.Name x pos) name apos) (e :: es) [] cpos) (eMut i ty m os) := PE.imp (pe_bm pa slot hty hm (pe_var hN hv hd hcd) ha hbase hfew hline hs hplain) fun σ H Q h => mut_core ho hr h
theorem ie_mut0 (pa : PlainAttrs T) (slot : Slot T name id) (hty : typeOf (.builtin id) = pure (.type "method_descriptor")) (hm : MtR X id r) (ho : OkTy X.K T ty) (hr : OkM X.K r m)
    (hN : X.N[i]? = some x := by rfl) (hv : Vis X.env.scope x := by first | exact Or.inl rfl | exact Or.inr (Or.inl rfl) | exact Or.inr (Or.inr rfl)) (hd : (x == ("__debug__" : Str)) = false := by decide) (hcd : (x == ("__classdict__" : Str)) = false := by decide)
    (hbase : attributeBase (.Name x pos) name X.env (eval (.Name x pos) X.env) = eval (.Name x pos) X.env := by rfl) (hline : (apos.endLine == cpos.line) = true := by rfl) :
    IE X (.Call (.Attribute (.Name x pos) name apos) [] [] cpos) (eMut i ty m []) := PE.imp (pe_bm0 pa slot hty hm (pe_var hN hv hd hcd) hbase hline) fun σ H Q h => by
  obtain ⟨y, hy, ht, ha⟩ := mut_core ho hr h
  exact ⟨y, hy, ht, tA_nil ha⟩
end

/-! ### what a def is worth -/
def selV {α : Type} (io : List Nat) : Nat → List α → List α
  | _, [] => []
  | j, x :: xs => if j ∈ io then x :: selV io (j + 1) xs else selV io (j + 1) xs
abbrev FS := List Val → Option (Val × List Val)
/-- io: which arguments are changed (they are owned, and are handed back changed) -/
def spF (K : PySem.W.Frag) (io : List Nat) (np : Nat) (m : FS) : Sp := fun vs H Q _ => ∃ (as : List Val) (F : Hp), as.length = np ∧ vs.length = np ∧ Rel K (as.zip vs) F H ∧ ∃ r outs, m as = some (r, outs) ∧
  ∀ x F' H', Stp K (as.zip vs) F H ((r, x) :: outs.zip (selV io 0 vs)) F' H' → Q x H'
def outsE (io : List Nat) : Nat → En → Option (List Val)
  | _, [] => some []
  | j, s :: r => if j ∈ io then (match s with
      | some v => if v.o = true then (outsE io (j + 1) r).bind fun os => some (v :: os) else none
      | none => none)
    else outsE io (j + 1) r
def fnSem (n np : Nat) (io : List Nat) (body : XS) : FS := fun as => if as.length = np then (body (as.map some ++ List.replicate (n - np) none)).bind fun p => match p.1 with
    | .nx => (outsE io 0 (p.2.take np)).bind fun os => some (fz .non, os)
    | .rt v => (outsE io 0 (p.2.take np)).bind fun os => some (v, os)
    | _ => none
  else none
theorem Zip.start : ∀ {as : List Val} {vs : List V} (k : Nat), as.length = vs.length → Zip (as.map some ++ List.replicate k none) (vs.map some ++ List.replicate k none) (as.zip vs)
  | [], [], k, _ => by
    induction k with
    | zero => exact .nil
    | succ k ih => rw [List.replicate_succ, List.replicate_succ]; exact .skip ih
  | a :: as, v :: vs, k, h => .cons (Zip.start k (by simpa using h))
theorem outs_sub {io : List Nat} : ∀ {vs : List V} {e : En} {s : L2.St} {L : LV} {j : Nat} {os : List Val}, Zip e s L → outsE io j (e.take vs.length) = some os → vs.length ≤ e.length → (∀ k v, vs[k]? = some v → j + k ∈ io → s[k]? = some (some v)) →
    ∃ M, (os.zip (selV io j vs) ++ M).Perm L
  | [], e, s, L, j, os, z, h, _, _ => by
    simp [outsE] at h
    subst h
    exact ⟨L, List.Perm.refl _⟩
  | v :: vs, e, s, L, j, os, z, h, hl, hk => by
    have hk' : ∀ k w, vs[k]? = some w → (j + 1) + k ∈ io → s.tail[k]? = some (some w) := fun k w e1 e2 => by
      have := hk (k + 1) w (by simpa using e1) (by rw [show j + (k + 1) = (j + 1) + k by omega]; exact e2)
      simpa using this
    cases z with
    | nil => simp at hl
    | @skip e s L y z =>
      unfold outsE at h
      simp only [List.length_cons, List.take_succ_cons] at h
      split at h
      · cases h
      · rename_i hj
        obtain ⟨M, p⟩ := outs_sub z h (by simpa using hl) (by simpa using hk')
        exact ⟨M, by unfold selV; rw [if_neg hj]; exact p⟩
    | @cons e s L w y z =>
      unfold outsE at h
      simp only [List.length_cons, List.take_succ_cons] at h
      split at h
      · rename_i hj
        split at h
        · cases h2 : outsE io (j + 1) (e.take vs.length) with
          | none => rw [h2] at h; cases h
          | some os2 =>
            rw [h2] at h
            injection h with h; subst h
            obtain ⟨M, p⟩ := outs_sub z h2 (by simpa using hl) (by simpa using hk')
            have ey : y = v := by
              have := hk 0 v (by simp) (by simpa using hj)
              simpa using this
            subst ey
            refine ⟨M, ?_⟩
            unfold selV
            rw [if_pos hj]
            exact p.cons _
        · cases h
      · rename_i hj
        obtain ⟨M, p⟩ := outs_sub z h (by simpa using hl) (by simpa using hk')
        refine ⟨(w, y) :: M, ?_⟩
        unfold selV
        rw [if_neg hj]
        exact List.perm_middle.trans (p.cons _)
/-- a def keeps what its body is worth -/
theorem fn_ok {P : Program} {w : World} {K : PySem.W.Frag} {mg : Str → Option Value} {base : Heap} {x qual : Str} {params : Arguments} {body : List Stmt} {scope : Scope} {f : Addr} {fd : FuncData} {N ps : List Str} {k : Nat} {io : List Nat} {den : XS} {n np : Nat}
    (F : FunD K x qual params body scope [] [] f fd) (S : FnScope N ps scope) (hn : N.length = n) (hp : ps.length = np)
    (hb : ∀ (cdv : Value) (A : Around) (outer : List Env) (s : Shared) (H : Hp) (E : XK), Room k (A.deeper (envOfC qual scope s.heap.objs.size f cdv)) → IB (cxOf CX0 P w K mg base N qual scope f cdv A outer s H E).nox io body den) :
    FnOk P w K mg base CX0 (k + 1) f fd ps (spF K io np (fnSem n np io den)) := by
  refine F.ok S (fun vs H Q E h => ?_) (fun cdv A outer s H vs Q E hr h => ?_)
  · obtain ⟨as, F, h1, h2, _⟩ := h
    rw [h2, hp]
  · obtain ⟨as, F, h1, h2, rel, r, outs, em, q⟩ := h
    refine ⟨_, PSs.nox (hb cdv A outer s H E hr), ?_⟩
    unfold fnSem at em
    rw [if_pos h1] at em
    cases e1 : den (as.map some ++ List.replicate (n - np) none) with
    | none => rw [e1] at em; cases em
    | some p =>
      obtain ⟨o, env'⟩ := p
      rw [e1] at em
      simp only [Option.bind_some] at em
      have zs : Zip (as.map some ++ List.replicate (n - np) none) (L2.start N vs) (as.zip vs) := by
        unfold L2.start
        rw [hn, h2]
        exact Zip.start _ (by rw [h1, h2])
      refine ⟨_, as.zip vs, F, o, env', zs, rel, e1, ?_⟩
      have key : ∀ (σ' : L2.St) (L' : LV) os, Zip env' σ' L' → (∀ i ∈ io, σ'[i]? = (L2.start N vs)[i]?) → outsE io 0 (env'.take np) = some os → ∃ M, (os.zip (selV io 0 vs) ++ M).Perm L' := fun σ' L' os z' hr' he => by
        rw [← h2] at he
        by_cases hl : vs.length ≤ env'.length
        · refine outs_sub z' he hl fun k v hk hi => ?_
          rw [Nat.zero_add] at hi
          rw [hr' k hi]
          unfold L2.start
          have hkl : k < vs.length := (List.getElem?_eq_some_iff.mp hk).1
          rw [List.getElem?_append_left (by simpa using hkl), List.getElem?_map, hk]
          rfl
        · -- shorter: nothing can be missing among the changed ones
          have aux : ∀ {vs : List V} {e : En} {s : L2.St} {L : LV} {j : Nat} {os : List Val}, Zip e s L → outsE io j (e.take vs.length) = some os → (∀ k v, vs[k]? = some v → j + k ∈ io → s[k]? = some (some v)) → ∃ M, (os.zip (selV io j vs) ++ M).Perm L := by
            intro vs
            induction vs with
            | nil =>
              intro e s L j os z h _
              simp [outsE] at h
              subst h
              exact ⟨L, List.Perm.refl _⟩
            | cons v vs ih =>
              intro e s L j os z h hk
              have hk' : ∀ k w, vs[k]? = some w → (j + 1) + k ∈ io → s.tail[k]? = some (some w) := fun k w e1 e2 => by
                have := hk (k + 1) w (by simpa using e1) (by rw [show j + (k + 1) = (j + 1) + k by omega]; exact e2)
                simpa using this
              cases z with
              | nil =>
                simp [outsE] at h
                subst h
                exact ⟨[], by simp⟩
              | @skip e s L y z =>
                unfold outsE at h
                simp only [List.length_cons, List.take_succ_cons] at h
                split at h
                · cases h
                · rename_i hj
                  obtain ⟨M, p⟩ := ih z h (by simpa using hk')
                  exact ⟨M, by unfold selV; rw [if_neg hj]; exact p⟩
              | @cons e s L w y z =>
                unfold outsE at h
                simp only [List.length_cons, List.take_succ_cons] at h
                split at h
                · rename_i hj
                  split at h
                  · cases h2 : outsE io (j + 1) (e.take vs.length) with
                    | none => rw [h2] at h; cases h
                    | some os2 =>
                      rw [h2] at h
                      injection h with h; subst h
                      obtain ⟨M, p⟩ := ih z h2 (by simpa using hk')
                      have ey : y = v := by
                        have := hk 0 v (by simp) (by simpa using hj)
                        simpa using this
                      subst ey
                      refine ⟨M, ?_⟩
                      unfold selV
                      rw [if_pos hj]
                      exact p.cons _
                  · cases h
                · rename_i hj
                  obtain ⟨M, p⟩ := ih z h (by simpa using hk')
                  refine ⟨(w, y) :: M, ?_⟩
                  unfold selV
                  rw [if_neg hj]
                  exact List.perm_middle.trans (p.cons _)
          refine aux z' he fun k v hk hi => ?_
          rw [Nat.zero_add] at hi
          rw [hr' k hi]
          unfold L2.start
          have hkl : k < vs.length := (List.getElem?_eq_some_iff.mp hk).1
          rw [List.getElem?_append_left (by simpa using hkl), List.getElem?_map, hk]
          rfl
      intro σ' L' F' H' z' hr'
      cases o with
      | nx =>
        intro s'
        cases e2 : outsE io 0 (env'.take np) with
        | none => simp [e2] at em
        | some os =>
          simp [e2] at em
          obtain ⟨e3, e4⟩ := em
          subst e3 e4
          obtain ⟨M, p⟩ := key σ' L' os z' hr' e2
          exact q .non F' H' ((s'.trans (Stp.dup s'.rel .non)).less (List.Sublist.refl _) |>.perm (p.symm.cons _) |>.less ((List.sublist_append_left _ M).cons_cons _))
      | rt v =>
        intro x s'
        cases e2 : outsE io 0 (env'.take np) with
        | none => simp [e2] at em
        | some os =>
          simp [e2] at em
          obtain ⟨e3, e4⟩ := em
          subst e3 e4
          obtain ⟨M, p⟩ := key σ' L' os z' hr' e2
          exact q x F' H' (s'.perm (p.symm.cons _) |>.less ((List.sublist_append_left _ M).cons_cons _))
      | bk => cases em
      | ct => cases em
end Wk
end

section
/-! W8: calls of defs; what is lent is had again. -/
namespace Wk
open PySem PySem.Spec PyProof.Rows L2

/-! ### data without anything that changes -/
mutual
def imm : D → Bool
  | .non => true
  | .bl _ => true
  | .int _ => true
  | .str _ => true
  | .tup xs => immL xs
  | .lst _ => false
  | .scr _ => false
  | .dct _ _ => false
  | .obj _ _ _ => false
def immL : List D → Bool
  | [] => true
  | x :: xs => imm x && immL xs
end
def cleanV (v : Val) : Bool := if v.o = true then (match v.d with
    | .lst ds => immL ds
    | .dct ks ds => immL ks && immL ds
    | _ => false) else imm v.d
theorem immL_all : ∀ xs : List D, immL xs = xs.all imm
  | [] => rfl
  | x :: xs => by rw [immL, List.all_cons, immL_all xs]
def minus (F : Hp) (A : List Addr) : Hp := fun a => if a ∈ A then none else F a
theorem minus_in {F : Hp} {A : List Addr} {a : Addr} (h : a ∈ A) : minus F A a = none := if_pos h
theorem minus_out {F : Hp} {A : List Addr} {a : Addr} (h : a ∉ A) : minus F A a = F a := if_neg h
def Lent (F : Hp) (A : List Addr) : Prop := ∀ a ∈ A, (∃ vs, F a = some (.lst vs)) ∨ ∃ kvs, F a = some (.dK kvs)
section
variable {K : PySem.W.Frag} {F : Hp} {A : List Addr}
theorem SqT.minus (h : Lent F A) {a : Addr} {vs : List V} (q : SqT K F a vs) : SqT K (minus F A) a vs := by
  rcases q with (q | ⟨o, q⟩) | q
  · refine .inl (.inl ?_)
    rw [minus_out]
    · exact q
    · intro ha
      rcases h a ha with ⟨_, e⟩ | ⟨_, e⟩ <;> (rw [e] at q; cases q)
  · refine .inl (.inr ⟨o, ?_⟩)
    rw [minus_out]
    · exact q
    · intro ha
      rcases h a ha with ⟨_, e⟩ | ⟨_, e⟩ <;> (rw [e] at q; cases q)
  · exact .inr q
mutual
theorem Rep.minus (h : Lent F A) : ∀ {v : V} {d : D}, Rep K F v d → imm d = true → Rep K (minus F A) v d
  | _, _, .non, _ => .non
  | _, _, .bl b, _ => .bl b
  | _, _, .int i, _ => .int i
  | _, _, .str s h, _ => .str s h
  | _, _, .tup q r, e => .tup (SqT.minus h q) (Reps.minus h r (by simpa [imm] using e))
  | _, _, .lst q r, e => by simp [imm] at e
  | _, _, .scr q r, e => by simp [imm] at e
  | _, _, .dctK q r s, e => by simp [imm] at e
theorem Reps.minus (h : Lent F A) : ∀ {vs : List V} {ds : List D}, Reps K F vs ds → immL ds = true → Reps K (minus F A) vs ds
  | _, _, .nil, _ => .nil
  | _, _, .cons r t, e => by
    simp [immL] at e
    exact .cons (Rep.minus h r e.1) (Reps.minus h t e.2)
end
theorem VOk.minus (h : Lent F A) {H : Hp} {x : V} {v : Val} (r : VOk K F H x v) (c : cleanV v = true) : VOk K (minus F A) H x v := by
  obtain ⟨o, d⟩ := v
  cases o with
  | false => exact VOk.fz.mpr (Rep.minus h (VOk.fz.mp r) (by simpa [cleanV] using c))
  | true =>
    obtain ⟨a, e, hF, cell⟩ := VOk.ow.mp r
    refine VOk.ow.mpr ⟨a, e, ?_, ?_⟩
    · unfold Wk.minus
      split
      · rfl
      · exact hF
    · cases d with
      | lst ds => obtain ⟨vs, e1, q⟩ := cell; exact ⟨vs, e1, Reps.minus h q (by simpa [cleanV] using c)⟩
      | dct ks ds =>
        obtain ⟨vs, e1, q, q'⟩ := cell
        have c : (immL ks && immL ds) = true := by simpa [cleanV] using c
        rw [Bool.and_eq_true] at c
        exact ⟨vs, e1, Reps.minus h q c.1, Reps.minus h q' c.2⟩
      | _ => exact cell.elim
end

/-- many are frozen -/
def low (p : Val × V) : Val × V := (fz p.1.d, p.2)
theorem Stp.freezeAll {K : PySem.W.Frag} {H : Hp} : ∀ {T M : LV} {F : Hp}, Rel K (T ++ M) F H → ∃ F', Stp K (T ++ M) F H (T.map low ++ M) F' H ∧ (∀ p ∈ T, Rep K F' p.2 p.1.d) ∧ (∀ a, a ∉ ows T → F' a = F a) ∧ Lent F' (ows T)
  | [], M, F, r => ⟨F, .refl r, fun p h => by simp at h, fun _ _ => rfl, fun a h => by simp [ows] at h⟩
  | (⟨o, d⟩, x) :: T, M, F, r => by
    obtain ⟨F1, s1, rp, al⟩ := Stp.freeze (L := T ++ M) r
    have r1 : Rel K (T ++ ((fz d, x) :: M)) F1 H := s1.rel.perm List.perm_middle.symm
    obtain ⟨F2, s2, rp2, k2, l2⟩ := Stp.freezeAll r1
    refine ⟨F2, ?_, fun p hp => ?_, fun a ha => ?_, fun a ha => ?_⟩
    · have s3 := s1.trans (s2.permL List.perm_middle)
      exact s3.perm List.perm_middle
    · rcases List.mem_cons.mp hp with e | hp
      · rw [e]; exact rp.mono s2.mono
      · exact rp2 p hp
    · rw [ows_cons] at ha
      have h1 : a ∉ ows T := fun w => ha (List.mem_append_right _ w)
      rw [k2 a h1]
      rcases al with ⟨_, e⟩ | ⟨b, ob, ex, _, _, eo, e, _⟩
      · rw [e]
      · rw [e, upd_ne]
        intro w
        subst w
        subst ex eo
        exact ha (List.mem_append_left _ (by simp [owA]))
    · rw [ows_cons] at ha
      rcases List.mem_append.mp ha with ha | ha
      · rcases al with ⟨e, _⟩ | ⟨b, ob, ex, _, _, eo, e, kind⟩
        · subst e; simp [owA] at ha
        · subst ex eo
          simp [owA] at ha
          subst ha
          have : F2 a = F1 a := by
            refine k2 a fun w => ?_
            have nd := r.nd
            rw [List.cons_append, ows_cons, ows_append] at nd
            exact (List.nodup_append.mp nd).2.2 a (by simp [owA]) a (List.mem_append_left _ w) rfl
          rw [this, e, upd_same]
          rcases kind with ⟨vs, e⟩ | ⟨kvs, e⟩
          · exact .inl ⟨vs, by rw [e]⟩
          · exact .inr ⟨kvs, by rw [e]⟩
      · exact l2 a ha
theorem Stp.ofOws {K : PySem.W.Frag} {L M N : LV} {F H F' H' : Hp} (s : Stp K L F H N F' H') (e : (ows L).Perm (ows M)) : Stp K M F H N F' H' :=
  ⟨s.rel, s.mono, fun a o h n => s.keep a o h fun w => n (e.mem_iff.mp w), fun a h => (s.own a h).imp (fun w => e.mem_iff.mp w) id⟩
/-- lent for a while -/
theorem Stp.lent {K : PySem.W.Frag} {B I R N : LV} {F2 F3 F4 H1 H4 : Hp} (r : Rel K (B ++ (I ++ R)) F2 H1) (m : Same F2 F3) (k : ∀ a, a ∉ ows B → F3 a = F2 a) (l : Lent F3 (ows B))
    (s : Stp K I F3 H1 N F4 H4) (c : ∀ p ∈ N, cleanV p.1 = true) (ob : ∀ p ∈ B, p.1.o = true) : Stp K (B ++ (I ++ R)) F2 H1 (N ++ (B ++ R)) (minus F4 (ows B)) H4 := by
  have l4 : Lent F4 (ows B) := fun a ha => by
    rcases l a ha with ⟨vs, e⟩ | ⟨vs, e⟩
    · exact .inl ⟨vs, s.mono _ _ e⟩
    · exact .inr ⟨vs, s.mono _ _ e⟩
  have m5 : Same F2 (minus F4 (ows B)) := fun a o e => by
    have na : a ∉ ows B := fun w => by
      have := (r.left.ow_at w).1
      rw [e] at this; cases this
    rw [minus_out na]
    exact s.mono _ _ (m _ _ e)
  have nd := r.nd
  rw [ows_append, ows_append] at nd
  obtain ⟨nB, nIR, dB⟩ := List.nodup_append.mp nd
  obtain ⟨nI, nR, dI⟩ := List.nodup_append.mp nIR
  have hB : ∀ a ∈ ows B, ∀ o, H1 a = some o → H4 a = some o := fun a ha o e => (s.keep a o e fun w => dB a ha a (List.mem_append_left _ w) rfl).1
  have hR : ∀ a ∈ ows R, ∀ o, H1 a = some o → H4 a = some o ∧ (F2 a = none → minus F4 (ows B) a = none) := fun a ha o e => by
    obtain ⟨q1, q2⟩ := s.keep a o e fun w => dI a w a ha rfl
    refine ⟨q1, fun z => ?_⟩
    unfold minus
    split
    · rfl
    · rename_i nb
      exact q2 (by rw [k a nb]; exact z)
  refine ⟨⟨fun a o e => ?_, fun p hp => ?_, ?_⟩, m5, fun a o e n => ?_, fun a ha => ?_⟩
  · unfold minus at e
    split at e
    · cases e
    · exact s.rel.sub _ _ e
  · rcases List.mem_append.mp hp with hp | hp
    · exact (s.rel.ok p hp).minus l4 (c p hp)
    · rcases List.mem_append.mp hp with hp | hp
      · refine (r.ok p (List.mem_append_left _ hp)).kept m5 fun a o ea eo e => ⟨hB a ?_ o e, fun _ => minus_in ?_⟩ <;>
        · obtain ⟨⟨o', d'⟩, x'⟩ := p
          have eo : o' = true := eo
          have ea : x' = .ref a := ea
          subst eo ea
          exact mem_ows.mpr ⟨d', hp⟩
      · refine (r.ok p (List.mem_append_right _ (List.mem_append_right _ hp))).kept m5 fun a o ea eo e => hR a ?_ o e
        obtain ⟨⟨o', d'⟩, x'⟩ := p
        have eo : o' = true := eo
        have ea : x' = .ref a := ea
        subst eo ea
        exact mem_ows.mpr ⟨d', hp⟩
  · rw [ows_append, ows_append]
    refine List.nodup_append.mpr ⟨s.rel.nd, List.nodup_append.mpr ⟨nB, nR, fun a ha b hb => dB a ha b (List.mem_append_right _ hb)⟩, fun a ha b hb w => ?_⟩
    subst w
    have hx : ∃ o, H1 a = some o := by
      rcases List.mem_append.mp hb with hb | hb
      · exact (r.left.ow_at hb).2
      · exact (r.right.right.ow_at hb).2
    rcases s.own a ha with q | q
    · rcases List.mem_append.mp hb with hb | hb
      · exact dB a hb a (List.mem_append_left _ q) rfl
      · exact dI a q a hb rfl
    · obtain ⟨o, e⟩ := hx
      rw [e] at q; cases q
  · rw [ows_append, ows_append] at n
    have nB' : a ∉ ows B := fun w => n (List.mem_append_left _ w)
    obtain ⟨q1, q2⟩ := s.keep a o e fun w => n (List.mem_append_right _ (List.mem_append_left _ w))
    exact ⟨q1, fun z => by rw [minus_out nB']; exact q2 (by rw [k a nB']; exact z)⟩
  · rw [ows_append, ows_append] at ha ⊢
    rcases List.mem_append.mp ha with ha | ha
    · exact (s.own a ha).imp (fun w => List.mem_append_right _ (List.mem_append_left _ w)) id
    · rcases List.mem_append.mp ha with ha | ha
      · exact .inl (List.mem_append_left _ ha)
      · exact .inl (List.mem_append_right _ (List.mem_append_right _ ha))

/-! ### slots picked -/
def atE (env : En) (i : Nat) : Val := match env[i]? with
  | some (some v) => v
  | _ => fz .non
def sv (σ : L2.St) (i : Nat) : V := match σ[i]? with
  | some (some x) => x
  | _ => .non
def setE (env : En) : List Nat → List Val → En
  | i :: is, v :: vs => (setE env is vs).set i (some v)
  | _, _ => env
theorem setE_comm {env : En} {i : Nat} {s : Slo} : ∀ {is : List Nat} {vs : List Val}, i ∉ is → setE (env.set i s) is vs = (setE env is vs).set i s
  | [], _, _ => by cases ‹List Val› <;> rfl
  | j :: is, [], _ => rfl
  | j :: is, v :: vs, h => by
    have hj : i ≠ j := fun w => h (by rw [w]; exact List.mem_cons_self)
    rw [setE, setE, setE_comm fun w => h (List.mem_cons_of_mem _ w), List.set_comm _ _ hj]
theorem setE_length (env : En) : ∀ (is : List Nat) (vs : List Val), (setE env is vs).length = env.length
  | [], [] => rfl
  | [], _ :: _ => rfl
  | _ :: _, [] => rfl
  | i :: is, v :: vs => by rw [setE, List.length_set, setE_length env is vs]
theorem setE_get {env : En} {i : Nat} : ∀ {is : List Nat} {vs : List Val}, i ∉ is → (setE env is vs)[i]? = env[i]?
  | [], [], _ => rfl
  | [], _ :: _, _ => rfl
  | _ :: _, [], _ => rfl
  | j :: is, v :: vs, h => by
    rw [setE, List.getElem?_set_ne (fun w => h (by rw [w]; exact List.mem_cons_self))]
    exact setE_get fun w => h (List.mem_cons_of_mem _ w)
theorem setE_append {env : En} : ∀ {is js : List Nat} {vs ws : List Val}, is.length = vs.length → setE env (is ++ js) (vs ++ ws) = setE (setE env js ws) is vs
  | [], js, [], ws, _ => by cases js <;> cases ws <;> rfl
  | i :: is, js, v :: vs, ws, h => by
    rw [List.cons_append, List.cons_append, setE, setE, setE_append (by simpa using h)]
theorem setE_same {env : En} : ∀ {is : List Nat}, (∀ i ∈ is, env[i]? = some (some (atE env i))) → setE env is (is.map (atE env)) = env
  | [], _ => rfl
  | i :: is, h => by
    rw [List.map_cons, setE, setE_same fun j hj => h j (List.mem_cons_of_mem _ hj)]
    have e := h i List.mem_cons_self
    apply List.ext_getElem?
    intro j
    by_cases hj : i = j
    · subst hj
      rw [List.getElem?_set_self (List.getElem?_eq_some_iff.mp e).1, e]
    · rw [List.getElem?_set_ne hj]
theorem Zip.pick : ∀ {is : List Nat} {e : En} {s : L2.St} {L : LV}, Zip e s L → is.Nodup → (∀ i ∈ is, e[i]? = some (some (atE e i))) →
    ∃ R, L.Perm (is.map (fun i => (atE e i, sv s i)) ++ R) ∧ ∀ ws, ws.length = is.length → ∃ L', Zip (setE e is ws) s L' ∧ L'.Perm (ws.zip (is.map (sv s)) ++ R)
  | [], e, s, L, z, _, _ => ⟨L, List.Perm.refl _, fun ws hw => ⟨L, by
      have : ws = [] := List.eq_nil_of_length_eq_zero hw
      subst this; exact z, by
      have : ws = [] := List.eq_nil_of_length_eq_zero hw
      subst this; exact List.Perm.refl _⟩⟩
  | i :: is, e, s, L, z, nd, h => by
    obtain ⟨ni, nd⟩ := List.nodup_cons.mp nd
    obtain ⟨x, L1, L2, h1, h2, h3, _, _, _⟩ := z.get (h i List.mem_cons_self)
    have hil : i < e.length := (List.getElem?_eq_some_iff.mp (h i List.mem_cons_self)).1
    have hx : sv s i = x := by unfold sv; rw [h1]
    have hat : ∀ j ∈ is, atE (e.set i none) j = atE e j := fun j hj => by
      unfold atE
      rw [List.getElem?_set_ne (fun w => ni (by rw [w]; exact hj))]
    obtain ⟨R, p, q⟩ := Zip.pick h3 nd fun j hj => by
      rw [hat j hj, List.getElem?_set_ne (fun w => ni (by rw [w]; exact hj))]
      exact h j (List.mem_cons_of_mem _ hj)
    refine ⟨R, ?_, fun ws hw => ?_⟩
    · rw [h2]
      have em : is.map (fun j => (atE (e.set i none) j, sv s j)) = is.map fun j => (atE e j, sv s j) := List.map_congr_left fun j hj => by rw [hat j hj]
      rw [em] at p
      rw [List.map_cons, hx]
      exact List.perm_middle.trans (p.cons _)
    · cases ws with
      | nil => simp at hw
      | cons w ws =>
        obtain ⟨L', z', p'⟩ := q ws (by simpa using hw)
        rw [setE_comm ni] at z'
        have e0 : ((setE e is ws).set i none)[i]? = some none := List.getElem?_set_self (by rw [setE_length]; exact hil)
        obtain ⟨La, Lb, hl, _, hset⟩ := z'.get0 e0
        have z2 := hset w x
        rw [List.set_set] at z2
        have es : s.set i (some x) = s := by
          apply List.ext_getElem?
          intro j
          by_cases hj : i = j
          · subst hj
            rw [List.getElem?_set_self (List.getElem?_eq_some_iff.mp h1).1, h1]
          · rw [List.getElem?_set_ne hj]
        rw [es] at z2
        refine ⟨_, z2, ?_⟩
        rw [List.map_cons, hx, List.zip_cons_cons]
        rw [hl] at p'
        exact List.perm_middle.trans (p'.cons _)

/-! ### calls -/
def ioS (io : List Nat) : Nat → List OV → List Nat
  | _, [] => []
  | j, .s i :: r => if j ∈ io then i :: ioS io (j + 1) r else ioS io (j + 1) r
  | j, .t _ :: r => ioS io (j + 1) r
def bsS (env : En) (io : List Nat) : Nat → List OV → List Nat
  | _, [] => []
  | j, .s i :: r => if j ∈ io then bsS env io (j + 1) r else if (atE env i).o = true then i :: bsS env io (j + 1) r else bsS env io (j + 1) r
  | j, .t _ :: r => bsS env io (j + 1) r
def argV (env : En) (io : List Nat) : Nat → List OV → Option (List Val)
  | _, [] => some []
  | j, .t v :: r => if j ∈ io then none else (argV env io (j + 1) r).bind fun vs => some (fz v.d :: vs)
  | j, .s i :: r => match env[i]? with
    | some (some v) => if j ∈ io then (if v.o = true then (argV env io (j + 1) r).bind fun vs => some (v :: vs) else none) else (argV env io (j + 1) r).bind fun vs => some (fz v.d :: vs)
    | _ => none
def eCall (m : FS) (io : List Nat) (os : List Opd) : XE := fun env => (evs os env).bind fun p => (argV p.2 io 0 p.1).bind fun as =>
  if (bsS p.2 io 0 p.1 ++ ioS io 0 p.1).Nodup then (m as).bind fun r => if r.2.length = (ioS io 0 p.1).length then
    some (r.1, if ((bsS p.2 io 0 p.1).isEmpty || (cleanV r.1 && r.2.all cleanV)) = true then setE p.2 (ioS io 0 p.1) r.2
      else setE (setE p.2 (ioS io 0 p.1) r.2) (bsS p.2 io 0 p.1) ((bsS p.2 io 0 p.1).map fun i => fz (atE p.2 i).d)) else none else none
theorem evs_len : ∀ {os : List Opd} {env env' : En} {ovs : List OV}, evs os env = some (ovs, env') → ovs.length = os.length
  | [], _, _, _, h => by injection h with h; injection h with h _; subst h; rfl
  | .e f :: os, env, env', ovs, h => by
    unfold evs at h
    cases e1 : f env with
    | none => rw [e1] at h; cases h
    | some p =>
      rw [e1] at h
      simp only [Option.bind_some] at h
      cases e2 : evs os p.2 with
      | none => rw [e2] at h; cases h
      | some q =>
        rw [e2] at h
        injection h with h; injection h with h _
        subst h
        simp [evs_len e2]
  | .s i :: os, env, env', ovs, h => by
    unfold evs at h
    split at h
    · cases e2 : evs os env with
      | none => rw [e2] at h; cases h
      | some q =>
        rw [e2] at h
        injection h with h; injection h with h _
        subst h
        simp [evs_len e2]
    · cases h
theorem Mtc.len {σ : L2.St} : ∀ {ovs : List OV} {xs : List V} {T : LV}, Mtc σ ovs xs T → xs.length = ovs.length
  | _, _, _, .nil => rfl
  | _, _, _, .t m => by simp [m.len]
  | _, _, _, .s _ m => by simp [m.len]
theorem argV_len {env : En} {io : List Nat} : ∀ {ovs : List OV} {j : Nat} {as : List Val}, argV env io j ovs = some as → as.length = ovs.length
  | [], _, _, h => by injection h with h; subst h; rfl
  | .t v :: r, j, as, h => by
    unfold argV at h
    split at h
    · cases h
    · cases e : argV env io (j + 1) r with
      | none => rw [e] at h; cases h
      | some vs => rw [e] at h; injection h with h; subst h; simp [argV_len e]
  | .s i :: r, j, as, h => by
    unfold argV at h
    split at h
    · split at h
      · split at h
        · cases e : argV env io (j + 1) r with
          | none => rw [e] at h; cases h
          | some vs => rw [e] at h; injection h with h; subst h; simp [argV_len e]
        · cases h
      · cases e : argV env io (j + 1) r with
        | none => rw [e] at h; cases h
        | some vs => rw [e] at h; injection h with h; subst h; simp [argV_len e]
    · cases h
theorem ioS_in {io : List Nat} {j i : Nat} {r : List OV} (h : j ∈ io) : ioS io j (.s i :: r) = i :: ioS io (j + 1) r := by
  rw [ioS, if_pos h]
theorem ioS_out {io : List Nat} {j i : Nat} {r : List OV} (h : j ∉ io) : ioS io j (.s i :: r) = ioS io (j + 1) r := by
  rw [ioS, if_neg h]
/-- the arguments stand for what they are said to -/
theorem args_ok {K : PySem.W.Frag} {env : En} {σ : L2.St} {io : List Nat} {F H : Hp} {Pt Pb Pi : Val × V → Prop} (ht : ∀ p, Pt p → Rep K F p.2 p.1.d) (hb : ∀ p, Pb p → Rep K F p.2 p.1.d) (hi : ∀ p, Pi p → VOk K F H p.2 p.1)
    (hs : ∀ (i : Nat) (v : Val) (x : V), env[i]? = some (some v) → σ[i]? = some (some x) → v.o = false → Rep K F x v.d) : ∀ {ovs : List OV} {xs : List V} {T : LV} {j : Nat} {as : List Val}, Mtc σ ovs xs T → (∀ p ∈ T, Pt p) → argV env io j ovs = some as →
    (∀ i ∈ bsS env io j ovs, Pb (atE env i, sv σ i)) → (∀ i ∈ ioS io j ovs, Pi (atE env i, sv σ i)) →
    (∀ p ∈ as.zip xs, VOk K F H p.2 p.1) ∧ ows (as.zip xs) = ows ((ioS io j ovs).map fun i => (atE env i, sv σ i)) ∧ selV io j xs = (ioS io j ovs).map (sv σ) ∧ (∀ i ∈ bsS env io j ovs ++ ioS io j ovs, env[i]? = some (some (atE env i)) ∧ (atE env i).o = true)
  | [], [], _, j, as, .nil, _, e, _, _ => by
    injection e with e; subst e
    exact ⟨fun p h => by simp at h, rfl, rfl, fun i h => by simp [bsS, ioS] at h⟩
  | .t v :: os, x :: xs, _, j, as, @Mtc.t _ _ _ _ _ T m, hT, e, h1, h2 => by
    unfold argV at e
    split at e
    · cases e
    · rename_i hj
      cases e2 : argV env io (j + 1) os with
      | none => rw [e2] at e; cases e
      | some vs =>
        rw [e2] at e
        injection e with e; subst e
        obtain ⟨a1, a2, a3, a4⟩ := args_ok ht hb hi hs m (fun p hp => hT p (List.mem_cons_of_mem _ hp)) e2 h1 h2
        refine ⟨fun p hp => ?_, ?_, ?_, a4⟩
        · rw [List.zip_cons_cons] at hp
          rcases List.mem_cons.mp hp with e | hp
          · rw [e]; exact VOk.fz.mpr (ht (v, x) (hT _ List.mem_cons_self))
          · exact a1 p hp
        · rw [List.zip_cons_cons, ows_cons, owA_fz, List.nil_append]; exact a2
        · rw [selV, if_neg hj]; exact a3
  | .s i :: os, x :: xs, T, j, as, .s hx m, hT, e, h1, h2 => by
    unfold argV at e
    split at e
    · rename_i v hv
      have hat : atE env i = v := by unfold atE; rw [hv]
      have hsv : sv σ i = x := by unfold sv; rw [hx]
      split at e
      · rename_i hj
        split at e
        · rename_i hvo
          cases e2 : argV env io (j + 1) os with
          | none => rw [e2] at e; cases e
          | some vs =>
            rw [e2] at e
            injection e with e; subst e
            unfold bsS at h1
            unfold ioS at h2
            rw [if_pos hj] at h1 h2
            obtain ⟨a1, a2, a3, a4⟩ := args_ok ht hb hi hs m hT e2 h1 fun i' hi' => h2 i' (List.mem_cons_of_mem _ hi')
            have me := h2 i List.mem_cons_self
            rw [hat, hsv] at me
            refine ⟨fun p hp => ?_, ?_, ?_, fun i' hi' => ?_⟩
            · rw [List.zip_cons_cons] at hp
              rcases List.mem_cons.mp hp with e | hp
              · rw [e]; exact hi _ me
              · exact a1 p hp
            · rw [List.zip_cons_cons, ows_cons, a2, ioS_in hj, List.map_cons, ows_cons, hat, hsv]
            · rw [selV, if_pos hj, a3, ioS_in hj, List.map_cons, hsv]
            · rw [bsS, if_pos hj, ioS_in hj] at hi'
              rcases List.mem_append.mp hi' with q | q
              · exact a4 i' (List.mem_append_left _ q)
              · rcases List.mem_cons.mp q with q | q
                · subst q; rw [hat]; exact ⟨hv, hvo⟩
                · exact a4 i' (List.mem_append_right _ q)
        · cases e
      · rename_i hj
        cases e2 : argV env io (j + 1) os with
        | none => rw [e2] at e; cases e
        | some vs =>
          rw [e2] at e
          injection e with e; subst e
          unfold bsS at h1
          unfold ioS at h2
          rw [if_neg hj] at h1 h2
          rw [hat] at h1
          have h1' : ∀ i' ∈ bsS env io (j + 1) os, Pb (atE env i', sv σ i') := fun i' hi' => by
            split at h1
            · exact h1 i' (List.mem_cons_of_mem _ hi')
            · exact h1 i' hi'
          obtain ⟨a1, a2, a3, a4⟩ := args_ok ht hb hi hs m hT e2 h1' h2
          refine ⟨fun p hp => ?_, ?_, ?_, fun i' hi' => ?_⟩
          · rw [List.zip_cons_cons] at hp
            rcases List.mem_cons.mp hp with e | hp
            · rw [e]
              refine VOk.fz.mpr ?_
              split at h1
              · rename_i hvo
                have me := h1 i List.mem_cons_self
                rw [hat, hsv] at me
                exact hb (v, x) me
              · rename_i hvo
                exact hs i v x hv hx (by simpa using hvo)
            · exact a1 p hp
          · rw [List.zip_cons_cons, ows_cons, owA_fz, List.nil_append, a2, ioS_out hj]
          · rw [selV, if_neg hj, a3, ioS_out hj]
          · rw [bsS, if_neg hj, ioS_out hj, hat] at hi'
            split at hi'
            · rename_i hvo
              rcases List.mem_append.mp hi' with q | q
              · rcases List.mem_cons.mp q with q | q
                · subst q; rw [hat]; exact ⟨hv, hvo⟩
                · exact a4 i' (List.mem_append_left _ q)
              · exact a4 i' (List.mem_append_right _ q)
            · exact a4 i' hi'
    · cases e

theorem slots_ok {env : En} {io : List Nat} : ∀ {ovs : List OV} {j : Nat} {as : List Val}, argV env io j ovs = some as → ∀ i ∈ bsS env io j ovs ++ ioS io j ovs, env[i]? = some (some (atE env i)) ∧ (atE env i).o = true
  | [], j, as, e => fun i h => by simp [bsS, ioS] at h
  | .t v :: os, j, as, e => by
    unfold argV at e
    split at e
    · cases e
    · cases e2 : argV env io (j + 1) os with
      | none => rw [e2] at e; cases e
      | some vs => exact fun i hi => slots_ok e2 i hi
  | .s i :: os, j, as, e => by
    unfold argV at e
    split at e
    · rename_i v hv
      have hat : atE env i = v := by unfold atE; rw [hv]
      intro i' hi'
      split at e
      · rename_i hj
        split at e
        · rename_i hvo
          cases e2 : argV env io (j + 1) os with
          | none => rw [e2] at e; cases e
          | some vs =>
            rw [bsS, if_pos hj, ioS_in hj] at hi'
            rcases List.mem_append.mp hi' with q | q
            · exact slots_ok e2 i' (List.mem_append_left _ q)
            · rcases List.mem_cons.mp q with q | q
              · subst q; rw [hat]; exact ⟨hv, hvo⟩
              · exact slots_ok e2 i' (List.mem_append_right _ q)
        · cases e
      · rename_i hj
        cases e2 : argV env io (j + 1) os with
        | none => rw [e2] at e; cases e
        | some vs =>
          rw [bsS, if_neg hj, ioS_out hj, hat] at hi'
          split at hi'
          · rename_i hvo
            rcases List.mem_append.mp hi' with q | q
            · rcases List.mem_cons.mp q with q | q
              · subst q; rw [hat]; exact ⟨hv, hvo⟩
              · exact slots_ok e2 i' (List.mem_append_left _ q)
            · exact slots_ok e2 i' (List.mem_append_right _ q)
          · exact slots_ok e2 i' hi'
    · cases e
theorem perm4 {α : Type} (A B C D : List α) : (A ++ (B ++ C ++ D)).Perm (B ++ (A ++ (C ++ D))) := by
  rw [List.append_assoc]
  have h1 : (A ++ (B ++ (C ++ D))).Perm ((A ++ B) ++ (C ++ D)) := by rw [List.append_assoc]
  have h2 : ((A ++ B) ++ (C ++ D)).Perm ((B ++ A) ++ (C ++ D)) := List.perm_append_comm.append_right _
  have h3 : (B ++ A) ++ (C ++ D) = B ++ (A ++ (C ++ D)) := by rw [List.append_assoc]
  rw [← h3]
  exact h1.trans h2
theorem sv_of {σ : L2.St} {i : Nat} {x : V} (h : σ[i]? = some (some x)) : sv σ i = x := by unfold sv; rw [h]
theorem call_core {K : PySem.W.Frag} {m : FS} {io : List Nat} {os : List Opd} {σ : L2.St} {H : Hp} {Q : VK} {E : XK} (h : tE K (eCall m io os) σ H Q) : tCall (spF K io os.length m) [] E (tA K os) σ H Q := by
  obtain ⟨env, L, F, v, env', z, rel, e, q⟩ := h
  unfold eCall at e
  cases e1 : evs os env with
  | none => rw [e1] at e; cases e
  | some p =>
    obtain ⟨ovs, env1⟩ := p
    rw [e1] at e
    simp only [Option.bind_some] at e
    cases e2 : argV env1 io 0 ovs with
    | none => rw [e2] at e; cases e
    | some as =>
      rw [e2] at e
      simp only [Option.bind_some] at e
      split at e
      · rename_i hnd
        cases e3 : m as with
        | none => rw [e3] at e; cases e
        | some rr =>
          obtain ⟨r, outs⟩ := rr
          rw [e3] at e
          simp only [Option.bind_some] at e
          split at e
          · rename_i hlen
            injection e with e; injection e with e4 e5
            subst e4
            refine ⟨env, L, F, ovs, env1, z, rel, e1, fun xs T L1 F1 H1 z1 s1 mt => ?_⟩
            show spF K io os.length m (xs ++ []) H1 Q E
            rw [List.append_nil]
            have slots := slots_ok e2
            obtain ⟨R, pR, qR⟩ := z1.pick hnd fun i hi => (slots i hi).1
            rw [List.map_append] at pR
            obtain ⟨B, hB⟩ : ∃ B, B = (bsS env1 io 0 ovs).map fun i => (atE env1 i, sv σ i) := ⟨_, rfl⟩
            obtain ⟨I, hI⟩ : ∃ I, I = (ioS io 0 ovs).map fun i => (atE env1 i, sv σ i) := ⟨_, rfl⟩
            rw [← hB, ← hI] at pR
            -- the temporary values are frozen
            obtain ⟨F2, s2, rT, _, _⟩ := Stp.freezeAll s1.rel
            have s3 : Stp K L F H (B ++ (I ++ R)) F2 H1 := (((s1.trans s2).less (List.sublist_append_right _ _)).perm pR).perm (by rw [List.append_assoc])
            -- what is lent
            obtain ⟨F3, s5, rB, k3, l3⟩ := Stp.freezeAll s3.rel
            have hfz : ∀ (i : Nat) (v : Val) (x : V), env1[i]? = some (some v) → σ[i]? = some (some x) → v.o = false → Rep K F3 x v.d := fun i v x hv hx ho => by
              obtain ⟨y, hy, hm⟩ := z1.at hv
              rw [hx] at hy; injection hy with hy; injection hy with hy; subst hy
              have := s1.rel.ok _ (List.mem_append_right T hm)
              obtain ⟨o', d'⟩ := v
              have ho : o' = false := ho
              subst ho
              exact ((VOk.fz.mp this).mono s2.mono).mono s5.mono
            obtain ⟨a1, a2, a3, _⟩ := args_ok (K := K) (F := F3) (H := H1) (Pt := fun p => Rep K F3 p.2 p.1.d) (Pb := fun p => p ∈ B) (Pi := fun p => p ∈ I) (fun _ h => h) (fun p hp => rB p hp)
              (fun p hp => s5.rel.ok p (List.mem_append_right _ (List.mem_append_left _ hp))) hfz mt (fun p hp => (rT p hp).mono s5.mono) e2
              (fun i hi => by rw [hB]; exact List.mem_map.mpr ⟨i, hi, rfl⟩) (fun i hi => by rw [hI]; exact List.mem_map.mpr ⟨i, hi, rfl⟩)
            rw [← hI] at a2
            have relA : Rel K (as.zip xs) F3 H1 := ⟨s5.rel.sub, a1, by rw [a2]; exact s5.rel.right.left.nd⟩
            refine ⟨as, F3, by rw [argV_len e2, evs_len e1], by rw [mt.len, evs_len e1], relA, r, outs, e3, fun x F4 H4 s6 => ?_⟩
            rw [a3] at s6
            obtain ⟨O, hO⟩ : ∃ O, O = outs.zip ((ioS io 0 ovs).map (sv σ)) := ⟨_, rfl⟩
            rw [← hO] at s6
            have s7 : Stp K I F3 H1 ((r, x) :: O) F4 H4 := s6.ofOws (by rw [a2])
            have bv : ∀ p ∈ B, p.1.o = true := fun p hp => by
              rw [hB] at hp
              obtain ⟨i, hi, e⟩ := List.mem_map.mp hp
              rw [← e]
              exact (slots i (List.mem_append_left _ hi)).2
            have eB : ((bsS env1 io 0 ovs).map (atE env1)).zip ((bsS env1 io 0 ovs).map (sv σ)) = B := by
              rw [hB, List.zip_map']
            have eBl : ((bsS env1 io 0 ovs).map fun i => fz (atE env1 i).d).zip ((bsS env1 io 0 ovs).map (sv σ)) = B.map low := by
              rw [hB, List.zip_map', List.map_map]
              rfl
            by_cases hc : (cleanV r && outs.all cleanV) = true
            · rw [hc, Bool.or_true, if_pos rfl] at e5
              subst e5
              rw [Bool.and_eq_true] at hc
              have s8 := Stp.lent s3.rel s5.mono k3 l3 s7 (fun p hp => by
                rcases List.mem_cons.mp hp with e | hp
                · rw [e]; exact hc.1
                · rw [hO] at hp
                  exact List.all_eq_true.mp hc.2 _ (List.of_mem_zip hp).1) bv
              have s9 := s3.trans s8
              obtain ⟨L', z', p'⟩ := qR ((bsS env1 io 0 ovs).map (atE env1) ++ outs) (by simp [hlen])
              have hni : ∀ i ∈ bsS env1 io 0 ovs, i ∉ ioS io 0 ovs := fun i hi w => (List.nodup_append.mp hnd).2.2 i hi i w rfl
              have em : (bsS env1 io 0 ovs).map (atE env1) = (bsS env1 io 0 ovs).map (atE (setE env1 (ioS io 0 ovs) outs)) := List.map_congr_left fun i hi => by
                unfold atE; rw [setE_get (hni i hi)]
              have es : setE env1 (bsS env1 io 0 ovs ++ ioS io 0 ovs) ((bsS env1 io 0 ovs).map (atE env1) ++ outs) = setE env1 (ioS io 0 ovs) outs := by
                rw [setE_append (by simp), em]
                refine setE_same fun i hi => ?_
                have hat : atE (setE env1 (ioS io 0 ovs) outs) i = atE env1 i := by unfold atE; rw [setE_get (hni i hi)]
                rw [hat, setE_get (hni i hi)]
                exact (slots i (List.mem_append_left _ hi)).1
              rw [es] at z'
              rw [List.map_append, List.zip_append (by simp), ← hO, eB] at p'
              refine q x L' _ H4 z' (s9.perm ?_)
              refine List.Perm.cons _ (List.Perm.trans ?_ p'.symm)
              refine List.Perm.trans (l₂ := (O ++ _) ++ R) (by rw [List.append_assoc]; exact List.Perm.refl _) ?_
              exact List.perm_append_comm.append_right _
            · have e6 : setE (setE env1 (ioS io 0 ovs) outs) (bsS env1 io 0 ovs) ((bsS env1 io 0 ovs).map fun i => fz (atE env1 i).d) = env' := by
                split at e5
                · rename_i hw
                  have hem : (bsS env1 io 0 ovs).isEmpty = true := by
                    rw [Bool.or_eq_true] at hw
                    exact hw.resolve_right hc
                  rw [List.isEmpty_iff.mp hem]
                  exact e5
                · exact e5
              subst e6
              have s8 := s7.frame (T := B.map low ++ R) (s5.rel.perm (by
                rw [← List.append_assoc, ← List.append_assoc]
                exact List.perm_append_comm.append_right _))
              have s9 := (s3.trans s5).trans (s8.permL (by
                rw [← List.append_assoc, ← List.append_assoc]
                exact List.perm_append_comm.append_right _))
              obtain ⟨L', z', p'⟩ := qR (((bsS env1 io 0 ovs).map fun i => fz (atE env1 i).d) ++ outs) (by simp [hlen])
              rw [setE_append (by simp)] at z'
              rw [List.map_append, List.zip_append (by simp), ← hO, eBl] at p'
              refine q x L' _ H4 z' (s9.perm ?_)
              refine List.Perm.cons _ (List.Perm.trans ?_ p'.symm)
              refine List.Perm.trans (l₂ := (O ++ _) ++ R) (by rw [List.append_assoc]; exact List.Perm.refl _) ?_
              exact List.perm_append_comm.append_right _
          · cases e
      · cases e
end Wk
end

section
/-! W9: operators, comparisons, items, slices, calls and methods of the built-in types. -/
namespace Wk
open PySem PySem.Spec PyProof.Rows L2

/-! ### data as data -/
mutual
def py : D → PyData
  | .non => .none
  | .bl b => .bool b
  | .int i => .int i
  | .str s => .str ⟨s.toArray⟩
  | .tup xs => .tuple (pyL xs)
  | .lst xs => .list (pyL xs)
  | .scr xs => .none
  | .dct _ _ => .none
  | .obj _ _ _ => .none
def pyL : List D → List PyData
  | [] => []
  | x :: xs => py x :: pyL xs
end
mutual
def dataD : D → Bool
  | .non => true
  | .bl _ => true
  | .int _ => true
  | .str _ => true
  | .tup xs => dataL xs
  | .lst xs => dataL xs
  | .scr xs => false
  | .dct _ _ => false
  | .obj _ _ _ => false
def dataL : List D → Bool
  | [] => true
  | x :: xs => dataD x && dataL xs
end
/-! how deep -/
mutual
def depD : D → Nat
  | .non => 0
  | .bl _ => 0
  | .int _ => 0
  | .str _ => 0
  | .tup xs => depL xs + 1
  | .lst xs => depL xs + 1
  | .scr xs => 0
  | .dct _ _ => 0
  | .obj _ _ _ => 0
def depL : List D → Nat
  | [] => 0
  | x :: xs => max (depD x) (depL xs)
end
/-! == -/
mutual
def deq : D → D → Bool
  | .non, .non => true
  | .bl a, .bl b => a == b
  | .bl a, .int j => (if a then 1 else 0) == j
  | .int i, .bl b => i == (if b then 1 else 0)
  | .int i, .int j => i == j
  | .str x, .str y => x == y
  | .lst xs, .lst ys => deqL xs ys
  | .tup xs, .tup ys => deqL xs ys
  | _, _ => false
def deqL : List D → List D → Bool
  | [], [] => true
  | x :: xs, y :: ys => deq x y && deqL xs ys
  | _, _ => false
end
mutual
theorem eqv_py : ∀ (a b : D), dataD a = true → dataD b = true → PyData.eqv (py a) (py b) = deq a b
  | .tup xs, b, ha, hb => by
    cases b <;> simp [py, deq, PyData.eqv]
    · exact eqvL_py _ _ (by simpa [dataD] using ha) (by simpa [dataD] using hb)
    all_goals simp [dataD] at hb
  | .lst xs, b, ha, hb => by
    cases b <;> simp [py, deq, PyData.eqv]
    · exact eqvL_py _ _ (by simpa [dataD] using ha) (by simpa [dataD] using hb)
    all_goals simp [dataD] at hb
  | .str x, b, ha, hb => by
    cases b <;> simp [py, deq, PyData.eqv, dataD] at hb ⊢
    rename_i y
    rw [Bool.eq_iff_iff]
    simp
  | .non, b, ha, hb => by cases b <;> simp [py, deq, PyData.eqv, dataD] at hb ⊢
  | .bl a, b, ha, hb => by cases b <;> simp [py, deq, PyData.eqv, dataD] at hb ⊢
  | .int a, b, ha, hb => by cases b <;> simp [py, deq, PyData.eqv, dataD] at hb ⊢
  | .dct _ _, _, ha, _ => by simp [dataD] at ha
  | .obj _ _ _, _, ha, _ => by simp [dataD] at ha
  | .scr _, _, ha, _ => by simp [dataD] at ha
theorem eqvL_py : ∀ (a b : List D), dataL a = true → dataL b = true → PyData.eqvAll (pyL a) (pyL b) = deqL a b
  | [], [], _, _ => by simp [pyL, PyData.eqvAll, deqL]
  | [], _ :: _, _, _ => by simp [pyL, PyData.eqvAll, deqL]
  | _ :: _, [], _, _ => by simp [pyL, PyData.eqvAll, deqL]
  | x :: xs, y :: ys, ha, hb => by
    simp [dataL] at ha hb
    simp only [pyL, PyData.eqvAll, deqL]
    rw [eqv_py x y ha.1 hb.1, eqvL_py xs ys ha.2 hb.2]
end
mutual
theorem py_depth : ∀ a : D, (py a).depth ≤ depD a
  | .non => by simp [py, depD, PyData.depth]
  | .bl _ => by simp [py, depD, PyData.depth]
  | .int _ => by simp [py, depD, PyData.depth]
  | .str _ => by simp [py, depD, PyData.depth]
  | .tup xs => by
    have := pyL_depth xs
    simp only [py, depD, PyData.depth]; omega
  | .lst xs => by
    have := pyL_depth xs
    simp only [py, depD, PyData.depth]; omega
  | .dct _ _ => by simp [py, depD, PyData.depth]
  | .obj _ _ _ => by simp [py, depD, PyData.depth]
  | .scr _ => by simp [py, depD, PyData.depth]
theorem pyL_depth : ∀ a : List D, PyData.depthAll (pyL a) ≤ depL a
  | [] => by simp [pyL, depL, PyData.depthAll]
  | x :: xs => by
    have h1 := py_depth x
    have h2 := pyL_depth xs
    simp only [pyL, depL, PyData.depthAll]; omega
end

section
variable {K : PySem.W.Frag} {F H : Hp}
mutual
theorem Rep.dp (s : Same F H) : ∀ {v : V} {d : D}, Rep K F v d → dataD d = true → Dp K H v (py d) ∧ (py d).canLay0 = true
  | _, _, .non, _ => ⟨.non, rfl⟩
  | _, _, .bl b, _ => ⟨.bl b, rfl⟩
  | _, _, .int i, _ => ⟨.int i, rfl⟩
  | _, _, .str x h, _ => ⟨.str _, by
      unfold strG at h
      rw [Bool.and_eq_true] at h
      simp only [py, PyData.canLay0]
      unfold PyData.strOk
      rw [← h.2]
      simp⟩
  | _, _, .tup q r, e => by
    obtain ⟨h1, h2⟩ := Reps.dp s r (by simpa [dataD] using e)
    exact ⟨.tup (s.seqT q) h1, by simpa [py, PyData.canLay0] using h2⟩
  | _, _, .lst q r, e => by
    obtain ⟨h1, h2⟩ := Reps.dp s r (by simpa [dataD] using e)
    exact ⟨.lst (.of (s _ _ q)) h1, by simpa [py, PyData.canLay0] using h2⟩
  | _, _, .scr q r, e => by simp [dataD] at e
  | _, _, .dctK q r t, e => by simp [dataD] at e
theorem Reps.dp (s : Same F H) : ∀ {v : List V} {d : List D}, Reps K F v d → dataL d = true → DpAll K H v (pyL d) ∧ PyData.canLayAll0 (pyL d) = true
  | _, _, .nil, _ => ⟨.nil, rfl⟩
  | _, _, .cons r t, e => by
    simp [dataL] at e
    obtain ⟨h1, h2⟩ := Rep.dp s r e.1
    obtain ⟨h3, h4⟩ := Reps.dp s t e.2
    exact ⟨.cons h1 h3, by simp [pyL, PyData.canLayAll0, h2, h4]⟩
end
theorem VOk.dp (s : Same F H) {x : V} {v : Val} (h : VOk K F H x v) (e : dataD v.d = true) (hd : depD v.d ≤ 64) : Dp K H x (py v.d) ∧ SeqAt.shaped (py v.d) = true := by
  have sh : ∀ d : D, depD d ≤ 64 → (py d).canLay0 = true → SeqAt.shaped (py d) = true := fun d h1 h2 => by
    unfold SeqAt.shaped
    rw [h2, Bool.true_and]
    exact decide_eq_true (Nat.le_trans (py_depth d) h1)
  obtain ⟨o, d⟩ := v
  cases o with
  | false =>
    obtain ⟨h1, h2⟩ := Rep.dp s (VOk.fz.mp h) e
    exact ⟨h1, sh d hd h2⟩
  | true =>
    obtain ⟨a, ex, hF, c⟩ := VOk.ow.mp h
    have ex : x = .ref a := ex
    subst ex
    cases d with
    | lst ds =>
      obtain ⟨vs, e1, r⟩ := c
      obtain ⟨h1, h2⟩ := Reps.dp s r (by simpa [dataD] using e)
      exact ⟨.lst (.of e1) h1, sh (.lst ds) hd (by simpa [py, PyData.canLay0] using h2)⟩
    | dct ks ds => simp [dataD] at e
    | _ => exact c.elim
end
/-- scalars whose == is told without more -/
def scalD : D → D → Bool
  | .non, .non => true | .non, .int _ => true | .int _, .non => true | .non, .bl _ => true | .bl _, .non => true | .non, .str _ => true | .str _, .non => true
  | .int _, .int _ => true | .bl _, .bl _ => true | .str _, .str _ => true
  | .int _, .str _ => true | .str _, .int _ => true | .bl _, .str _ => true | .str _, .bl _ => true
  | _, _ => false
def okEq (a b : D) : Bool := scalD a b || (dataD a && dataD b && decide (depD a ≤ 64) && decide (depD b ≤ 64))
def gEq : Fn
  | [a, b] => if okEq a.d b.d = true then some (fz (.bl (deq a.d b.d))) else none
  | _ => none
def gNe : Fn
  | [a, b] => if okEq a.d b.d = true then some (fz (.bl (!deq a.d b.d))) else none
  | _ => none
theorem VOk.fix {K : PySem.W.Frag} {F H : Hp} {x : V} {v : Val} (h : VOk K F H x v) : (v.d = .non → x = .non) ∧ (∀ b, v.d = .bl b → x = .bl b) ∧ (∀ i, v.d = .int i → x = .int i) ∧ (∀ s, v.d = .str s → x = .str ⟨s.toArray⟩) := by
  obtain ⟨o, d⟩ := v
  refine ⟨fun e => ?_, fun b e => ?_, fun i e => ?_, fun s e => ?_⟩
  · have e : d = _ := e
    subst e; exact h.non
  · have e : d = _ := e
    subst e; exact h.bl
  · have e : d = _ := e
    subst e; exact h.int
  · have e : d = _ := e
    subst e; exact h.str.1
theorem scal_ok {K : PySem.W.Frag} {F H : Hp} {x y : V} {a b : Val} (hx : VOk K F H x a) (hy : VOk K F H y b) (h : scalD a.d b.d = true) : scal x y = true ∧ decide (x = y) = deq a.d b.d := by
  obtain ⟨x1, x2, x3, x4⟩ := hx.fix
  obtain ⟨y1, y2, y3, y4⟩ := hy.fix
  cases ha : a.d <;> rw [ha] at h <;> cases hb : b.d <;> rw [hb] at h <;> simp [scalD] at h
  all_goals first
    | (rw [x1 ha]) | (rw [x2 _ ha]) | (rw [x3 _ ha]) | (rw [x4 _ ha])
  all_goals first
    | (rw [y1 hb]) | (rw [y2 _ hb]) | (rw [y3 _ hb]) | (rw [y4 _ hb])
  all_goals simp [scal, deq]
  all_goals (rw [Bool.eq_iff_iff]; simp)
/-- what a value-level rule must answer, the two operands known -/
theorem OkR2.mk {K : PySem.W.Frag} {r : R2} {g : Fn} (h : ∀ F H x y a b v Q, Same F H → VOk K F H x a → VOk K F H y b → g [a, b] = some v → (∀ z F' H', Stp K [] F H [(v, z)] F' H' → Q z H') → r x y H Q) (hl : ∀ vs v, g vs = some v → vs.length = 2) : OkR2 K r g := by
  intro F H xs vs v Q s r e q
  have l := hl _ _ e
  match vs, l with
  | [a, b], _ =>
    obtain ⟨x, y, rfl, hx, hy⟩ := r.two
    exact ⟨x, y, rfl, h F H x y a b v Q s hx hy e q⟩
theorem OkR1.mk {K : PySem.W.Frag} {r : V → Hp → VK → Prop} {g : Fn} (h : ∀ F H x a v Q, Same F H → VOk K F H x a → g [a] = some v → (∀ z F' H', Stp K [] F H [(v, z)] F' H' → Q z H') → r x H Q) (hl : ∀ vs v, g vs = some v → vs.length = 1) : OkR1 K r g := by
  intro F H xs vs v Q s r e q
  have l := hl _ _ e
  match vs, l with
  | [a], _ =>
    obtain ⟨x, rfl, hx⟩ := r.one
    exact ⟨x, rfl, h F H x a v Q s hx e q⟩
theorem len2 {g : Fn} (h : ∀ vs, vs.length ≠ 2 → g vs = none) : ∀ vs v, g vs = some v → vs.length = 2 := fun vs v e => by
  by_cases w : vs.length = 2
  · exact w
  · rw [h vs w] at e; cases e
theorem len1 {g : Fn} (h : ∀ vs, vs.length ≠ 1 → g vs = none) : ∀ vs v, g vs = some v → vs.length = 1 := fun vs v e => by
  by_cases w : vs.length = 1
  · exact w
  · rw [h vs w] at e; cases e
def rEq2 (K : PySem.W.Frag) : R2 := fun x y H Q => rEq x y H Q ∨ rEqD K x y H Q
def rNe2 (K : PySem.W.Frag) : R2 := fun x y H Q => rNe x y H Q ∨ rNeD K x y H Q
theorem okEq_eq {K : PySem.W.Frag} : OkR2 K (rEq2 K) gEq := .mk (fun F H x y a b v Q s hx hy e q => by
  unfold gEq at e
  simp only at e
  split at e
  · rename_i h
    injection e with e; subst e
    by_cases hs : scalD a.d b.d = true
    · obtain ⟨h1, h2⟩ := scal_ok hx hy hs
      exact .inl ⟨h1, by rw [h2]; exact q _ F H (Stp.val s (.bl _))⟩
    · unfold okEq at h
      rw [Bool.or_eq_true] at h
      have h := h.resolve_left hs
      simp only [Bool.and_eq_true, decide_eq_true_eq] at h
      obtain ⟨⟨⟨h1, h2⟩, h3⟩, h4⟩ := h
      obtain ⟨d1, s1⟩ := hx.dp s h1 h3
      obtain ⟨d2, s2⟩ := hy.dp s h2 h4
      exact .inr ⟨_, _, d1, d2, s1, s2, by rw [eqv_py _ _ h1 h2]; exact q _ F H (Stp.val s (.bl _))⟩
  · cases e) (len2 fun vs w => by
    match vs with
    | [] => rfl
    | [_] => rfl
    | [_, _] => exact absurd rfl w
    | _ :: _ :: _ :: _ => rfl)
theorem okNe_ne {K : PySem.W.Frag} : OkR2 K (rNe2 K) gNe := .mk (fun F H x y a b v Q s hx hy e q => by
  unfold gNe at e
  simp only at e
  split at e
  · rename_i h
    injection e with e; subst e
    by_cases hs : scalD a.d b.d = true
    · obtain ⟨h1, h2⟩ := scal_ok hx hy hs
      exact .inl ⟨h1, by rw [h2]; exact q _ F H (Stp.val s (.bl _))⟩
    · unfold okEq at h
      rw [Bool.or_eq_true] at h
      have h := h.resolve_left hs
      simp only [Bool.and_eq_true, decide_eq_true_eq] at h
      obtain ⟨⟨⟨h1, h2⟩, h3⟩, h4⟩ := h
      obtain ⟨d1, s1⟩ := hx.dp s h1 h3
      obtain ⟨d2, s2⟩ := hy.dp s h2 h4
      exact .inr ⟨_, _, d1, d2, s1, s2, by rw [eqv_py _ _ h1 h2]; exact q _ F H (Stp.val s (.bl _))⟩
  · cases e) (len2 fun vs w => by
    match vs with
    | [] => rfl
    | [_] => rfl
    | [_, _] => exact absurd rfl w
    | _ :: _ :: _ :: _ => rfl)
theorem op_eq2 {X : Cx} (hu : X.A.units + 64 < cLine) : OpR X (compareOp .Eq) (rEq2 X.K) := op_eq.or (op_eqD hu)
theorem op_ne2 {X : Cx} (hu : X.A.units + 64 < cLine) : OpR X (compareOp .NotEq) (rNe2 X.K) := op_ne.or (op_neD hu)
end Wk
end

section
/-! W10: operators by what they give. -/
namespace Wk
open PySem PySem.Spec PyProof.Rows L2

/-! ### readings that a function of values gives -/
def rG2 (K : PySem.W.Frag) (g : Fn) : R2 := fun x y H Q => ∃ F a b v, Same F H ∧ VOk K F H x a ∧ VOk K F H y b ∧ g [a, b] = some v ∧ ∀ z F' H', Stp K [] F H [(v, z)] F' H' → Q z H'
def rG1 (K : PySem.W.Frag) (g : Fn) : V → Hp → VK → Prop := fun x H Q => ∃ F a v, Same F H ∧ VOk K F H x a ∧ g [a] = some v ∧ ∀ z F' H', Stp K [] F H [(v, z)] F' H' → Q z H'
def rGL (K : PySem.W.Frag) (g : Fn) : List V → Hp → VK → Prop := fun xs H Q => ∃ F vs v, Same F H ∧ VOks K F H xs vs ∧ g vs = some v ∧ ∀ z F' H', Stp K [] F H [(v, z)] F' H' → Q z H'
abbrev OpG (X : Cx) (f : Value → Value → Sem Value) (g : Fn) : Prop := OpR X f (rG2 X.K g)
abbrev UnG (X : Cx) (f : Value → Sem Value) (g : Fn) : Prop := UnR X f (rG1 X.K g)
abbrev CallG (X : Cx) (f : Value) (g : Fn) : Prop := CallR X f (rGL X.K g)
/-- functions of two places, of one -/
def g2 (f : D → D → Option Val) : Fn
  | [a, b] => f a.d b.d
  | _ => none
def g1 (f : D → Option Val) : Fn
  | [a] => f a.d
  | _ => none
theorem ok_g2 {K : PySem.W.Frag} {f : D → D → Option Val} : OkR2 K (rG2 K (g2 f)) (g2 f) := .mk (fun F H x y a b v Q s hx hy e q => ⟨F, a, b, v, s, hx, hy, e, q⟩) (len2 fun vs w => by
  match vs with
  | [] => rfl
  | [_] => rfl
  | [_, _] => exact absurd rfl w
  | _ :: _ :: _ :: _ => rfl)
theorem ok_g1 {K : PySem.W.Frag} {f : D → Option Val} : OkR1 K (rG1 K (g1 f)) (g1 f) := .mk (fun F H x a v Q s hx e q => ⟨F, a, v, s, hx, e, q⟩) (len1 fun vs w => by
  match vs with
  | [] => rfl
  | [_] => exact absurd rfl w
  | _ :: _ :: _ => rfl)
theorem ok_gL {K : PySem.W.Frag} {g : Fn} : OkC K (rGL K g) g := fun F H xs vs v Q s r e q => ⟨F, vs, v, s, r, e, q⟩

section
variable {K : PySem.W.Frag} {F H : Hp}
/-- a new object of the heap -/
theorem new_ow {d : D} {o : HO} {Q : VK} {p : Addr} (s : Same F H) (q : ∀ z F' H', Stp K [] F H [(ow d, z)] F' H' → Q z H') (hp : H p = none) (c : Cell K F (upd H p o) p d) : Q (.ref p) (upd H p o) := by
  obtain ⟨F', st⟩ := Stp.new (K := K) (v := ow d) s hp (.inl ⟨rfl, c⟩)
  exact q _ _ _ st
theorem new_fz {d : D} {o : HO} {Q : VK} {p : Addr} (s : Same F H) (q : ∀ z F' H', Stp K [] F H [(fz d, z)] F' H' → Q z H') (hp : H p = none) (c : Rep K (upd F p o) (.ref p) d) : Q (.ref p) (upd H p o) := by
  obtain ⟨F', st⟩ := Stp.new (K := K) (v := fz d) s hp (.inr ⟨rfl, c⟩)
  exact q _ _ _ st
theorem same_none (s : Same F H) {p : Addr} (h : H p = none) : F p = none := by
  cases q : F p with
  | none => rfl
  | some z => rw [s p z q] at h; cases h
theorem new_lst {vs : List V} {ds : List D} {Q : VK} {p : Addr} (s : Same F H) (q : ∀ z F' H', Stp K [] F H [(ow (.lst ds), z)] F' H' → Q z H') (hp : H p = none) (r : Reps K F vs ds) : Q (.ref p) (upd H p (.lst vs)) :=
  new_ow s q hp ⟨vs, upd_same, r⟩
theorem new_tup {vs : List V} {ds : List D} {Q : VK} {p : Addr} (s : Same F H) (q : ∀ z F' H', Stp K [] F H [(fz (.tup ds), z)] F' H' → Q z H') (hp : H p = none) (r : Reps K F vs ds) : Q (.ref p) (upd H p (.tup vs)) :=
  new_fz s q hp (.tup (.inl (.inl upd_same)) (r.mono (same_upd (same_none s hp))))
/-- a value that stands already -/
theorem old_fz {d : D} {Q : VK} {x : V} (s : Same F H) (q : ∀ z F' H', Stp K [] F H [(fz d, z)] F' H' → Q z H') (r : Rep K F x d) : Q x H := q x F H (Stp.val s r)
end
theorem str_len (s : List Nat) : (⟨s.toArray⟩ : Str).length = s.length := by simp [Str.length]
theorem str_cps (s : List Nat) : (⟨s.toArray⟩ : Str).cps.toList = s := by simp
theorem str_app (s t : List Nat) : (⟨s.toArray⟩ : Str) ++ ⟨t.toArray⟩ = ⟨(s ++ t).toArray⟩ := by
  show Str.mk (s.toArray ++ t.toArray) = _
  simp
theorem strG_app {s t : List Nat} (h1 : strG s = true) (h2 : strG t = true) (h : s.length + t.length ≤ sizeLine) : strG (s ++ t) = true := by
  unfold strG at *
  rw [Bool.and_eq_true] at *
  refine ⟨decide_eq_true (by rw [List.length_append]; exact h), ?_⟩
  rw [List.all_append, h1.2, h2.2]
  rfl
theorem strG_len {s : List Nat} (h : strG s = true) : s.length ≤ sizeLine := by
  unfold strG at h
  rw [Bool.and_eq_true] at h
  exact of_decide_eq_true h.1
theorem strG_sub {s t : List Nat} (h : strG s = true) (hs : t ⊆ s) (hl : t.length ≤ s.length) : strG t = true := by
  have h0 := strG_len h
  unfold strG at *
  rw [Bool.and_eq_true] at *
  refine ⟨decide_eq_true (by omega), ?_⟩
  rw [List.all_eq_true] at *
  exact fun x hx => h.2 x (hs hx)

/-! ### + -/
def addD0 : D → D → Option Val
  | .int i, .int j => some (fz (.int (i + j)))
  | .str s, .str t => if s.length + t.length ≤ sizeLine then some (fz (.str (s ++ t))) else none
  | .tup xs, .tup ys => if xs.length + ys.length ≤ sizeLine then some (fz (.tup (xs ++ ys))) else none
  | .lst xs, .lst ys => if xs.length + ys.length ≤ sizeLine then some (ow (.lst (xs ++ ys))) else none
  | _, _ => none
noncomputable def addD : D → D → Option Val := hide addD0
theorem addD_eq : addD = addD0 := hide_eq _
theorem Reps.nil_iff {K : PySem.W.Frag} {F : Hp} {vs : List V} {ds : List D} (r : Reps K F vs ds) : vs = [] ↔ ds = [] := by
  cases r with
  | nil => simp
  | cons _ _ => simp
theorem og_add {X : Cx} : OpG X (binaryOp .Add) (g2 addD) := by
  rintro pins s σ H x y v u Q I rx ry ⟨F, ⟨ao, ad⟩, ⟨bo, bd⟩, w, sF, hx, hy, e, q⟩
  have e : addD ad bd = some w := e
  rw [addD_eq] at e
  unfold addD0 at e
  split at e
  · injection e with e; subst e
    exact op_add pins s σ H x y v u Q I rx ry ⟨_, _, hx.int, hy.int, old_fz sF q (.int _)⟩
  · rename_i a b
    split at e
    · rename_i hl
      injection e with e; subst e
      obtain ⟨ex, gx⟩ := hx.str
      obtain ⟨ey, gy⟩ := hy.str
      refine op_add_str pins s σ H x y v u Q I rx ry ⟨_, _, ex, ey, by rw [str_len, str_len]; exact hl, ?_⟩
      rw [str_app]
      exact old_fz sF q (.str _ (strG_app gx gy hl))
    · cases e
  · rename_i xs ys
    split at e
    · rename_i hl
      injection e with e; subst e
      obtain ⟨p, vs, ex, hF, hH, r⟩ := hx.tup sF
      obtain ⟨p', vs', ey, hF', hH', r'⟩ := hy.tup sF
      refine op_catA pins s σ H x y v u Q I rx ry ⟨p, p', vs, vs', ex, ey, hH, hH', by rw [r.length, r'.length]; exact hl, fun h0 => ?_, fun h0 h1 => ?_, fun _ _ l hn => ?_⟩
      · rw [r.nil_iff.mp h0] at q
        exact old_fz sF q (.tup hF' r')
      · rw [r'.nil_iff.mp h1, List.append_nil] at q
        exact old_fz sF q (.tup hF r)
      · exact new_tup sF q hn (r.append r')
    · cases e
  · rename_i xs ys
    split at e
    · rename_i hl
      injection e with e; subst e
      obtain ⟨p, vs, ex, hH, r⟩ := hx.lst sF
      obtain ⟨p', vs', ey, hH', r'⟩ := hy.lst sF
      exact op_cat pins s σ H x y v u Q I rx ry ⟨p, p', vs, vs', ex, ey, hH, hH', by rw [r.length, r'.length]; exact hl, fun l hn => new_lst sF q hn (r.append r')⟩
    · cases e
  · cases e
/-! ### whole numbers -/
def subD0 : D → D → Option Val
  | .int i, .int j => some (fz (.int (i - j)))
  | _, _ => none
noncomputable def subD : D → D → Option Val := hide subD0
theorem subD_eq : subD = subD0 := hide_eq _
theorem og_sub {X : Cx} : OpG X (binaryOp .Sub) (g2 subD) := by
  rintro pins s σ H x y v u Q I rx ry ⟨F, ⟨ao, ad⟩, ⟨bo, bd⟩, w, sF, hx, hy, e, q⟩
  have e : subD ad bd = some w := e
  rw [subD_eq] at e
  unfold subD0 at e
  split at e
  · injection e with e; subst e
    exact op_sub pins s σ H x y v u Q I rx ry ⟨_, _, hx.int, hy.int, old_fz sF q (.int _)⟩
  · cases e
def modD0 : D → D → Option Val
  | .int i, .int j => if 0 < j then some (fz (.int (i % j))) else none
  | _, _ => none
noncomputable def modD : D → D → Option Val := hide modD0
theorem modD_eq : modD = modD0 := hide_eq _
theorem og_mod {X : Cx} : OpG X (binaryOp .Mod) (g2 modD) := by
  rintro pins s σ H x y v u Q I rx ry ⟨F, ⟨ao, ad⟩, ⟨bo, bd⟩, w, sF, hx, hy, e, q⟩
  have e : modD ad bd = some w := e
  rw [modD_eq] at e
  unfold modD0 at e
  split at e
  · split at e
    · rename_i hj
      injection e with e; subst e
      exact op_mod pins s σ H x y v u Q I rx ry ⟨_, _, hx.int, hy.int, hj, old_fz sF q (.int _)⟩
    · cases e
  · cases e
def fdivD0 : D → D → Option Val
  | .int i, .int j => if 0 < j ∧ j < 1073741824 then some (fz (.int (i / j))) else none
  | _, _ => none
noncomputable def fdivD : D → D → Option Val := hide fdivD0
theorem fdivD_eq : fdivD = fdivD0 := hide_eq _
theorem og_fdiv {X : Cx} : OpG X (binaryOp .FloorDiv) (g2 fdivD) := by
  rintro pins s σ H x y v u Q I rx ry ⟨F, ⟨ao, ad⟩, ⟨bo, bd⟩, w, sF, hx, hy, e, q⟩
  have e : fdivD ad bd = some w := e
  rw [fdivD_eq] at e
  unfold fdivD0 at e
  split at e
  · split at e
    · rename_i hj
      injection e with e; subst e
      exact op_fdiv pins s σ H x y v u Q I rx ry ⟨_, _, hx.int, hy.int, hj, old_fz sF q (.int _)⟩
    · cases e
  · cases e
def powD0 : D → D → Option Val
  | .int i, .int j => if 0 ≤ j ∧ j ≤ 1000000 ∧ i.natAbs < 2 ^ 64 then some (fz (.int (i ^ j.toNat))) else none
  | _, _ => none
noncomputable def powD : D → D → Option Val := hide powD0
theorem powD_eq : powD = powD0 := hide_eq _
theorem og_pow {X : Cx} : OpG X (binaryOp .Pow) (g2 powD) := by
  rintro pins s σ H x y v u Q I rx ry ⟨F, ⟨ao, ad⟩, ⟨bo, bd⟩, w, sF, hx, hy, e, q⟩
  have e : powD ad bd = some w := e
  rw [powD_eq] at e
  unfold powD0 at e
  split at e
  · split at e
    · rename_i hj
      injection e with e; subst e
      exact op_pow pins s σ H x y v u Q I rx ry ⟨_, _, hx.int, hy.int, hj, old_fz sF q (.int _)⟩
    · cases e
  · cases e
def shlD0 : D → D → Option Val
  | .int i, .int j => if 0 ≤ j ∧ j ≤ 1000000 ∧ i.natAbs < 2 ^ 64 then some (fz (.int (i * 2 ^ j.toNat))) else none
  | _, _ => none
noncomputable def shlD : D → D → Option Val := hide shlD0
theorem shlD_eq : shlD = shlD0 := hide_eq _
theorem og_shl {X : Cx} : OpG X (binaryOp .LShift) (g2 shlD) := by
  rintro pins s σ H x y v u Q I rx ry ⟨F, ⟨ao, ad⟩, ⟨bo, bd⟩, w, sF, hx, hy, e, q⟩
  have e : shlD ad bd = some w := e
  rw [shlD_eq] at e
  unfold shlD0 at e
  split at e
  · split at e
    · rename_i hj
      injection e with e; subst e
      exact op_shl pins s σ H x y v u Q I rx ry ⟨_, _, hx.int, hy.int, hj, old_fz sF q (.int _)⟩
    · cases e
  · cases e
def negD0 : D → Option Val
  | .int i => some (fz (.int (-i)))
  | _ => none
noncomputable def negD : D → Option Val := hide negD0
theorem negD_eq : negD = negD0 := hide_eq _
theorem ug_neg {X : Cx} : UnG X (unaryOp .USub) (g1 negD) := by
  rintro pins s σ H x v Q I rx ⟨F, ⟨ao, ad⟩, w, sF, hx, e, q⟩
  have e : negD ad = some w := e
  rw [negD_eq] at e
  unfold negD0 at e
  split at e
  · injection e with e; subst e
    exact un_neg pins s σ H x v Q I rx ⟨_, hx.int, old_fz sF q (.int _)⟩
  · cases e
/-! ### < <= > >= -/
theorem VOk.dp0 {K : PySem.W.Frag} {F H : Hp} (s : Same F H) {x : V} {v : Val} (h : VOk K F H x v) (e : dataD v.d = true) : Dp K H x (py v.d) := by
  obtain ⟨o, d⟩ := v
  cases o with
  | false => exact (Rep.dp s (VOk.fz.mp h) e).1
  | true =>
    obtain ⟨a, ex, hF, c⟩ := VOk.ow.mp h
    have ex : x = .ref a := ex
    subst ex
    cases d with
    | lst ds =>
      obtain ⟨vs, e1, r⟩ := c
      exact .lst (.of e1) (Reps.dp s r (by simpa [dataD] using e)).1
    | dct ks ds => simp [dataD] at e
    | _ => exact c.elim
/-- two that may be compared -/
def cmpOk (a b : D) : Bool := dataD a && dataD b && PySem.W.alike (py a) (py b) && (match a with | .non => false | _ => true) && decide (depD a ≤ 64)
def ltB (a b : D) : Bool := PySem.W.dataLt (py a) (py b)
def ltD0 (a b : D) : Option Val := if cmpOk a b = true then some (fz (.bl (ltB a b))) else none
noncomputable def ltD : D → D → Option Val := hide ltD0
theorem ltD_eq : ltD = ltD0 := hide_eq _
def leD0 (a b : D) : Option Val := if cmpOk a b = true then some (fz (.bl (!ltB b a))) else none
noncomputable def leD : D → D → Option Val := hide leD0
theorem leD_eq : leD = leD0 := hide_eq _
def gtD0 (a b : D) : Option Val := if cmpOk a b = true then some (fz (.bl (ltB b a))) else none
noncomputable def gtD : D → D → Option Val := hide gtD0
theorem gtD_eq : gtD = gtD0 := hide_eq _
def geD0 (a b : D) : Option Val := if cmpOk a b = true then some (fz (.bl (!ltB a b))) else none
noncomputable def geD : D → D → Option Val := hide geD0
theorem geD_eq : geD = geD0 := hide_eq _
theorem cmpOk_use {X : Cx} (hu : X.A.units + 64 < cLine) {pins : List (Addr × Obj)} {σ : L2.St} {s : Shared} {F H : Hp} {x y : V} {v u : Value} {a b : Val} (I : Inv X pins σ H s) (rx : RelV x v) (ry : RelV y u) (sF : Same F H) (hx : VOk X.K F H x a) (hy : VOk X.K F H y b)
    (h : cmpOk a.d b.d = true) : ∃ as bs, Reads s.heap v (py a.d) as ∧ Reads s.heap u (py b.d) bs ∧ PySem.W.alike (py a.d) (py b.d) = true ∧ py a.d ≠ .none ∧ X.A.units + min (py a.d).depth (py b.d).depth < cLine := by
  unfold cmpOk at h
  simp only [Bool.and_eq_true, decide_eq_true_eq] at h
  obtain ⟨⟨⟨⟨h1, h2⟩, h3⟩, h4⟩, h5⟩ := h
  obtain ⟨as, r1⟩ := (hx.dp0 sF h1).reads I _ _ _ rx
  obtain ⟨bs, r2⟩ := (hy.dp0 sF h2).reads I _ _ _ ry
  refine ⟨as, bs, r1, r2, h3, ?_, ?_⟩
  · obtain ⟨ao, ad⟩ := a
    cases ad <;> simp [py, dataD] at h1 h4 ⊢
  · have := py_depth a.d
    omega
section
variable {X : Cx} (hu : X.A.units + 64 < cLine)
include hu
theorem og_lt : OpG X (compareOp .Lt) (g2 ltD) := by
  rintro pins s σ H x y v u Q I rx ry ⟨F, a, b, w, sF, hx, hy, e, q⟩
  have e : ltD a.d b.d = some w := e
  rw [ltD_eq] at e
  unfold ltD0 at e
  split at e
  · rename_i h
    injection e with e; subst e
    obtain ⟨as, bs, r1, r2, h3, h4, h5⟩ := cmpOk_use hu I rx ry sF hx hy h
    exact PySem.W.lt_data r1 r2 h3 h4 h5 ⟨.bl _, H, I, rfl, old_fz sF q (.bl _)⟩
  · cases e
theorem og_le : OpG X (compareOp .LtE) (g2 leD) := by
  rintro pins s σ H x y v u Q I rx ry ⟨F, a, b, w, sF, hx, hy, e, q⟩
  have e : leD a.d b.d = some w := e
  rw [leD_eq] at e
  unfold leD0 at e
  split at e
  · rename_i h
    injection e with e; subst e
    obtain ⟨as, bs, r1, r2, h3, h4, h5⟩ := cmpOk_use hu I rx ry sF hx hy h
    exact PySem.W.le_data r1 r2 h3 h4 h5 ⟨.bl _, H, I, rfl, old_fz sF q (.bl _)⟩
  · cases e
theorem og_gt : OpG X (compareOp .Gt) (g2 gtD) := by
  rintro pins s σ H x y v u Q I rx ry ⟨F, a, b, w, sF, hx, hy, e, q⟩
  have e : gtD a.d b.d = some w := e
  rw [gtD_eq] at e
  unfold gtD0 at e
  split at e
  · rename_i h
    injection e with e; subst e
    obtain ⟨as, bs, r1, r2, h3, h4, h5⟩ := cmpOk_use hu I rx ry sF hx hy h
    exact PySem.W.gt_data r1 r2 h3 h4 h5 ⟨.bl _, H, I, rfl, old_fz sF q (.bl _)⟩
  · cases e
theorem og_ge : OpG X (compareOp .GtE) (g2 geD) := by
  rintro pins s σ H x y v u Q I rx ry ⟨F, a, b, w, sF, hx, hy, e, q⟩
  have e : geD a.d b.d = some w := e
  rw [geD_eq] at e
  unfold geD0 at e
  split at e
  · rename_i h
    injection e with e; subst e
    obtain ⟨as, bs, r1, r2, h3, h4, h5⟩ := cmpOk_use hu I rx ry sF hx hy h
    exact PySem.W.ge_data r1 r2 h3 h4 h5 ⟨.bl _, H, I, rfl, old_fz sF q (.bl _)⟩
  · cases e
end
/-! ### is None, is not None -/
def isNB : D → Bool
  | .non => true
  | _ => false
def isND (a b : D) : Option Val := match b with
  | .non => some (fz (.bl (isNB a)))
  | _ => none
def notND (a b : D) : Option Val := match b with
  | .non => some (fz (.bl (!isNB a)))
  | _ => none
theorem Rep.ref {K : PySem.W.Frag} {F : Hp} {x : V} {d : D} (h : Rep K F x d) : decide (x = .non) = isNB d := by
  cases h <;> simp [isNB]
theorem VOk.isN {K : PySem.W.Frag} {F H : Hp} {x : V} {v : Val} (h : VOk K F H x v) : decide (x = .non) = isNB v.d := by
  obtain ⟨o, d⟩ := v
  cases o with
  | false => exact (VOk.fz.mp h).ref
  | true =>
    obtain ⟨a, ex, hF, c⟩ := VOk.ow.mp h
    have ex : x = .ref a := ex
    subst ex
    cases d with
    | non => exact c.elim
    | _ => simp [isNB]
theorem og_is {X : Cx} : OpG X (compareOp .Is) (g2 isND) := by
  rintro pins s σ H x y v u Q I rx ry ⟨F, a, ⟨bo, bd⟩, w, sF, hx, hy, e, q⟩
  have e : isND a.d bd = some w := e
  unfold isND at e
  split at e
  · injection e with e; subst e
    refine op_isN pins s σ H x y v u Q I rx ry ⟨hy.non, ?_⟩
    rw [hx.isN]
    exact old_fz sF q (.bl _)
  · cases e
theorem og_isNot {X : Cx} : OpG X (compareOp .IsNot) (g2 notND) := by
  rintro pins s σ H x y v u Q I rx ry ⟨F, a, ⟨bo, bd⟩, w, sF, hx, hy, e, q⟩
  have e : notND a.d bd = some w := e
  unfold notND at e
  split at e
  · injection e with e; subst e
    refine op_notN pins s σ H x y v u Q I rx ry ⟨hy.non, ?_⟩
    rw [hx.isN]
    exact old_fz sF q (.bl _)
  · cases e
end Wk
end

section
/-! W11: items, slices, in, times. -/
namespace Wk
open PySem PySem.Spec PyProof.Rows L2

/-! ### items -/
def keyD : D → Option Key
  | .int i => some (.inl i)
  | .str s => some (.inr ⟨s.toArray⟩)
  | _ => none
def dget : List D → List D → D → Option D
  | k :: ks, v :: vs, x => if deq k x = true then some v else dget ks vs x
  | _, _, _ => none
def dput (ks vs : List D) (x y : D) : List D × List D := if (ks.any fun k => deq k x) = true then (ks, List.zipWith (fun k v => if deq k x = true then y else v) ks vs) else (ks ++ [x], vs ++ [y])
def ixD : D → D → Option Val
  | .lst xs, .int i => (atI xs i).map fz
  | .scr xs, .int i => (atI xs i).map fz
  | .tup xs, .int i => (atI xs i).map fz
  | .str s, .int i => (atI s i).map fun c => fz (.str [c])
  | .dct ks vs, x => if (keyD x).isSome then (dget ks vs x).map fz else none
  | _, _ => none
theorem Reps.atI {K : PySem.W.Frag} {F : Hp} {vs : List V} {ds : List D} {i : Int} {d : D} (r : Reps K F vs ds) (h : L2.atI ds i = some d) : ∃ v, L2.atI vs i = some v ∧ Rep K F v d := by
  unfold L2.atI at h ⊢
  rw [r.length]
  cases e : L2.ixN ds.length i with
  | none => rw [e] at h; cases h
  | some j =>
    rw [e] at h
    exact r.get h
theorem VOk.scr {K : PySem.W.Frag} {F H : Hp} {x : V} {o : Bool} {ds : List D} (s : Same F H) (h : VOk K F H x ⟨o, .scr ds⟩) : ∃ a vs, x = .ref a ∧ SqL K F a vs ∧ SqL K H a vs ∧ Reps K F vs ds := by
  have r : Rep K F x (.scr ds) := h.scalar fun _ ⟨_, c⟩ => c
  cases r with
  | scr q r => exact ⟨_, _, rfl, q, s.seq q, r⟩
theorem VOk.dct {K : PySem.W.Frag} {F H : Hp} {x : V} {o : Bool} {ks ds : List D} (s : Same F H) (h : VOk K F H x ⟨o, .dct ks ds⟩) : ∃ a kvs, x = .ref a ∧ H a = some (.dK kvs) ∧ Reps K F (kvs.map fun p => kV p.1) ks ∧ Reps K F (kvs.map (·.2)) ds := by
  cases o with
  | false =>
    have r := VOk.fz.mp h
    cases r with
    | dctK q r r' => exact ⟨_, _, rfl, s _ _ q, r, r'⟩
  | true =>
    obtain ⟨a, e, _, kvs, c, r, r'⟩ := VOk.ow.mp h
    exact ⟨a, kvs, e, c, r, r'⟩
theorem key_rep {K : PySem.W.Frag} {F : Hp} {k : Key} {d : D} (h : Rep K F (kV k) d) : keyD d = some k := by
  cases k with
  | inl i =>
    have h : Rep K F (.int i) d := h
    cases h
    rfl
  | inr s =>
    have h : Rep K F (.str s) d := h
    cases h
    rfl
theorem key_val {K : PySem.W.Frag} {F : Hp} {x : V} {d : D} {k : Key} (h : Rep K F x d) (e : keyD d = some k) : x = kV k := by
  cases h <;> simp [keyD] at e
  · subst e; rfl
  · subst e; rfl
theorem deq_key {a b : D} {j k : Key} (ha : keyD a = some j) (hb : keyD b = some k) : deq a b = decide (j = k) := by
  cases a <;> simp [keyD] at ha <;> cases b <;> simp [keyD] at hb
  all_goals
    subst ha hb
    rw [Bool.eq_iff_iff]
    simp [deq]
theorem dget_val {K : PySem.W.Frag} {F : Hp} {x : D} {k : Key} (hx : keyD x = some k) : ∀ {kvs : List (Key × V)} {ks ds : List D}, Reps K F (kvs.map fun p => kV p.1) ks → Reps K F (kvs.map (·.2)) ds →
    (∀ d, dget ks ds x = some d → ∃ v, valV kvs k = some v ∧ Rep K F v d) ∧ (dget ks ds x = none → valV kvs k = none)
  | [], _, _, r, r' => by
    cases r; cases r'
    exact ⟨fun d e => by simp [dget] at e, fun _ => rfl⟩
  | p :: kvs, _, _, r, r' => by
    cases r with
    | cons r1 r2 =>
      cases r' with
      | cons q1 q2 =>
        obtain ⟨h1, h2⟩ := dget_val hx r2 q2
        have e := deq_key (key_rep r1) hx
        unfold dget
        rw [e]
        by_cases h : p.1 = k
        · rw [if_pos (by simpa using h), valV_pos h]
          refine ⟨fun d e => ?_, fun e => by cases e⟩
          injection e with e
          subst e
          exact ⟨_, rfl, q1⟩
        · rw [if_neg (by simpa using h), valV_neg h]
          exact ⟨h1, h2⟩
theorem VOk.frz {K : PySem.W.Frag} {F H : Hp} {x : V} {v : Val} {k : Key} (h : VOk K F H x v) (e : keyD v.d = some k) : x = kV k := by
  have r : Rep K F x v.d := h.scalar fun _ ⟨_, c⟩ => by
    cases hd : v.d <;> rw [hd] at e c <;> simp [keyD] at e <;> exact c
  exact key_val r e
theorem ig_ix {X : Cx} (hu : X.A.units + 64 < cLine) : IxR X (rG2 X.K (g2 ixD)) := by
  rintro value slice pins s σ H x y v u Q I rx ry ⟨F, ⟨ao, ad⟩, ⟨bo, bd⟩, w, sF, hx, hy, e, q⟩ hs
  change ixD ad bd = some w at e
  unfold ixD at e
  split at e
  · rename_i xs i
    obtain ⟨d, e1, e2⟩ := Option.map_eq_some_iff.mp e
    subst e2
    obtain ⟨a, vs, ex, hH, r⟩ := hx.lst sF
    obtain ⟨z, hz, rz⟩ := r.atI e1
    exact ix_seq value slice pins s σ H x y v u Q I rx ry (.inl ⟨a, vs, i, z, ex, hy.int, .of hH, hz, old_fz sF q rz⟩) hs
  · rename_i xs i
    obtain ⟨d, e1, e2⟩ := Option.map_eq_some_iff.mp e
    subst e2
    obtain ⟨a, vs, ex, hF, hH, r⟩ := hx.scr sF
    obtain ⟨z, hz, rz⟩ := r.atI e1
    exact ix_seq value slice pins s σ H x y v u Q I rx ry (.inl ⟨a, vs, i, z, ex, hy.int, hH, hz, old_fz sF q rz⟩) hs
  · rename_i xs i
    obtain ⟨d, e1, e2⟩ := Option.map_eq_some_iff.mp e
    subst e2
    obtain ⟨a, vs, ex, hF, hH, r⟩ := hx.tup sF
    obtain ⟨z, hz, rz⟩ := r.atI e1
    exact ix_seq value slice pins s σ H x y v u Q I rx ry (.inr (.inl ⟨a, vs, i, z, ex, hy.int, hH, hz, old_fz sF q rz⟩)) hs
  · rename_i t i
    obtain ⟨c, e1, e2⟩ := Option.map_eq_some_iff.mp e
    subst e2
    obtain ⟨ex, gx⟩ := hx.str
    obtain ⟨j, _, hj, _⟩ := atI_get e1
    exact ix_seq value slice pins s σ H x y v u Q I rx ry (.inr (.inr ⟨_, i, c, ex, hy.int, by rw [str_len]; exact strG_len gx, by rw [str_cps]; exact e1, old_fz sF q (.str [c] (strG_one gx (List.mem_of_getElem? hj)))⟩)) hs
  · rename_i ks vs
    split at e
    · rename_i hk
      obtain ⟨d, e1, e2⟩ := Option.map_eq_some_iff.mp e
      subst e2
      obtain ⟨k, hk⟩ := Option.isSome_iff_exists.mp hk
      obtain ⟨a, kvs, ex, hH, r1, r2⟩ := hx.dct sF
      have ey := hy.frz hk
      obtain ⟨z, hz, rz⟩ := (dget_val hk r1 r2).1 d e1
      subst ex
      obtain rfl : v = Value.ref a := rx
      have g : DGet H a y (some z) := by rw [ey, ← hz]; exact .k hH
      exact tail_any (dict_typeIs I g) PySem.F.slot_dict_getitem.lookup (d_getItem (by omega) I g ry fun w' s3 I3 rw' => ⟨z, H, I3, rw', old_fz sF q rz⟩) hs
    · cases e
  · cases e

/-! ### slices -/
def cutL {α : Type} (xs : List α) (lo hi : Option Int) : List α := (xs.drop (HT.sIx xs.length 0 lo)).take (HT.sIx xs.length xs.length hi - HT.sIx xs.length 0 lo)
theorem Reps.cut {K : PySem.W.Frag} {F : Hp} {vs : List V} {ds : List D} {lo hi : Option Int} (r : Reps K F vs ds) : Reps K F (cutV vs lo hi) (cutL ds lo hi) := by
  unfold cutV cutL
  rw [r.length]
  exact (r.drop _).take _
def slD : D → Option Int → Option Int → Option Val
  | .lst xs, lo, hi => some (ow (.lst (cutL xs lo hi)))
  | .scr xs, lo, hi => some (ow (.lst (cutL xs lo hi)))
  | .tup xs, lo, hi => some (fz (.tup (cutL xs lo hi)))
  | .str s, lo, hi => some (fz (.str (cutL s lo hi)))
  | _, _, _ => none
def rSlG (K : PySem.W.Frag) : V → Option Int → Option Int → Hp → VK → Prop := fun x lo hi H Q => ∃ F a v, Same F H ∧ VOk K F H x a ∧ slD a.d lo hi = some v ∧ ∀ z F' H', Stp K [] F H [(v, z)] F' H' → Q z H'
theorem cut_txt (s : List Nat) (lo hi : Option Int) : cutS ⟨s.toArray⟩ lo hi = ⟨(cutL s lo hi).toArray⟩ := by
  unfold cutS cutL
  simp [Str.length]
theorem cutL_sub {α : Type} (xs : List α) (lo hi : Option Int) : cutL xs lo hi ⊆ xs := fun x hx => List.mem_of_mem_drop (List.mem_of_mem_take hx)
theorem cutL_len {α : Type} (xs : List α) (lo hi : Option Int) : (cutL xs lo hi).length ≤ xs.length := by
  unfold cutL
  rw [List.length_take, List.length_drop]
  omega
theorem sg_sl {X : Cx} : SlR X (rSlG X.K) := by
  rintro pins s σ H x v vl vu lo hi sl Q I rx hs pl pu ⟨F, ⟨ao, ad⟩, w, sF, hx, e, q⟩
  change slD ad lo hi = some w at e
  unfold slD at e
  split at e
  · injection e with e; subst e
    obtain ⟨a, vs, ex, hH, r⟩ := hx.lst sF
    exact sl_list pins s σ H x v vl vu _ _ sl Q I rx hs pl pu ⟨a, vs, ex, .of hH, fun p hp => new_lst sF q hp r.cut⟩
  · injection e with e; subst e
    obtain ⟨a, vs, ex, hF, hH, r⟩ := hx.scr sF
    exact sl_list pins s σ H x v vl vu _ _ sl Q I rx hs pl pu ⟨a, vs, ex, hH, fun p hp => new_lst sF q hp r.cut⟩
  · injection e with e; subst e
    obtain ⟨a, vs, ex, hF, hH, r⟩ := hx.tup sF
    refine sl_tupA pins s σ H x v vl vu _ _ sl Q I rx hs pl pu ⟨a, vs, ex, hH, fun hw => ?_, fun _ p hp => new_tup sF q hp r.cut⟩
    rw [r.length] at hw
    rename_i xs
    have ec : cutL xs lo hi = xs := by
      unfold cutL
      rw [hw.1, hw.2, List.drop_zero, Nat.sub_zero, List.take_length]
    rw [ec] at q
    exact old_fz sF q (.tup hF r)
  · injection e with e; subst e
    obtain ⟨ex, gx⟩ := hx.str
    refine sl_str pins s σ H x v vl vu _ _ sl Q I rx hs pl pu ⟨_, ex, by rw [str_len]; exact strG_len gx, ?_⟩
    rw [cut_txt]
    exact old_fz sF q (.str _ (strG_sub gx (cutL_sub _ _ _) (cutL_len _ _ _)))
  · cases e
end Wk
end

section
/-! W12: in, times, calls of built-ins. -/
namespace Wk
open PySem PySem.Spec PyProof.Rows L2

/-! ### in, not in -/
def memB (a : D) (ds : List D) : Bool := ds.any fun z => deq z a
def inOk (a : D) (ds : List D) : Bool := dataD a && dataL ds && decide (depD a ≤ 64) && decide (depL ds < 64)
/-- texts within texts -/
def subS (s t : List Nat) : Bool := !(Builtin.Str.occurrences ⟨t.toArray⟩ ⟨s.toArray⟩ 0 t.length 1).isEmpty
def inB : D → D → Option Bool
  | a, .lst ds => if inOk a ds = true then some (memB a ds) else none
  | a, .tup ds => if inOk a ds = true then some (memB a ds) else none
  | .str s, .str t => some (subS s t)
  | a, .dct ks vs => if (keyD a).isSome then some (dget ks vs a).isSome else none
  | _, _ => none
def inD (a b : D) : Option Val := (inB a b).map fun c => fz (.bl c)
def notInD (a b : D) : Option Val := (inB a b).map fun c => fz (.bl (!c))
theorem any_py (a : D) (ha : dataD a = true) : ∀ ds : List D, dataL ds = true → ((pyL ds).any fun z => PyData.eqv z (py a)) = memB a ds
  | [], _ => rfl
  | d :: ds, h => by
    simp [dataL] at h
    unfold memB pyL
    rw [List.any_cons, List.any_cons, eqv_py d a h.1 ha, any_py a ha ds h.2]
    rfl
theorem VOk.dpS {K : PySem.W.Frag} {F H : Hp} (s : Same F H) {x : V} {v : Val} (h : VOk K F H x v) (e : dataD v.d = true) : Dp K H x (py v.d) ∧ (py v.d).canLay0 = true := by
  obtain ⟨o, d⟩ := v
  cases o with
  | false => exact Rep.dp s (VOk.fz.mp h) e
  | true =>
    obtain ⟨a, ex, hF, c⟩ := VOk.ow.mp h
    have ex : x = .ref a := ex
    subst ex
    cases d with
    | lst ds =>
      obtain ⟨vs, e1, r⟩ := c
      obtain ⟨h1, h2⟩ := Reps.dp s r (by simpa [dataD] using e)
      exact ⟨.lst (.of e1) h1, by simpa [py, PyData.canLay0] using h2⟩
    | dct ks ds => simp [dataD] at e
    | _ => exact c.elim
theorem in_use {X : Cx} (hu : X.A.units + 128 < cLine) {pins : List (Addr × Obj)} {σ : L2.St} {s : Shared} {F H : Hp} {x y : V} {v u : Value} {a : Val} {ds : List D} {yo t : Bool} (I : Inv X pins σ H s) (rx : RelV x v) (ry : RelV y u) (sF : Same F H) (hx : VOk X.K F H x a)
    (hy : VOk X.K F H y ⟨yo, if t = true then .lst ds else .tup ds⟩) (h : inOk a.d ds = true) : ∃ as bs, Reads s.heap v (py a.d) as ∧ Reads s.heap u (if t = true then .list (pyL ds) else .tuple (pyL ds)) bs ∧ PyData.canLayAll0 (pyL ds) = true ∧ (py a.d).canLay0 = true ∧
      X.A.units + 1 + min (PyData.depthAll (pyL ds)) (py a.d).depth < cLine ∧ ((pyL ds).any fun z => PyData.eqv z (py a.d)) = memB a.d ds := by
  unfold inOk at h
  simp only [Bool.and_eq_true, decide_eq_true_eq] at h
  obtain ⟨⟨⟨h1, h2⟩, h3⟩, h4⟩ := h
  obtain ⟨d1, c1⟩ := hx.dpS sF h1
  obtain ⟨as, r1⟩ := d1.reads I _ _ _ rx
  have hd := py_depth a.d
  cases t with
  | true =>
    obtain ⟨d2, c2⟩ := hy.dpS sF (by simpa [dataD] using h2)
    obtain ⟨bs, r2⟩ := d2.reads I _ _ _ ry
    exact ⟨as, bs, r1, by simpa [py] using r2, by simpa [py, PyData.canLay0] using c2, c1, by omega, any_py _ h1 _ h2⟩
  | false =>
    obtain ⟨d2, c2⟩ := hy.dpS sF (by simpa [dataD] using h2)
    obtain ⟨bs, r2⟩ := d2.reads I _ _ _ ry
    exact ⟨as, bs, r1, by simpa [py] using r2, by simpa [py, PyData.canLay0] using c2, c1, by omega, any_py _ h1 _ h2⟩
section
variable {X : Cx} (hu : X.A.units + 128 < cLine)
include hu
theorem og_in : OpG X (compareOp .In) (g2 inD) := by
  rintro pins s σ H x y v u Q I rx ry ⟨F, ⟨ao, ad⟩, ⟨bo, bd⟩, w, sF, hx, hy, e, q⟩
  change inD ad bd = some w at e
  obtain ⟨c, e1, ew⟩ := Option.map_eq_some_iff.mp e
  clear e
  subst ew
  have e := e1
  clear e1
  unfold inB at e
  split at e
  · split at e
    · rename_i ds h
      injection e with e; subst e
      obtain ⟨as, bs, r1, r2, h3, h4, h5, h6⟩ := in_use (t := true) hu I rx ry sF hx hy h
      exact SeqAt.in_list_reads r2 r1 h3 h4 h5 (by rw [h6]; exact ⟨.bl _, H, I, rfl, old_fz sF q (.bl _)⟩)
    · cases e
  · split at e
    · rename_i ds h
      injection e with e; subst e
      obtain ⟨as, bs, r1, r2, h3, h4, h5, h6⟩ := in_use (t := false) hu I rx ry sF hx hy h
      exact SeqAt.in_tuple_reads r2 r1 h3 h4 h5 (by rw [h6]; exact ⟨.bl _, H, I, rfl, old_fz sF q (.bl _)⟩)
    · cases e
  · injection e with e; subst e
    refine op_in_str pins s σ H x y v u Q I rx ry ⟨_, _, hx.str.1, hy.str.1, ?_⟩
    rw [str_len]
    exact old_fz sF q (.bl _)
  · split at e
    · rename_i ks' vs' hk
      injection e with e; subst e
      obtain ⟨k, hk⟩ := Option.isSome_iff_exists.mp hk
      obtain ⟨a, kvs, ey, hH, r1, r2⟩ := hy.dct sF
      have ex := hx.frz hk
      subst ey
      obtain rfl : u = Value.ref a := ry
      have g : DGet H a x (valV kvs k) := by rw [ex]; exact .k hH
      refine d_in (by omega) I g rx fun s' I' => ⟨.bl _, H, I', rfl, ?_⟩
      have eq : (valV kvs k).isSome = (dget ks' vs' ad).isSome := by
        obtain ⟨h1, h2⟩ := dget_val hk r1 r2
        cases e : dget ks' vs' ad with
        | none => rw [h2 e]; rfl
        | some d => obtain ⟨z, hz, _⟩ := h1 d e; rw [hz]; rfl
      rw [eq]
      exact old_fz sF q (.bl _)
    · cases e
  · cases e
theorem og_notIn : OpG X (compareOp .NotIn) (g2 notInD) := by
  rintro pins s σ H x y v u Q I rx ry ⟨F, ⟨ao, ad⟩, ⟨bo, bd⟩, w, sF, hx, hy, e, q⟩
  change notInD ad bd = some w at e
  obtain ⟨c, e1, ew⟩ := Option.map_eq_some_iff.mp e
  clear e
  subst ew
  have e := e1
  clear e1
  unfold inB at e
  split at e
  · split at e
    · rename_i ds h
      injection e with e; subst e
      obtain ⟨as, bs, r1, r2, h3, h4, h5, h6⟩ := in_use (t := true) hu I rx ry sF hx hy h
      exact SeqAt.notIn_list_reads r2 r1 h3 h4 h5 (by rw [h6]; exact ⟨.bl _, H, I, rfl, old_fz sF q (.bl _)⟩)
    · cases e
  · split at e
    · rename_i ds h
      injection e with e; subst e
      obtain ⟨as, bs, r1, r2, h3, h4, h5, h6⟩ := in_use (t := false) hu I rx ry sF hx hy h
      exact SeqAt.notIn_tuple_reads r2 r1 h3 h4 h5 (by rw [h6]; exact ⟨.bl _, H, I, rfl, old_fz sF q (.bl _)⟩)
    · cases e
  · injection e with e; subst e
    refine op_notIn_str pins s σ H x y v u Q I rx ry ⟨_, _, hx.str.1, hy.str.1, ?_⟩
    rw [str_len]
    exact old_fz sF q (.bl _)
  · split at e
    · rename_i ks' vs' hk
      injection e with e; subst e
      obtain ⟨k, hk⟩ := Option.isSome_iff_exists.mp hk
      obtain ⟨a, kvs, ey, hH, r1, r2⟩ := hy.dct sF
      have ex := hx.frz hk
      subst ey
      obtain rfl : u = Value.ref a := ry
      have g : DGet H a x (valV kvs k) := by rw [ex]; exact .k hH
      refine d_notIn (by omega) I g rx fun s' I' => ⟨.bl _, H, I', rfl, ?_⟩
      have eq : (valV kvs k).isSome = (dget ks' vs' ad).isSome := by
        obtain ⟨h1, h2⟩ := dget_val hk r1 r2
        cases e : dget ks' vs' ad with
        | none => rw [h2 e]; rfl
        | some d => obtain ⟨z, hz, _⟩ := h1 d e; rw [hz]; rfl
      rw [eq]
      exact old_fz sF q (.bl _)
    · cases e
  · cases e
end

/-! ### times -/
def mulD0 : D → D → Option Val
  | .int i, .int j => if (-(2 ^ 64) < i ∧ i < 2 ^ 64) ∨ (-(2 ^ 64) < j ∧ j < 2 ^ 64) then some (fz (.int (i * j))) else none
  | .str s, .int n => if -1000000 < n ∧ n < 1000000 ∧ s.length * n.toNat ≤ sizeLine then some (fz (.str (List.replicate n.toNat s).flatten)) else none
  | .tup xs, .int n => if xs ≠ [] ∧ 1 ≤ n ∧ n ≤ 1000 ∧ xs.length ≤ 1000 then some (fz (.tup (List.replicate n.toNat xs).flatten)) else none
  | .lst xs, .int n => if -1000000 < n ∧ n < 1000000 ∧ xs.length * n.toNat ≤ sizeLine then some (ow (.lst (List.replicate n.toNat xs).flatten)) else none
  | _, _ => none
noncomputable def mulD : D → D → Option Val := hide mulD0
theorem mulD_eq : mulD = mulD0 := hide_eq _
theorem Reps.rep {K : PySem.W.Frag} {F : Hp} {vs : List V} {ds : List D} (r : Reps K F vs ds) : ∀ n : Nat, Reps K F (List.replicate n vs).flatten (List.replicate n ds).flatten
  | 0 => .nil
  | n + 1 => by
    rw [List.replicate_succ, List.replicate_succ, List.flatten_cons, List.flatten_cons]
    exact r.append (Reps.rep r n)
theorem strG_rep {s : List Nat} {n : Nat} (h : strG s = true) (hl : s.length * n ≤ sizeLine) : strG (List.replicate n s).flatten = true := by
  unfold strG at *
  rw [Bool.and_eq_true] at *
  refine ⟨decide_eq_true ?_, ?_⟩
  · rw [PyProof.Rows.lm_len_rep_flat, Nat.mul_comm]; exact hl
  · rw [List.all_eq_true] at *
    intro x hx
    obtain ⟨l, h1, h2⟩ := List.mem_flatten.mp hx
    rw [List.mem_replicate] at h1
    rw [h1.2] at h2
    exact h.2 x h2
theorem rep_arr (s : List Nat) (n : Nat) : (List.replicate n s.toArray).foldl (· ++ ·) #[] = (List.replicate n s).flatten.toArray := by
  have h : ∀ (n : Nat) (acc : List Nat), (List.replicate n s.toArray).foldl (· ++ ·) acc.toArray = (acc ++ (List.replicate n s).flatten).toArray := by
    intro n
    induction n with
    | zero => intro acc; simp
    | succ n ih =>
      intro acc
      rw [List.replicate_succ, List.foldl_cons]
      have e : acc.toArray ++ s.toArray = (acc ++ s).toArray := by simp
      rw [e, ih, List.replicate_succ, List.flatten_cons, List.append_assoc]
  have := h n []
  simpa using this
theorem tuple_mulW1 (l : Addr) (items : Array Value) (n : Nat) (dd : Option Addr) (sl : Array (Option Value)) (u : Tok) :
    Meets (Builtin.«tuple.__mul__» ⟨[.ref l, .int 1 u], []⟩) (fun _ R s => s.heap.get? l = some { cls := .type "tuple", dict := dd, data := .seq items n, slots := sl } ∧
      R (.ok (.ret (Value.ref l))) s) :=
  .of_wp fun prog w A R s h => by
    obtain ⟨hp, g, d, tk, os⟩ := s
    obtain ⟨hl, h⟩ := h
    have f1 := AutoSeq1.idx_int
    wp_walk using wpAny_loadPart' hl
    exact ⟨_, rfl, h⟩
/-- a tuple once: the same one -/
theorem op_repT1 {X : Cx} : OpR X (binaryOp .Mult) (fun x y H Q => ∃ l xs, x = .ref l ∧ y = .int 1 ∧ SqT X.K H l xs ∧ Q (.ref l) H) := by
  intro pins s σ H x y v u Q I rx ry h
  obtain ⟨l, xs, rfl, rfl, hT, q⟩ := h
  cases rx
  obtain ⟨t, rfl⟩ := ry
  obtain ⟨its, r, ⟨⟨cls, dd, data, sl⟩, ho, hc, n, hd⟩, hs⟩ := I.tuple hT
  simp only at hc hd
  subst hc hd
  refine wpAny_binaryOp_repeat_ref (T := "tuple") (U := "int") (by decide) ⟨_, ho, rfl⟩ (fun s' => typeIs_int s' 1 t) noFill_tuple_mul F.fills_int_mul F.slot_int_rmul repeat_tuple F.slot_int_index.lookup
    (call_meets F.slot_int_rmul (typeIs_int s 1 t) F.entry_int_rmul (F.args_int_rmul_2 _ _) (int_rmul_tuple 1 t l its.toArray n dd sl)
      ⟨ho, rfl, ⟨_, ho, rfl⟩, call_meets F.slot_tuple_mul ⟨_, ho, rfl⟩ F.entry_tuple_mul (F.args_tuple_mul_2 _ _) (tuple_mulW1 l its.toArray n dd sl t) ⟨ho, ?_⟩⟩)
  exact ⟨.ref l, H, I, rfl, q⟩
theorem og_mul {X : Cx} : OpG X (binaryOp .Mult) (g2 mulD) := by
  rintro pins s σ H x y v u Q I rx ry ⟨F, ⟨ao, ad⟩, ⟨bo, bd⟩, w, sF, hx, hy, e, q⟩
  change mulD ad bd = some w at e
  rw [mulD_eq] at e
  unfold mulD0 at e
  split at e
  · split at e
    · rename_i hj
      injection e with e; subst e
      exact op_mul pins s σ H x y v u Q I rx ry ⟨_, _, hx.int, hy.int, hj, old_fz sF q (.int _)⟩
    · cases e
  · rename_i t n
    split at e
    · rename_i hn
      injection e with e; subst e
      obtain ⟨ex, gx⟩ := hx.str
      have ey := hy.int
      subst ex ey
      obtain ⟨tk, rfl⟩ := rx
      obtain ⟨tk', rfl⟩ := ry
      have hg := strG_rep gx hn.2.2
      refine PySem.P.mul_str (by rw [decide_eq_false (by omega), decide_eq_false (by omega)]; rfl) (fun h1 h2 => ?_) (fun h1 h2 => ?_) ?_
      · rw [str_len]
        have h3 : (t.length : Int) ≤ 16777216 := by
          have := strG_len gx
          rw [sizeLine_eq] at this
          omega
        have h4 : (16777216 : Int) ≤ (2 ^ 63 - 1) / n := by
          rw [Int.le_ediv_iff_mul_le (by omega)]
          omega
        omega
      · rw [str_len]
        unfold Builtin.Str.tooLong
        exact decide_eq_false (by have := hn.2.2; omega)
      · split
        · rename_i h1
          have e0 : n.toNat = 0 := by omega
          rw [e0] at q
          exact ⟨by decide, .str Str.empty, H, I.tok _, ⟨_, rfl⟩, old_fz sF q (.str [] (by decide))⟩
        · split
          · rename_i h1 h2
            rw [Bool.or_eq_true] at h2
            have e0 : (List.replicate n.toNat t).flatten = t := by
              rcases h2 with h2 | h2
              · have : n = 1 := by simpa using h2
                subst this
                simp
              · have : t = [] := by simpa [Str.length] using h2
                subst this
                simp
            rw [e0] at q
            exact ⟨.str _, H, I, ⟨_, rfl⟩, old_fz sF q (.str t gx)⟩
          · have ea := rep_arr t n.toNat
            refine ⟨?_, ?_⟩
            · show ((List.replicate n.toNat t.toArray).foldl (· ++ ·) #[]).size ≤ sizeLine
              rw [ea, List.size_toArray]
              exact strG_len hg
            · show EP X pins σ Q (.str ⟨(List.replicate n.toNat t.toArray).foldl (· ++ ·) #[]⟩ _) _
              rw [ea]
              exact ⟨.str _, H, I.tok _, ⟨_, rfl⟩, old_fz sF q (.str _ hg)⟩
    · cases e
  · rename_i xs n
    split at e
    · rename_i hn
      injection e with e; subst e
      obtain ⟨a, vs, ex, hF, hH, r⟩ := hx.tup sF
      by_cases h1 : n = 1
      · subst h1
        refine op_repT1 pins s σ H x y v u Q I rx ry ⟨a, vs, ex, hy.int, hH, ?_⟩
        exact old_fz sF q (by simpa using Rep.tup hF r)
      have h2 : 2 ≤ n := by omega
      exact op_repT pins s σ H x y v u Q I rx ry ⟨a, n, vs, ex, hy.int, hH, fun z => hn.1 (r.nil_iff.mp z), h2, hn.2.2.1, by rw [r.length]; exact hn.2.2.2, fun p hp => new_tup sF q hp (r.rep _)⟩
    · cases e
  · rename_i xs n
    split at e
    · rename_i hn
      injection e with e; subst e
      obtain ⟨a, vs, ex, hH, r⟩ := hx.lst sF
      exact op_rep pins s σ H x y v u Q I rx ry ⟨a, n, vs, ex, hy.int, hH, by omega, by omega, by rw [r.length]; exact hn.2.2, fun p hp => new_lst sF q hp (r.rep _)⟩
    · cases e
  · cases e

/-! ### len, int, list, tuple, min, max, sum -/
def lenD : D → Option Val
  | .lst xs => some (fz (.int xs.length))
  | .scr xs => some (fz (.int xs.length))
  | .tup xs => some (fz (.int xs.length))
  | .str s => some (fz (.int s.length))
  | .dct ks _ => some (fz (.int ks.length))
  | _ => none
theorem g1_inv {f : D → Option Val} {vs : List Val} {v : Val} (h : g1 f vs = some v) : ∃ a, vs = [a] ∧ f a.d = some v := by
  match vs with
  | [] => cases h
  | [a] => exact ⟨a, rfl, h⟩
  | _ :: _ :: _ => cases h
theorem g2_inv {f : D → D → Option Val} {vs : List Val} {v : Val} (h : g2 f vs = some v) : ∃ a b, vs = [a, b] ∧ f a.d b.d = some v := by
  match vs with
  | [] => cases h
  | [_] => cases h
  | [a, b] => exact ⟨a, b, rfl, h⟩
  | _ :: _ :: _ :: _ => cases h
theorem cg_len {X : Cx} : CallG X (.builtin "len") (g1 lenD) := by
  rintro pins s σ H xs us Q I r ⟨F, vs, w, sF, hvs, e0, q⟩
  obtain ⟨⟨ao, ad⟩, rfl, e⟩ := g1_inv e0
  clear e0
  obtain ⟨x, rfl, hx⟩ := hvs.one
  change lenD ad = some w at e
  unfold lenD at e
  split at e
  · injection e with e; subst e
    obtain ⟨a, vs, ex, hH, r'⟩ := hx.lst sF
    rw [← r'.length] at q
    exact call_len_seq pins s σ H _ us Q I r ⟨a, vs, by rw [ex], .inl (.of hH), old_fz sF q (.int _)⟩
  · injection e with e; subst e
    obtain ⟨a, vs, ex, hF, hH, r'⟩ := hx.scr sF
    rw [← r'.length] at q
    exact call_len_seq pins s σ H _ us Q I r ⟨a, vs, by rw [ex], .inl hH, old_fz sF q (.int _)⟩
  · injection e with e; subst e
    obtain ⟨a, vs, ex, hF, hH, r'⟩ := hx.tup sF
    rw [← r'.length] at q
    exact call_len_seq pins s σ H _ us Q I r ⟨a, vs, by rw [ex], .inr hH, old_fz sF q (.int _)⟩
  · injection e with e; subst e
    obtain ⟨ex, gx⟩ := hx.str
    refine call_len_str pins s σ H _ us Q I r ⟨_, by rw [ex], by rw [str_len]; exact strG_len gx, ?_⟩
    rw [str_len]
    exact old_fz sF q (.int _)
  · injection e with e; subst e
    obtain ⟨a, kvs, ex, hH, r1, r2⟩ := hx.dct sF
    obtain ⟨u, rfl, rx⟩ := vals1 r
    subst ex
    obtain rfl : u = Value.ref a := rx
    have hl := r1.length
    rw [List.length_map] at hl
    refine d_len I (.inl hH) fun t s' I' => ⟨.int _, H, I', ⟨t, rfl⟩, ?_⟩
    rw [hl]
    exact old_fz sF q (.int _)
  · cases e
def intD : D → Option Val
  | .int i => some (fz (.int i))
  | .bl b => some (fz (.int (if b = true then 1 else 0)))
  | _ => none
theorem cg_int {X : Cx} : CallG X (.type "int") (g1 intD) := by
  rintro pins s σ H xs us Q I r ⟨F, vs, w, sF, hvs, e0, q⟩
  obtain ⟨⟨ao, ad⟩, rfl, e⟩ := g1_inv e0
  clear e0
  obtain ⟨x, rfl, hx⟩ := hvs.one
  change intD ad = some w at e
  unfold intD at e
  split at e
  · injection e with e; subst e
    exact call_int1 pins s σ H _ us Q I r (.inl ⟨_, by rw [hx.int], old_fz sF q (.int _)⟩)
  · injection e with e; subst e
    exact call_int1 pins s σ H _ us Q I r (.inr ⟨_, by rw [hx.bl], old_fz sF q (.int _)⟩)
  · cases e
def listD : D → Option Val
  | .lst xs => some (ow (.lst xs))
  | .tup xs => some (ow (.lst xs))
  | .scr xs => some (ow (.lst xs))
  | .str s => some (ow (.lst (s.map fun c => .str [c])))
  | _ => none
theorem signs_vals {s : List Nat} {acc : Array Value} (h : ItemsOf (SignAt ⟨s.toArray⟩) acc s.length) : Vals (s.map fun c => V.str ⟨#[c]⟩) acc.toList := by
  obtain ⟨h1, h2⟩ := h
  have key : ∀ (l : List Nat) (us : List Value), us.length = l.length → (∀ (j : Nat) (v : Value), us[j]? = some v → ∃ (c : Nat) (u : Tok), l[j]? = some c ∧ v = Value.str ⟨#[c]⟩ u) → Vals (l.map fun c => V.str ⟨#[c]⟩) us := by
    intro l
    induction l with
    | nil =>
      intro us hl _
      rw [List.eq_nil_of_length_eq_zero hl]
      exact .nil
    | cons c l ih =>
      intro us hl h
      cases us with
      | nil => simp at hl
      | cons u us =>
        obtain ⟨c', t, hc, hv⟩ := h 0 u rfl
        have hc : c = c' := by simpa using hc
        subst hc hv
        exact .cons ⟨t, rfl⟩ (ih us (by simpa using hl) fun j v hj => by simpa using h (j + 1) v (by simpa using hj))
  refine key s acc.toList (by simpa using h1) fun j v hj => ?_
  obtain ⟨c, u, hc, hv⟩ := h2 j v (by simpa using hj)
  exact ⟨c, u, by simpa using hc, hv⟩
theorem signs_reps {K : PySem.W.Frag} {F : Hp} : ∀ {s : List Nat}, strG s = true → Reps K F (s.map fun c => V.str ⟨#[c]⟩) (s.map fun c => D.str [c])
  | [], _ => .nil
  | c :: s, h => .cons (.str [c] (strG_one h List.mem_cons_self)) (signs_reps (strG_sub h (fun x hx => List.mem_cons_of_mem _ hx) (by simp)))
theorem cg_list {X : Cx} (hc : X.calm = true) : CallG X (.type "list") (g1 listD) := by
  rintro pins s σ H xs us Q I r ⟨F, vs, w, sF, hvs, e0, q⟩
  obtain ⟨⟨ao, ad⟩, rfl, e⟩ := g1_inv e0
  clear e0
  obtain ⟨x, rfl, hx⟩ := hvs.one
  change listD ad = some w at e
  unfold listD at e
  split at e
  · injection e with e; subst e
    obtain ⟨a, vs, ex, hH, r'⟩ := hx.lst sF
    exact call_list_of pins s σ H _ us Q I r ⟨a, vs, by rw [ex], .inl (.of hH), fun l hl => new_lst sF q hl r'⟩
  · injection e with e; subst e
    obtain ⟨a, vs, ex, hF, hH, r'⟩ := hx.tup sF
    exact call_list_of pins s σ H _ us Q I r ⟨a, vs, by rw [ex], .inr hH, fun l hl => new_lst sF q hl r'⟩
  · injection e with e; subst e
    obtain ⟨a, vs, ex, hF, hH, r'⟩ := hx.scr sF
    exact call_list_of pins s σ H _ us Q I r ⟨a, vs, by rw [ex], .inl hH, fun l hl => new_lst sF q hl r'⟩
  · rename_i t
    injection e with e; subst e
    obtain ⟨ex, gx⟩ := hx.str
    subst ex
    obtain ⟨u, rfl, rx⟩ := vals1 r
    obtain ⟨tk, rfl⟩ := rx
    have hz := strG_len gx
    refine call_list_str (I.ok.hd hc) _ tk (fun h' tk acc' c' kp e hacc => ?_) (by simpa using hz)
    have hv := signs_vals (s := t) (by simpa using hacc)
    have I2 := I.laid (t' := tk) (o := .lst (t.map fun c => V.str ⟨#[c]⟩)) kp (Nat.le_refl _) (show ObjOk X.prog X.w _ h' _ (.lst _) from ⟨by simpa using hz, acc'.toList, c', hv, by simpa using e⟩)
    exact ⟨.ref s.heap.objs.size, _, I2, rfl, new_lst sF q (I.hok.fresh (Nat.le_refl _)) (signs_reps gx)⟩
  · cases e
def tupD : D → Option Val
  | .lst xs => some (fz (.tup xs))
  | .tup xs => some (fz (.tup xs))
  | _ => none
theorem cg_tuple {X : Cx} : CallG X (.type "tuple") (g1 tupD) := by
  rintro pins s σ H xs us Q I r ⟨F, vs, w, sF, hvs, e0, q⟩
  obtain ⟨⟨ao, ad⟩, rfl, e⟩ := g1_inv e0
  clear e0
  obtain ⟨x, rfl, hx⟩ := hvs.one
  change tupD ad = some w at e
  unfold tupD at e
  split at e
  · injection e with e; subst e
    obtain ⟨a, vs, ex, hH, r'⟩ := hx.lst sF
    exact call_tuple_of pins s σ H _ us Q I r ⟨a, vs, by rw [ex], .inl ⟨.of hH, fun l hl => new_tup sF q hl r'⟩⟩
  · injection e with e; subst e
    obtain ⟨a, vs, ex, hF, hH, r'⟩ := hx.tup sF
    exact call_tuple_of pins s σ H _ us Q I r ⟨a, vs, by rw [ex], .inr ⟨hH, old_fz sF q (.tup hF r')⟩⟩
  · cases e
/-- of two whole numbers -/
def min2D : D → D → Option Val
  | .int i, .int j => some (fz (.int (min i j)))
  | _, _ => none
def max2D : D → D → Option Val
  | .int i, .int j => some (fz (.int (max i j)))
  | _, _ => none
theorem cg_min2 {X : Cx} (hc : X.calm = true) : CallG X (.builtin "min") (g2 min2D) := by
  rintro pins s σ H xs us Q I r ⟨F, vs, w, sF, hvs, e0, q⟩
  obtain ⟨⟨ao, ad⟩, ⟨bo, bd⟩, rfl, e⟩ := g2_inv e0
  clear e0
  obtain ⟨x, y, rfl, hx, hy⟩ := hvs.two
  change min2D ad bd = some w at e
  unfold min2D at e
  split at e
  · rename_i i j
    injection e with e; subst e
    refine call_min2 hc pins s σ H _ us Q I r ⟨i, j, by rw [hx.int, hy.int], ?_⟩
    have e : (if j < i then j else i) = min i j := by split <;> omega
    rw [e]
    exact old_fz sF q (.int _)
  · cases e
theorem cg_max2 {X : Cx} (hc : X.calm = true) : CallG X (.builtin "max") (g2 max2D) := by
  rintro pins s σ H xs us Q I r ⟨F, vs, w, sF, hvs, e0, q⟩
  obtain ⟨⟨ao, ad⟩, ⟨bo, bd⟩, rfl, e⟩ := g2_inv e0
  clear e0
  obtain ⟨x, y, rfl, hx, hy⟩ := hvs.two
  change max2D ad bd = some w at e
  unfold max2D at e
  split at e
  · rename_i i j
    injection e with e; subst e
    refine call_max2 hc pins s σ H _ us Q I r ⟨i, j, by rw [hx.int, hy.int], ?_⟩
    have e : (if j > i then j else i) = max i j := by split <;> omega
    rw [e]
    exact old_fz sF q (.int _)
  · cases e
/-- whole numbers as data -/
def intsD : List D → Option (List Int)
  | [] => some []
  | .int i :: r => (intsD r).map (i :: ·)
  | _ => none
theorem intsD_eq : ∀ {ds : List D} {ns : List Int}, intsD ds = some ns → ds = ns.map D.int
  | [], ns, e => by injection e with e; subst e; rfl
  | .int i :: r, ns, e => by
    obtain ⟨ms, e1, e2⟩ := Option.map_eq_some_iff.mp (show (intsD r).map (i :: ·) = some ns from e)
    subst e2
    rw [intsD_eq e1]
    rfl
  | .non :: _, _, e => by cases e
  | .bl _ :: _, _, e => by cases e
  | .str _ :: _, _, e => by cases e
  | .tup _ :: _, _, e => by cases e
  | .lst _ :: _, _, e => by cases e
  | .scr _ :: _, _, e => by cases e
  | .dct _ _ :: _, _, e => by cases e
  | .obj _ _ _ :: _, _, e => by cases e
theorem ints_of {K : PySem.W.Frag} {F : Hp} : ∀ {ns : List Int} {vs : List V}, Reps K F vs (ns.map D.int) → vs = ns.map V.int
  | [], vs, r => by cases r; rfl
  | n :: ns, vs, r => by
    cases r with
    | cons r1 r2 => rw [r1.int_inv, ints_of r2]; rfl
def sumD : D → Option Val
  | .lst xs => (intsD xs).map fun ns => fz (.int ns.sum)
  | _ => none
theorem cg_sum {X : Cx} (hc : X.calm = true) : CallG X (.builtin "sum") (g1 sumD) := by
  rintro pins s σ H xs us Q I r ⟨F, vs, w, sF, hvs, e0, q⟩
  obtain ⟨⟨ao, ad⟩, rfl, e⟩ := g1_inv e0
  clear e0
  obtain ⟨x, rfl, hx⟩ := hvs.one
  change sumD ad = some w at e
  unfold sumD at e
  split at e
  · obtain ⟨ns, e1, e2⟩ := Option.map_eq_some_iff.mp e
    subst e2
    obtain ⟨a, vs, ex, hH, r'⟩ := hx.lst sF
    rw [intsD_eq e1] at r'
    exact cr_sum hc pins s σ H _ us Q I r ⟨a, ns, by rw [ex], .of (by rw [← ints_of r']; exact hH), old_fz sF q (.int _)⟩
  · cases e
end Wk
end

section
/-! W13: sorted, min, max of lists of data. -/
namespace Wk
open PySem PySem.Spec PyProof.Rows L2

def leB (a b : D) : Bool := !ltB b a
/-- may be sorted: data, one like another, the ends known -/
def isTupB : D → Bool
  | .tup (_ :: _) => true
  | _ => false
def isOtherB : D → Bool
  | .tup _ => false
  | .non => false
  | _ => true
def alikeD (a b : D) : Bool := PySem.W.alike (py a) (py b)
def sortOk (ds : List D) : Bool := dataL ds && (ds.all fun a => ds.all fun b => alikeD a b) && (ds.all isTupB || ds.all isOtherB) && decide (depL ds ≤ 64) && decide (ds.length ≤ sizeLine)
theorem dataL_mem : ∀ {ds : List D}, dataL ds = true → ∀ d ∈ ds, dataD d = true
  | [], _, d, h => by cases h
  | x :: xs, e, d, h => by
    simp [dataL] at e
    rcases List.mem_cons.mp h with rfl | h
    · exact e.1
    · exact dataL_mem e.2 d h
theorem depL_mem : ∀ {ds : List D}, ∀ d ∈ ds, depD d ≤ depL ds
  | [], d, h => by cases h
  | x :: xs, d, h => by
    unfold depL
    rcases List.mem_cons.mp h with rfl | h
    · omega
    · have := depL_mem d h
      omega
theorem sortOk_use {α : Type} {bs : List α} {k : α → D} (h : sortOk (bs.map k) = true) : PySem.W.AllAlike (bs.map fun b => py (k b)) ∧ PySem.W.Sortable (bs.map fun b => py (k b)) ∧ bs.length ≤ sizeLine ∧ (∀ b ∈ bs, (py (k b)).depth ≤ 64) ∧ dataL (bs.map k) = true := by
  unfold sortOk at h
  simp only [Bool.and_eq_true, decide_eq_true_eq, Bool.or_eq_true] at h
  obtain ⟨⟨⟨⟨h1, h2⟩, h3⟩, h4⟩, h5⟩ := h
  have hm : ∀ b ∈ bs, k b ∈ bs.map k := fun b hb => List.mem_map.mpr ⟨b, hb, rfl⟩
  refine ⟨?_, ?_, by simpa using h5, fun b hb => ?_, h1⟩
  · intro d hd d' hd'
    obtain ⟨b, hb, rfl⟩ := List.mem_map.mp hd
    obtain ⟨b', hb', rfl⟩ := List.mem_map.mp hd'
    have := List.all_eq_true.mp (List.all_eq_true.mp h2 _ (hm b hb)) _ (hm b' hb')
    exact this
  · rcases h3 with h3 | h3
    · refine .inl fun d hd => ?_
      obtain ⟨b, hb, rfl⟩ := List.mem_map.mp hd
      have := List.all_eq_true.mp h3 _ (hm b hb)
      unfold isTupB at this
      split at this
      · rename_i e
        exact ⟨_, _, by rw [e]; rfl⟩
      · cases this
    · refine .inr fun d hd => ?_
      obtain ⟨b, hb, rfl⟩ := List.mem_map.mp hd
      have h6 := List.all_eq_true.mp h3 _ (hm b hb)
      have h7 := dataL_mem h1 _ (hm b hb)
      cases e : k b <;> rw [e] at h6 h7 <;> simp [isOtherB, dataD, py] at h6 h7 ⊢
  · have h6 := py_depth (k b)
    have h7 := depL_mem _ (hm b hb)
    omega
theorem reps_zip {K : PySem.W.Frag} {F : Hp} {X : Cx} {pins : List (Addr × Obj)} {σ : L2.St} {H : Hp} {s : Shared} (I : Inv X pins σ H s) (sF : Same F H) : ∀ {vs : List V} {ds : List D} {us : List Value}, Reps X.K F vs ds → Vals vs us → dataL ds = true →
    PySem.W.EachIs (fun u (p : D × V) => RelV p.2 u ∧ Rep X.K F p.2 p.1) us (ds.zip vs) ∧ PySem.W.EachIs (fun u (p : D × V) => ∃ as, Reads s.heap u (py p.1) as) us (ds.zip vs)
  | _, _, _, .nil, .nil, _ => ⟨.nil, .nil⟩
  | _, _, _, .cons r1 r2, .cons q1 q2, e => by
    simp [dataL] at e
    obtain ⟨h1, h2⟩ := reps_zip (K := K) I sF r2 q2 e.2
    exact ⟨.cons ⟨q1, r1⟩ h1, .cons ((Rep.dp sF r1 e.1).1.reads I _ _ _ q1) h2⟩
theorem each_back {K : PySem.W.Frag} {F : Hp} : ∀ {us : List Value} {ps : List (D × V)}, PySem.W.EachIs (fun u (p : D × V) => RelV p.2 u ∧ Rep K F p.2 p.1) us ps → Vals (ps.map (·.2)) us ∧ Reps K F (ps.map (·.2)) (ps.map (·.1))
  | _, _, .nil => ⟨.nil, .nil⟩
  | _, _, .cons h t => by
    obtain ⟨h1, h2⟩ := each_back t
    exact ⟨.cons h.1 h1, .cons h.2 h2⟩
theorem sort_fst {α β : Type} (le : α → α → Bool) (l : List (α × β)) : (l.mergeSort fun p q => le p.1 q.1).map (·.1) = (l.map (·.1)).mergeSort le :=
  PySem.W.sort_maps (fun p : α × β => p.1) (l := l) fun _ _ _ _ => rfl
theorem zip_fst {α β : Type} : ∀ {xs : List α} {ys : List β}, xs.length = ys.length → (xs.zip ys).map (·.1) = xs
  | [], [], _ => rfl
  | x :: xs, y :: ys, h => by
    rw [List.zip_cons_cons, List.map_cons, zip_fst (by simpa using h)]
/-- sorted, once its items are collected -/
theorem sorted_any {prog : Program} {w : World} {A : Around} {E : Value → Shared → Prop} {s : Shared} {x : Value} {Q : Value → Shared → Prop} (Good : List Value → Shared → Prop)
    (hcol : ∀ (E' : Value → Shared → Prop) (Q' : List Value → Shared → Prop), (∀ us s1, Good us s1 → Q' us s1) → wpAny (model prog w) A.in1 (collect x) Q' E' s)
    (hgo : ∀ us s1, Good us s1 → us.length ≤ sizeLine ∧ ∃ κ, PySem.W.SortsAt prog w A.in1.in1 { s1 with heap := PySem.W.sortingHeap (s1.heap.push (seqObj "list" us.toArray 0)) s1.heap.objs.size us } κ us ∧
      Q (.ref s1.heap.objs.size) { s1 with heap := sortedHeap (s1.heap.push (seqObj "list" us.toArray 0)) s1.heap.objs.size us (PySem.W.sortVals κ false us us).toArray }) : wpAny (model prog w) A (call (.builtin "sorted") [x]) Q E s := by
  refine Calls.call_function_entry kind_sorted plain_sorted entry_sorted (args_sorted1 _) ?_
  unfold Builtin.«sorted»
  refine wpAny_bind (m := checkCount "sorted" 1 1 _) (wpAny_pure ?_)
  refine wpAny_bind (hcol _ _ fun us s1 hg => ?_)
  obtain ⟨hL, κ, S, q⟩ := hgo us s1 hg
  refine wpAny_bind (wpAny_newList ?_ hL)
  have ho : (s1.heap.push (seqObj "list" us.toArray 0)).get? s1.heap.objs.size = some (seqObj "list" us.toArray 0) := Heap.get?_push_size _ rfl
  show wpAny _ _ _ _ _ { s1 with heap := s1.heap.push (seqObj "list" us.toArray 0) }
  refine wpAny_bind (wpAny_holding (wpAny_call_entry slot_list_sort ⟨_, ho, rfl⟩ entry_list_sort
    (PySem.W.list_sort_vals (s := { s1 with heap := s1.heap.push (seqObj "list" us.toArray 0) }) ho S hL ?_) (args_list_sort _)))
  exact ⟨_, rfl, wpAny_pure ⟨_, rfl, q⟩⟩
def sortIt : D → Option (List D)
  | .lst xs => some xs
  | .tup xs => some xs
  | .dct ks _ => some ks
  | _ => none
def sortD (d : D) : Option Val := (sortIt d).bind fun xs => if sortOk xs = true then some (ow (.lst (xs.mergeSort leB))) else none
theorem sort_go {X : Cx} {pins : List (Addr × Obj)} {σ : L2.St} {H F : Hp} {s : Shared} {ds : List D} {vs : List V} (hu : X.A.units + 128 < cLine) (sF : Same F H) (rp : Reps X.K F vs ds) (hok : sortOk ds = true) {x : Value} {Q : VK} {E : Value → Shared → Prop}
    (hcol : ∀ (E' : Value → Shared → Prop) (Q' : List Value → Shared → Prop), (∀ us s1, Inv X pins σ H s1 → Vals vs us → Q' us s1) → wpAny (model X.prog X.w) X.A.in1 (collect x) Q' E' s)
    (q : ∀ z F' H', Stp X.K [] F H [(ow (.lst (ds.mergeSort leB)), z)] F' H' → Q z H') :
    wpAny (model X.prog X.w) X.A (call (.builtin "sorted") [x]) (fun u s' => EP X pins σ Q u s') E s := by
  have hlen := rp.length
  have hzip : (ds.zip vs).map (·.1) = ds := zip_fst hlen.symm
  have hok2 : sortOk ((ds.zip vs).map (·.1)) = true := by rw [hzip]; exact hok
  obtain ⟨a1, a2, a3, a4, a5⟩ := sortOk_use (k := fun p : D × V => p.1) hok2
  rw [hzip] at a5
  refine sorted_any (fun us s1 => Inv X pins σ H s1 ∧ Vals vs us) (fun E' Q' h => hcol E' Q' fun us s1 I1 rv => h us s1 ⟨I1, rv⟩) ?_
  rintro us s1 ⟨I1, rv⟩
  have hL : us.length ≤ sizeLine := by
    have h1 := rv.length
    have h2 : vs.length = (ds.zip vs).length := by rw [List.length_zip]; omega
    omega
  obtain ⟨e1, e2⟩ := reps_zip (K := X.K) I1 sF rp rv a5
  have ho : (s1.heap.push (seqObj "list" us.toArray 0)).get? s1.heap.objs.size = some (seqObj "list" us.toArray 0) := Heap.get?_push_size _ rfl
  have old : ∀ b o, s1.heap.get? b = some o → (PySem.W.sortingHeap (s1.heap.push (seqObj "list" us.toArray 0)) s1.heap.objs.size us).get? b = some o := fun b o e =>
    PySem.W.sortingHeap_old (Nat.ne_of_lt (Heap.lt_size e)) (Heap.get?_push_of_some _ e)
  have er' : PySem.W.EachIs (fun u (p : D × V) => ∃ as, Reads (PySem.W.sortingHeap (s1.heap.push (seqObj "list" us.toArray 0)) s1.heap.objs.size us) u (py p.1) as) us (ds.zip vs) :=
    e2.mono fun _ _ ⟨as, r⟩ => ⟨as, PyProof.Rows.Reads.keeps old r⟩
  refine ⟨hL, _, PySem.W.SortsAt.data (ds := (ds.zip vs).map fun p => py p.1) (s := { s1 with heap := PySem.W.sortingHeap (s1.heap.push (seqObj "list" us.toArray 0)) s1.heap.objs.size us }) (PySem.W.each_map (R := fun v d => ∃ as, Reads (PySem.W.sortingHeap (s1.heap.push (seqObj "list" us.toArray 0)) s1.heap.objs.size us) v d as) (fun p : D × V => py p.1) er') a1 a2 (fun d hd => ?_), ?_⟩
  · obtain ⟨b, hb, rfl⟩ := List.mem_map.mp hd
    have := a4 b hb
    show X.A.units + 2 + (py b.1).depth < cLine
    omega
  have eo := PySem.W.sortVals_data (h' := PySem.W.sortingHeap (s1.heap.push (seqObj "list" us.toArray 0)) s1.heap.objs.size us) (R := fun u (p : D × V) => RelV p.2 u ∧ Rep X.K F p.2 p.1) (enc := fun p : D × V => py p.1) false e1 er' a1
  have hol := PySem.W.sortVals_length (κ := PySem.W.dataKind (PySem.W.sortingHeap (s1.heap.push (seqObj "list" us.toArray 0)) s1.heap.objs.size us) ((ds.zip vs).map fun p => py p.1)) (vs := us) (ks := us) false rfl
  generalize PySem.W.sortVals _ false us us = out at eo hol ⊢
  obtain ⟨v1, v2⟩ := each_back eo
  have hsrt : ((ds.zip vs).mergeSort (PySem.W.dataLe false fun p : D × V => py p.1)).map (·.1) = ds.mergeSort leB := by
    have := sort_fst leB (ds.zip vs)
    rw [hzip] at this
    exact this
  rw [hsrt] at v2
  obtain ⟨c, hc⟩ := sortedHeap_at (vs := us) (out := out.toArray) ho
  have I2 := I1.laid (t' := s1.toks) (h' := sortedHeap (s1.heap.push (seqObj "list" us.toArray 0)) s1.heap.objs.size us out.toArray) (a := s1.heap.objs.size) (o := .lst _)
    (fun b o e => by
      have hb : b < s1.heap.objs.size := Heap.lt_size e
      rw [sortedHeap_old (Nat.ne_of_lt hb) (by rw [size_push']; exact Nat.lt_succ_of_lt hb)]
      exact Heap.get?_push_of_some _ e) (Nat.le_refl _)
    (show ObjOk X.prog X.w _ _ _ (.lst _) from ⟨by rw [v1.length, hol]; exact hL, out, c, v1, hc⟩)
  exact ⟨.ref _, _, I2, rfl, new_lst sF q (I1.hok.fresh (Nat.le_refl _)) v2⟩
theorem cg_sorted {X : Cx} (hc : X.calm = true) (hu : X.A.units + 128 < cLine) : CallG X (.builtin "sorted") (g1 sortD) := by
  rintro pins s σ H xs us Q I r ⟨F, vs, w, sF, hvs, e0, q⟩
  obtain ⟨⟨ao, ad⟩, rfl, e⟩ := g1_inv e0
  clear e0
  obtain ⟨x, rfl, hx⟩ := hvs.one
  change sortD ad = some w at e
  unfold sortD at e
  cases hit : sortIt ad with
  | none => rw [hit] at e; cases e
  | some ds =>
    rw [hit] at e
    simp only [Option.bind_some] at e
    split at e
    · rename_i hok
      injection e with e; subst e
      unfold sortIt at hit
      split at hit
      · injection hit with hit; subst hit
        obtain ⟨a, vs, ex, hH, rp⟩ := hx.lst sF
        subst ex
        obtain ⟨u, rfl, rx⟩ := vals1 r
        obtain rfl : u = Value.ref a := rx
        refine sort_go hu sF rp hok (fun E' Q' h => ?_) q
        obtain ⟨its, rv, pl, hz⟩ := I.list (.of hH)
        obtain ⟨o, ho, hc, n, hd⟩ := pl.isList
        refine wpAny_collect_seq a (.inl rfl) ho hc hd (fun h' hk => ?_) (by rw [List.size_toArray]; have := rv.length; omega)
        have e : its.toArray.toList = its := by simp
        rw [e]
        exact h its _ (I.kept (t' := s.toks) hk) rv
      · injection hit with hit; subst hit
        obtain ⟨a, vs, ex, hF, hH, rp⟩ := hx.tup sF
        subst ex
        obtain ⟨u, rfl, rx⟩ := vals1 r
        obtain rfl : u = Value.ref a := rx
        refine sort_go hu sF rp hok (fun E' Q' h => ?_) q
        obtain ⟨its, rv, ⟨o, ho, hc, n, hd⟩, hz⟩ := I.tuple hH
        refine wpAny_collect_seq a (.inr rfl) ho hc hd (fun h' hk => ?_) (by rw [List.size_toArray]; have := rv.length; have := rp.length; omega)
        have e : its.toArray.toList = its := by simp
        rw [e]
        exact h its _ (I.kept (t' := s.toks) hk) rv
      · injection hit with hit; subst hit
        obtain ⟨a, kvs, ex, hH, rp, _⟩ := hx.dct sF
        subst ex
        obtain ⟨u, rfl, rx⟩ := vals1 r
        obtain rfl : u = Value.ref a := rx
        refine sort_go hu sF rp hok (fun E' Q' h => ?_) q
        obtain ⟨z, lo, vs, rel, dd⟩ := dk_rd I.hok (.of hH)
        obtain ⟨ep, hat⟩ := dd.dictAt
        refine PySem.W.kdu_collect (A := X.A.in1) (PySem.W.kdl_dict (knd := mixKind X.prog X.w) (kvs := vs) (ep := ep) lo) (I.ok.hd hc) hat (by rw [← rel.length]; exact z) fun h' tk acc hk hacc => ?_
        have hv : Vals (vs.map fun p => kV p.1) acc.toList := keys_at (by rw [Array.length_toList]; exact hacc.1) fun j v e => hacc.2 j v (by rw [← Array.getElem?_toList]; exact e)
        have ek : (kvs.map fun kv => kV kv.1) = vs.map fun p => kV p.1 := by
          have e := congrArg (List.map kV) rel.keys
          rw [List.map_map, List.map_map] at e
          exact e
        rw [← ek] at hv
        exact h _ _ (I.kept (t' := tk) hk) hv
      · cases hit
    · cases e
end Wk
end

section
/-! W14: sorted by a def's answers. -/
namespace Wk
open PySem PySem.Spec PyProof.Rows L2

section
variable {X : Cx} {pins : List (Addr × Obj)} {σ : L2.St} {H : Hp} {s : Shared} {h' : Heap} {a c : Addr} {o : HO}
/-- an object of ours becomes one that is tracked, another of ours may change -/
theorem Inv.adopt {t' : Nat} (I : Inv X pins σ H s) (fa : FpOk X pins H a) (fc : FpOk X pins H c) (k : ∀ b u, b ≠ a → b ≠ c → s.heap.get? b = some u → h'.get? b = some u) (ha : ∃ u, h'.get? a = some u) (new : ObjOk X.prog X.w (upd H a o) h' a o) :
    Inv X pins σ (upd H a o) { s with heap := h', toks := t' } := by
  obtain ⟨a0, a1, a2, a3, a4, a5⟩ := fa
  obtain ⟨c0, c1, c2, c3, c4, c5⟩ := fc
  have na : ∀ b u, H b = some u → b ≠ a := fun b u e z => by rw [z, a0] at e; cases e
  have nc : ∀ b u, H b = some u → b ≠ c := fun b u e z => by rw [z, c0] at e; cases e
  have out : ∀ b : Addr, b ∉ [a, c] → b ≠ a ∧ b ≠ c := fun b h => by simpa using h
  refine I.step (g' := s.gens) (d' := s.drawn) (ch := [a, c]) (fun b hb => ?_) (fun b u _ _ hc e _ => k b u (out b hc).1 (out b hc).2 e) (fun b u _ _ hc e _ => ⟨u.slots, k b u (out b hc).1 (out b hc).2 e⟩)
    (fun b u hc e n => by rw [upd_ne (out b hc).1]; exact n) (fun b u hc e => ⟨u, k b u (out b hc).1 (out b hc).2 e⟩) (fun b xs e => by rw [upd_ne (na b _ e)]; exact e) (fun b _ u e => by rw [upd_ne (na b _ e)]; exact e)
    (fun b ps e => ⟨#[], by rw [upd_ne (na b _ e), e]; simp⟩) (fun m hm => ?_) (fun b u e => ?_) I.bare
  · rcases List.mem_cons.mp hb with e | hb
    · subst e; exact ⟨a3, a1, a4, a5⟩
    · have e : b = c := by simpa using hb
      subst e; exact ⟨c3, c1, c4, c5⟩
  · obtain ⟨ob, es, ep, ho, r⟩ := hm
    exact ⟨ob, es, ep, k _ _ (Ne.symm a1) (Ne.symm c1) ho, r⟩
  · by_cases hb : b = a
    · subst hb; rw [upd_same] at e; cases e; exact new
    · rw [upd_ne hb] at e
      refine (I.hok b u e).stay (fun d v hd q => ?_) (fun d q => by rw [upd_ne (na d _ q)]; exact q) fun d xs q => by rw [upd_ne (na d _ q)]; exact q
      have hda : d ≠ a := by
        rcases hd with z | z
        · rw [z]; exact hb
        · exact na d _ z
      have hdc : d ≠ c := by
        rcases hd with z | z
        · rw [z]; exact nc b _ e
        · exact nc d _ z
      exact k d v hda hdc q
end
/-- the heap without an object -/
theorem freed_get (h : Heap) (a : Addr) : ∃ g : Heap, g.get? a = none ∧ ∀ b, b ≠ a → g.get? b = h.get? b := by
  refine ⟨h.update a fun o => { o with data := .freed }, ?_, fun b hb => ?_⟩
  · cases e : (h.update a fun o => { o with data := .freed }).get? a with
    | none => rfl
    | some u =>
      exfalso
      have hlt : a < h.objs.size := by
        have := Heap.lt_size e
        rw [Heap.size_update] at this
        exact this
      unfold Heap.get? Heap.update at e
      simp [hlt, Array.getElem_modify] at e
  · exact Heap.get?_update_other _ _ (Ne.symm hb)
/-- the keys that a def gives -/
def keysM (m : FS) : List D → Option (List D)
  | [] => some []
  | d :: ds => (m [fz d]).bind fun r => (keysM m ds).bind fun ks => some (r.1.d :: ks)
theorem keysM_len {m : FS} : ∀ {ds ks : List D}, keysM m ds = some ks → ks.length = ds.length
  | [], ks, e => by injection e with e; subst e; rfl
  | d :: ds, ks, e => by
    unfold keysM at e
    cases e1 : m [fz d] with
    | none => rw [e1] at e; cases e
    | some r =>
      rw [e1] at e
      simp only [Option.bind_some] at e
      cases e2 : keysM m ds with
      | none => rw [e2] at e; cases e
      | some ks2 =>
        rw [e2] at e
        injection e with e; subst e
        simp [keysM_len e2]
theorem keysM_at {m : FS} : ∀ {ds ks : List D} {i : Nat} {d : D}, keysM m ds = some ks → ds[i]? = some d → ∃ r, m [fz d] = some r ∧ ks[i]? = some r.1.d
  | [], ks, i, d, e, h => by simp at h
  | d :: ds, ks, i, d', e, h => by
    unfold keysM at e
    cases e1 : m [fz d] with
    | none => rw [e1] at e; cases e
    | some r =>
      rw [e1] at e
      simp only [Option.bind_some] at e
      cases e2 : keysM m ds with
      | none => rw [e2] at e; cases e
      | some ks2 =>
        rw [e2] at e
        injection e with e; subst e
        cases i with
        | zero =>
          have h : d = d' := by simpa using h
          subst h
          exact ⟨r, e1, by simp⟩
        | succ i =>
          obtain ⟨r', h1, h2⟩ := keysM_at e2 (show ds[i]? = some d' by simpa using h)
          exact ⟨r', h1, by simpa using h2⟩
def sortKD (m : FS) : D → Option Val
  | .lst xs => (keysM m xs).bind fun ks => if sortOk ks = true then some (ow (.lst (((xs.zip ks).mergeSort fun p q => leB p.2 q.2).map (·.1)))) else none
  | _ => none
/-- the reading of sorted(xs, key=f) -/
def rSortK (K : PySem.W.Frag) (f : Addr) (g : Fn) : List V → List V → Hp → VK → Prop := fun xs zs H Q => zs = [.ref f] ∧ rGL K g xs H Q
section
variable {X : Cx} {k : Nat} {f : Addr} {fd : FuncData} {ps : List Str} {m : FS} {pins : List (Addr × Obj)} {σ : L2.St} {H F : Hp} {s : Shared}
/-- one call of the key -/
theorem key_call (FO : FnOk X.prog X.w X.K X.mg X.base CX0 k f fd ps (spF X.K [] 1 m)) (hb : Binds X.K fd ps []) (hr : Room (k + 2) X.A) (I : Inv X pins σ H s) (sF : Same F H) {x : V} {u : Value} {d : D} {r : Val × List Val} (rx : RelV x u) (rp : Rep X.K F x d) (em : m [fz d] = some r) {E : Value → Shared → Prop} :
    wpAny (model X.prog X.w) X.A.in1.in1 (call (.ref f) [u]) (fun v s' => ∃ y H' F', Inv X pins σ H' s' ∧ RelV y v ∧ Stp X.K [] F H [] F' H' ∧ Rep X.K F' y r.1.d) E s := by
  have h0 : spF X.K [] 1 m [x] H (fun y H' => ∃ F', Stp X.K [] F H [] F' H' ∧ Rep X.K F' y r.1.d) E0 := by
    have st : Stp X.K [] F H [(fz d, x)] F H := Stp.val sF rp
    refine ⟨[fz d], F, rfl, rfl, st.rel, r.1, r.2, em, fun y F' H' s2 => ?_⟩
    have s3 : Stp X.K [] F H ((r.1, y) :: r.2.zip (selV [] 0 [x])) F' H' := st.trans s2
    obtain ⟨F3, s4, ry, _⟩ := Stp.freeze (o := r.1.o) (d := r.1.d) s3.rel
    exact ⟨F3, (s3.trans s4).less (List.nil_sublist _), ry⟩
  have hl : ([u] : List Value).length = ps.length := by
    have := FO.len _ _ _ _ h0
    simpa using this
  have hrun := FO.run X.A.in1.in1 X.stack s H ⟨[u], []⟩ [u] [x] _ E0 ((hr.in1).in1) (I.env0.in1.in1) (by simpa using hb s [u] I.kIn (by simpa using hl)) (.cons rx .nil) h0
  refine wpAny_call (codeAny_mono hrun fun r' s' hq => ?_)
  cases r' with
  | error e => exact hq.elim
  | ok fl =>
    cases fl with
    | ret v =>
      obtain ⟨y, H', I', ry, F', q1, q2⟩ := I.after hq
      exact ⟨y, H', F', I', ry, q1, q2⟩
    | next => exact False.elim hq
    | brk => exact False.elim hq
    | cont => exact False.elim hq

/-- the walk over the items -/
theorem key_rest (hcalm : X.calm = true) (hu : X.A.units + 128 < cLine) (FO : FnOk X.prog X.w X.K X.mg X.base CX0 k f fd ps (spF X.K [] 1 m)) (hb : Binds X.K fd ps []) (hr : Room (k + 2) X.A) {a kS : Addr} {e1 : Nat} {its : List Value} {xs : List V} {ds ks : List D} {P : PySem.Fin → Shared → Prop} {E : Value → Shared → Prop}
    (hka : kS ≠ a) (I : Inv X (pins ++ [(kS, seqObj "list" #[] 0), (a, seqObj "list" #[] e1)]) σ H s) (fa : FpOk X pins H a) (fk : FpOk X pins H kS) (sF : Same F H) (rv : Vals xs its) (rp : Reps X.K F xs ds) (hz : xs.length ≤ sizeLine) (ek : keysM m ds = some ks) (hok : sortOk ks = true)
    (hP : ∀ s' H' F' ys, Inv X pins σ (upd H' a (.lst ys)) s' → Stp X.K [] F H [] F' H' → H' a = none → Reps X.K F' ys (((ds.zip ks).mergeSort fun p q => leB p.2 q.2).map (·.1)) → P (.done (.ret .none)) s') :
    wpAny (model X.prog X.w) X.A.in1.in1 (ksk_rest a (.ref f) false its.toArray e1 (.ref kS)) P E s := by
  have hl1 := rv.length
  have hl2 := rp.length
  have hl3 := keysM_len ek
  unfold ksk_rest
  refine wpAny_bind (wpAny_rule ?_)
  first
    | rw [List.forIn_toArray]
    | (rw [← Array.forIn_toList]; simp only [List.toList_toArray])
    | rw [← Array.forIn_toList]
  refine wpAny_bind (ksk_fold (fun i s' => ∃ kA e H1 F1 ys, Inv X (pins ++ [(kS, seqObj "list" kA e), (a, seqObj "list" #[] e1)]) σ H1 s' ∧ Stp X.K [] F H [] F1 H1 ∧ Vals ys kA.toList ∧ Reps X.K F1 ys (ks.take i)) its 0 s
    ⟨#[], 0, H, F, [], I, .refl ⟨sF, (fun _ h => by cases h), List.nodup_nil⟩, .nil, by rw [List.take_zero]; exact .nil⟩ ?step ?done)
  case step =>
    rintro j u s' hx ⟨kA, e, H1, F1, ys, I1, st1, vy, ry⟩
    simp only [Nat.zero_add] at ry ⊢
    have hj : j < its.length := (List.getElem?_eq_some_iff.mp hx).1
    have hxj : xs[j]? = some xs[j] := List.getElem?_eq_getElem (by omega)
    obtain ⟨u', hu', rx⟩ := rv.get hxj
    rw [hx] at hu'
    injection hu' with hu'
    subst hu'
    obtain ⟨d, hd, rpx⟩ := rp.get' hxj
    obtain ⟨r, em, hk⟩ := keysM_at ek hd
    refine wpAny_bind (wpAny_attempt (wpAny_mono (key_call FO hb hr I1 st1.rel.sub rx (rpx.mono st1.mono) em) (fun v s2 he => ?_) fun _ _ hF => hF))
    obtain ⟨y, H2, F2, I2, ry2, st2, rep2⟩ := he
    try dsimp only
    have pk := I2.pin (kS, seqObj "list" kA e) (by simp)
    have pa := I2.pin (a, seqObj "list" #[] e1) (by simp)
    have s1 := Heap.SameBut.update s2.heap kS (Obj.mapSeq (·.push v))
    obtain ⟨c2, hc2⟩ : ∃ c2, (s2.heap.update kS (Obj.mapSeq (·.push v))).get? kS = some (seqObj "list" (kA.push v) c2) := ⟨_, get?_update_seq pk.1 (·.push v)⟩
    have hks : kA.size ≤ its.length := by
      have h1 : ys.length = kA.toList.length := vy.length
      have h2 := ry.length
      have h4 : kA.toList.length = kA.size := Array.length_toList
      rw [List.length_take] at h2
      omega
    refine wpAny_bind (listUpdate_at pk.1 rfl ?_ (by omega) (by rw [Array.size_push]; omega))
    refine wpAny_pure ⟨rfl, kA.push v, c2, H2, F2, ys ++ [y], ?_, st1.trans st2, ?_, ?_⟩
    · have I3 : Inv X (pins ++ [(a, seqObj "list" #[] e1)]) σ H2 s2 := I2.pins_of fun p hp => I2.pin p (by
        rcases List.mem_append.mp hp with hp | hp
        · exact List.mem_append_right _ (List.mem_append_left _ hp)
        · exact List.mem_append_right _ (List.mem_append_right _ (List.mem_cons_of_mem _ hp)))
      have I4 : Inv X (pins ++ [(a, seqObj "list" #[] e1)]) σ H2 { s2 with heap := s2.heap.update kS (Obj.mapSeq (·.push v)), toks := s2.toks } := I3.turned (it := kS) (fun b o hb q => (s1.2 b hb).trans q) pk.2.1 fk.2.1 fk.2.2.2.1 fk.2.2.2.2.1 fun p hp => by
        rcases List.mem_append.mp hp with hp | hp
        · exact fk.2.2.2.2.2 p (List.mem_append_left _ hp)
        · rcases List.mem_append.mp hp with hp | hp
          · exact fk.2.2.2.2.2 p (List.mem_append_right _ hp)
          · have : p = (a, seqObj "list" #[] e1) := by simpa using hp
            subst this
            exact fun z => hka z.symm
      exact I4.pins_of fun p hp => by
        rcases List.mem_append.mp hp with hp | hp
        · exact I4.pin p (List.mem_append_right _ (List.mem_append_left _ hp))
        · rcases List.mem_cons.mp hp with e | hp
          · subst e
            exact ⟨hc2, pk.2.1, pk.2.2.1, pk.2.2.2.1, fun v z => by cases z⟩
          · exact I4.pin p (List.mem_append_right _ (List.mem_append_right _ hp))
    · rw [Array.toList_push]
      exact vy.append (.cons ry2 .nil)
    · have ek' : ks.take (j + 1) = ks.take j ++ [r.1.d] := by rw [List.take_add_one, hk]; rfl
      rw [ek']
      exact (ry.mono st2.mono).append (.cons rep2 .nil)
  case done =>
    rintro s' ⟨kA, e, H1, F1, ys, I1, st1, vy, ry⟩
    have e3 : ks.take (0 + its.length) = ks := List.take_of_length_le (by omega)
    rw [e3] at ry
    have pk := I1.pin (kS, seqObj "list" kA e) (by simp)
    have pa := I1.pin (a, seqObj "list" #[] e1) (by simp)
    have hys := vy.length
    have hyk := ry.length
    have hsz : kA.size = its.length := by
      have h4 : kA.toList.length = kA.size := Array.length_toList
      have h5 : ys.length = kA.toList.length := hys
      omega
    refine wpAny_bind (listItems_at pk.1 rfl ?_)
    obtain ⟨g, g1, g2⟩ := freed_get s'.heap kS
    have hks : ks.map (fun d => d) = ks := List.map_id' ks
    obtain ⟨a1, a2, a3, a4, a5⟩ := sortOk_use (bs := ks) (k := fun d => d) (by rw [hks]; exact hok)
    rw [hks] at a5
    have hk' : PySem.W.EachIs (fun v d => ∃ as, Reads s'.heap v d as) kA.toList (ks.map py) := by
      have aux : ∀ {ys : List V} {us : List Value} {ks : List D}, Vals ys us → Reps X.K F1 ys ks → dataL ks = true → PySem.W.EachIs (fun v d => ∃ as, Reads s'.heap v d as) us (ks.map py) := by
        intro ys us ks vy ry hd
        induction ks generalizing ys us with
        | nil => cases ry; cases vy; exact .nil
        | cons d ds ih =>
          cases ry with
          | cons r1 r2 =>
            cases vy with
            | cons v1 v2 =>
              simp [dataL] at hd
              exact .cons ((Rep.dp st1.rel.sub r1 hd.1).1.reads I1 _ _ _ v1) (ih v2 r2 hd.2)
      exact aux vy ry a5
    refine PySem.W.keyH_end (κ := PySem.W.dataKind s'.heap (ks.map py)) (h₁ := g) (fun b o hb q => ?_) g1 pk.1 pa.1 hka (PySem.W.SortsAt.data (s := s') hk' a1 a2 fun d hd => ?_) hsz (by omega) fun h3 tk3 c k3 n3 => ?_
    · have : b ≠ kS := fun z => by rw [z, g1] at q; cases q
      rw [g2 b this] at q
      exact q
    · obtain ⟨d', hd', rfl⟩ := List.mem_map.mp hd
      have := a4 d' hd'
      show X.A.units + 1 + 1 + _ < _
      omega
    · have ko : PySem.W.KeyedOut false (ks.map py) its _ := ⟨s'.heap, kA.toList, a1, rfl, hk'⟩
      -- the items with their keys
      have each : PySem.W.EachIs (fun u (p : (D × D) × V) => RelV p.2 u ∧ Rep X.K F1 p.2 p.1.1) its ((ds.zip ks).zip xs) := by
        have aux : ∀ {xs : List V} {us : List Value} {ds ks : List D}, Vals xs us → Reps X.K F1 xs ds → ks.length = ds.length → PySem.W.EachIs (fun u (p : (D × D) × V) => RelV p.2 u ∧ Rep X.K F1 p.2 p.1.1) us ((ds.zip ks).zip xs) := by
          intro xs us ds ks rv rp hl
          induction ds generalizing xs us ks with
          | nil => cases rp; cases rv; cases ks <;> exact .nil
          | cons d ds ih =>
            cases rp with
            | cons r1 r2 =>
              cases rv with
              | cons v1 v2 =>
                cases ks with
                | nil => simp at hl
                | cons q ks => exact .cons ⟨v1, r1⟩ (ih v2 r2 (by simpa using hl))
        exact aux rv (rp.mono st1.mono) hl3
      have hkz : ((ds.zip ks).zip xs).map (fun p => py p.1.2) = ks.map py := by
        have aux : ∀ {ds ks : List D} {xs : List V}, ks.length = ds.length → xs.length = ds.length → ((ds.zip ks).zip xs).map (fun p => py p.1.2) = ks.map py := by
          intro ds
          induction ds with
          | nil => intro ks xs h1 h2; rw [List.eq_nil_of_length_eq_zero h1]; rfl
          | cons d ds ih =>
            intro ks xs h1 h2
            cases ks with
            | nil => simp at h1
            | cons q ks =>
              cases xs with
              | nil => simp at h2
              | cons x xs => simp only [List.zip_cons_cons, List.map_cons]; rw [ih (by simpa using h1) (by simpa using h2)]
        exact aux hl3 hl2
      rw [← hkz] at ko
      have eo := PySem.W.keyedOut_each (R := fun u (p : (D × D) × V) => RelV p.2 u ∧ Rep X.K F1 p.2 p.1.1) (fun p => py p.1.2) ko each
      have eb : ∀ {us : List Value} {ps : List ((D × D) × V)}, PySem.W.EachIs (fun u (p : (D × D) × V) => RelV p.2 u ∧ Rep X.K F1 p.2 p.1.1) us ps → Vals (ps.map (·.2)) us ∧ Reps X.K F1 (ps.map (·.2)) (ps.map (·.1.1)) := by
        intro us ps h
        induction h with
        | nil => exact ⟨.nil, .nil⟩
        | cons h t ih => exact ⟨.cons h.1 ih.1, .cons h.2 ih.2⟩
      obtain ⟨v1, v2⟩ := eb eo
      rw [hkz] at v1
      have hfst : (((ds.zip ks).zip xs).mergeSort (PySem.W.dataLe false fun p => py p.1.2)).map (·.1.1) = ((ds.zip ks).mergeSort fun p q => leB p.2 q.2).map (·.1) := by
        have h1 := sort_fst (fun p q : D × D => leB p.2 q.2) ((ds.zip ks).zip xs)
        rw [zip_fst (by rw [List.length_zip]; omega)] at h1
        have h2 := congrArg (List.map (·.1)) h1
        rw [List.map_map] at h2
        exact h2
      rw [hfst] at v2
      have hlen : (PySem.W.sortVals (PySem.W.dataKind s'.heap (ks.map py)) false kA.toList its).length = its.length := PySem.W.sortVals_length false (by rw [Array.length_toList]; exact hsz)
      have I2 : Inv X pins σ H1 s' := I1.unpinned
      have fa' : FpOk X pins H1 a := ⟨pa.2.1, fa.2⟩
      have fk' : FpOk X pins H1 kS := ⟨pk.2.1, fk.2⟩
      refine hP { s' with heap := h3, toks := tk3 } H1 F1 _ (Inv.adopt I2 fa' fk' (fun b u hba hbk q => k3 b u hba ((g2 b hbk).trans q)) ⟨_, n3⟩ ⟨?_, _, c, v1, n3⟩) st1 pa.2.1 v2
      rw [v1.length, hlen]
      omega
end
end Wk
end

section
/-! W15: sorted by a def's answers, as a rule; min and max of lists. -/
namespace Wk
open PySem PySem.Spec PyProof.Rows L2

section
variable {X : Cx} {k : Nat} {f : Addr} {fd : FuncData} {ps : List Str} {m : FS}
theorem rk_sorted (hcalm : X.calm = true) (hu : X.A.units + 128 < cLine) (FO : FnOk X.prog X.w X.K X.mg X.base CX0 k f fd ps (spF X.K [] 1 m)) (hb : Binds X.K fd ps []) (hr : Room (k + 2) X.A) :
    CallRK X (.builtin "sorted") [Str.ofString "key"] (rSortK X.K f (g1 (sortKD m))) := by
  rintro pins s σ H xs zs us ws Q I r rz ⟨ez, F, vs, w, sF, hvs, e0, q⟩
  subst ez
  obtain ⟨wf, rfl, rf⟩ := vals1 rz
  obtain rfl : wf = Value.ref f := rf
  obtain ⟨⟨ao, ad⟩, rfl, e⟩ := g1_inv e0
  clear e0
  obtain ⟨x, rfl, hx⟩ := hvs.one
  change sortKD m ad = some w at e
  unfold sortKD at e
  split at e
  · rename_i ds
    cases ek : keysM m ds with
    | none => rw [ek] at e; cases e
    | some ks =>
      rw [ek] at e
      simp only [Option.bind_some] at e
      split at e
      · rename_i hok
        injection e with e; subst e
        obtain ⟨l, vs, ex, hH, rp⟩ := hx.lst sF
        subst ex
        obtain ⟨u, rfl, rx⟩ := vals1 r
        obtain rfl : u = Value.ref l := rx
        obtain ⟨its, rv, pl, hz⟩ := I.list (.of hH)
        have hl1 := rv.length
        have ho : (PySem.W.copyHeap s.heap its).get? (s.heap.objs.size + 1) = some _ := PySem.W.copyHeap_at s.heap its
        refine PySem.W.sorted_of_sort pl.isList (by omega) (ksk_s1 _ _) (fun _ => ksk_l1 _ _) fun E' => ?_
        show wpAny _ _ (Builtin.«list.sort» ⟨[.ref (s.heap.objs.size + 1)], [(Str.ofString "key", .ref f)]⟩) _ _ _
        rw [ksk_t1]
        obtain ⟨e1, ho1⟩ : ∃ e1, ((PySem.W.copyHeap s.heap its).update (s.heap.objs.size + 1) (Obj.mapSeq fun _ => (#[] : Array Value))).get? (s.heap.objs.size + 1) = some (seqObj "list" #[] e1) := ⟨_, get?_update_seq ho fun _ => #[]⟩
        have hsz : s.heap.objs.size + 1 < (PySem.W.copyHeap s.heap its).objs.size := Heap.lt_size ho
        have hkS : (((PySem.W.copyHeap s.heap its).update (s.heap.objs.size + 1) (Obj.mapSeq fun _ => (#[] : Array Value))).push (seqObj "tuple" its.toArray 0)).objs.size = (PySem.W.copyHeap s.heap its).objs.size + 1 := by rw [size_push', Heap.size_update]
        unfold ksk_tree
        refine wpAny_bind (listItems_at (s := { s with heap := PySem.W.copyHeap s.heap its }) ho rfl ?_)
        refine wpAny_bind (listUpdate_at (s := { s with heap := PySem.W.copyHeap s.heap its }) ho rfl ?_ (by rw [List.size_toArray]; omega) (Nat.zero_le _))
        refine wpAny_bind (seqEpoch_at ho1 rfl ?_)
        refine wpAny_bind (wpAny_newTuple ?_ (by show its.length ≤ _; omega))
        refine wpAny_bind (wpAny_newList ?_ (Nat.zero_le _))
        refine wpAny_holding ?_
        have kp : ∀ b o, s.heap.get? b = some o → ((((PySem.W.copyHeap s.heap its).update (s.heap.objs.size + 1) (Obj.mapSeq fun _ => (#[] : Array Value))).push (seqObj "tuple" its.toArray 0)).push (seqObj "list" #[] 0)).get? b = some o := fun b o e => by
          have hb : b ≠ s.heap.objs.size + 1 := Nat.ne_of_lt (Nat.lt_succ_of_lt (Heap.lt_size e))
          exact Heap.get?_push_of_some _ (Heap.get?_push_of_some _ (((Heap.SameBut.update (PySem.W.copyHeap s.heap its) (s.heap.objs.size + 1) (Obj.mapSeq fun _ => (#[] : Array Value))).2 b hb).trans (PySem.W.copyHeap_old e)))
        have I1 : Inv X pins σ H { s with heap := (((PySem.W.copyHeap s.heap its).update (s.heap.objs.size + 1) (Obj.mapSeq fun _ => (#[] : Array Value))).push (seqObj "tuple" its.toArray 0)).push (seqObj "list" #[] 0), toks := s.toks } := I.kept kp
        have fa : FpOk X pins H (s.heap.objs.size + 1) := I.fpOk (Nat.le_succ _) (I.hok.fresh (Nat.le_succ _))
        have hle : s.heap.objs.size ≤ (((PySem.W.copyHeap s.heap its).update (s.heap.objs.size + 1) (Obj.mapSeq fun _ => (#[] : Array Value))).push (seqObj "tuple" its.toArray 0)).objs.size := by omega
        have fk : FpOk X pins H (((PySem.W.copyHeap s.heap its).update (s.heap.objs.size + 1) (Obj.mapSeq fun _ => (#[] : Array Value))).push (seqObj "tuple" its.toArray 0)).objs.size := I.fpOk hle (I.hok.fresh hle)
        refine key_rest (e1 := e1) (F := F) (σ := σ) (pins := pins) hcalm hu FO hb hr (by rw [hkS]; exact Nat.ne_of_gt (Nat.lt_succ_of_lt hsz)) ?_ fa fk sF rv rp hz ek hok fun s' H' F' ys I' st hn ry => ⟨rfl, ?_⟩
        · exact I1.pins_of fun p hp => by
            rcases List.mem_append.mp hp with hp | hp
            · exact I1.pin p (List.mem_append_right _ hp)
            · rcases List.mem_cons.mp hp with e | hp
              · subst e
                exact ⟨Heap.get?_push_size _ rfl, fk.1, fk.2.1, fk.2.2.1, fun v z => by cases z⟩
              · have e : p = (s.heap.objs.size + 1, seqObj "list" #[] e1) := by simpa using hp
                subst e
                exact ⟨Heap.get?_push_of_some _ (Heap.get?_push_of_some _ ho1), fa.1, fa.2.1, fa.2.2.1, fun v z => by cases z⟩
        · obtain ⟨F2, s2⟩ := Stp.new (K := X.K) (F := F') (H := H') (o := .lst ys) (v := ow (.lst _)) st.rel.sub hn (.inl ⟨rfl, ys, upd_same, ry⟩)
          exact ⟨.ref _, _, I', rfl, q _ _ _ (st.trans s2)⟩
      · cases e
  · cases e
end
theorem tA_mono {K : PySem.W.Frag} {os : List Opd} {σ : L2.St} {H : Hp} {Q Q' : List V → Hp → Prop} (h : tA K os σ H Q) (i : ∀ xs H, Q xs H → Q' xs H) : tA K os σ H Q' := by
  obtain ⟨env, L, F, ovs, env', z, rel, e, q⟩ := h
  exact ⟨env, L, F, ovs, env', z, rel, e, fun xs T L' F' H' z s m => i _ _ (q xs T L' F' H' z s m)⟩
/-- a def that may be called by its name -/
structure CalW (P : Program) (w : World) (K : PySem.W.Frag) (mg : Str → Option Value) (base : Heap) (k : Nat) (x : Str) (io : List Nat) (np : Nat) (m : FS) : Prop where
  ex : ∃ (f : Addr) (fd : FuncData) (ps : List Str), FnOk P w K mg base CX0 k f fd ps (spF K io np m) ∧ mg x = some (.ref f) ∧ PySem.W.keepIn K (.ref f) = true ∧ Binds K fd ps []
/-- sorted(xs, key=f) -/
theorem ie_sortK {X : Cx} {k j : Nat} {y : Str} {m : FS} {e : Expr} {o : Opd} {p pos kpos kp2 : Pos} (hcalm : X.calm = true) (hu : X.A.units + 128 < cLine) (c : CalW X.prog X.w X.K X.mg X.base k y [] 1 m) (hr : Room j X.A) (hk : k + 2 ≤ j) (hg : Gl X "sorted") (hm : X.mg "sorted" = none) (hgy : Gl X y) (he : IO X e o)
    (hdb : (y == ("__debug__" : Str)) = false := by decide)
    (hst : starEach [e] X.env = (false, eval e X.env) :: starEach [] X.env := by rfl) (hbe : backTo pos (starEach [e] X.env) = (false, eval e X.env) :: backTo pos (starEach [] X.env) := by rfl) (hpl : (backTo pos (starEach [e] X.env)).any (·.1) = false := by rfl)
    (hall : (backToKw pos (keywordEach [⟨some "key", .Name y kpos, kp2⟩] X.env)).all (·.1.isSome) = true := by rfl) (hnone : (backToKw pos (keywordEach [⟨some "key", .Name y kpos, kp2⟩] X.env)).any (·.1.isNone) = false := by rfl) (hks : (backToKw pos (keywordEach [⟨some "key", .Name y kpos, kp2⟩] X.env)).filterMap (·.1) = [Str.ofString "key"] := by rfl) :
    IE X (.Call (.Name "sorted" p) [e] [⟨some "key", .Name y kpos, kp2⟩] pos) (eApp (g1 (sortKD m)) [o]) := by
  obtain ⟨f, fd, ps, FO, hmy, kp, b⟩ := c.ex
  refine PE.imp (pe_callBK (rk_sorted hcalm hu FO b (hr.mono hk)) hg hm boot_sorted (ia_cons he ia_nil hst) (pk_cons (pe_glob (v := .ref f) hgy hmy rfl hdb) pk_nil) (by decide) (by decide) hbe hpl hall hnone hks) fun σ H Q h => ?_
  exact tA_mono (app_core ok_gL h) fun xs H1 q => ⟨rfl, q⟩
end Wk
end

section
/-! W16: isinstance, min, max, methods, displays, calls. -/
namespace Wk
open PySem PySem.Spec PyProof.Rows L2

/-! ### isinstance -/
def tyN : D → String
  | .non => "NoneType"
  | .bl _ => "bool"
  | .int _ => "int"
  | .str _ => "str"
  | .tup _ => "tuple"
  | .lst _ => "list"
  | .scr _ => "list"
  | .dct _ _ => "dict"
  | .obj _ _ _ => ""
def subTy (a b : String) : Bool := a == b || (a == "bool" && b == "int")
def isiD (Ts : List String) : D → Option Val
  | .obj _ _ _ => none
  | d => some (fz (.bl (Ts.any fun T => subTy (tyN d) T)))
def kitTs : List String := ["tuple", "list", "bool", "int", "str", "dict"]
theorem kit_all : (["NoneType", "bool", "int", "str", "tuple", "list", "dict"].all fun a => kitTs.all fun b => decide (kitB a b = some (subTy a b))) = true := by decide +kernel
theorem tyN_mem {d : D} (h : tyN d ≠ "") : tyN d ∈ ["NoneType", "bool", "int", "str", "tuple", "list", "dict"] := by
  cases d <;> simp [tyN] at h ⊢
theorem kit_sub {K : PySem.W.Frag} {d : D} (h : tyN d ≠ "") {T : String} (hT : T ∈ kitTs) : PySem.W.kitOne K (.type (tyN d)) (.type T) = some (subTy (tyN d) T) :=
  kit_ty (of_decide_eq_true (List.all_eq_true.mp (List.all_eq_true.mp kit_all _ (tyN_mem h)) _ hT))
theorem kit_subs {K : PySem.W.Frag} {d : D} (h : tyN d ≠ "") : ∀ {Ts : List String}, (∀ T ∈ Ts, T ∈ kitTs) → PySem.W.kitAny K (.type (tyN d)) (Ts.map Value.type) = some (Ts.any fun T => subTy (tyN d) T)
  | [], _ => rfl
  | T :: Ts, hT => by
    rw [List.map_cons, List.any_cons]
    refine kitAny_cons (kit_sub h (hT T List.mem_cons_self)) (fun hb => ?_) fun hb => by rw [hb]; rfl
    rw [hb, Bool.false_or]
    exact kit_subs h fun T' h' => hT T' (List.mem_cons_of_mem _ h')
theorem SqT.tyx {K : PySem.W.Frag} {H : Hp} {a : Addr} {vs : List V} (h : SqT K H a vs) : TyX K H (.ref a) (.type "tuple") := by
  rcases h with (h | ⟨o, h⟩) | ⟨o, its, n, hk, hc, _⟩
  · exact .base (.tup h)
  · exact .fTuple h
  · exact .kTuple hk hc
theorem SqL.tyx {K : PySem.W.Frag} {H : Hp} {a : Addr} {vs : List V} (h : SqL K H a vs) : TyX K H (.ref a) (.type "list") := by
  rcases h with (h | ⟨o, h⟩) | ⟨o, its, n, hk, hc, _⟩
  · exact .base (.lst h)
  · exact .base (.frz h)
  · exact .kList hk hc
theorem VOk.tyx {K : PySem.W.Frag} {F H : Hp} {x : V} {v : Val} (s : Same F H) (h : VOk K F H x v) (hn : tyN v.d ≠ "") : TyX K H x (.type (tyN v.d)) := by
  obtain ⟨o, d⟩ := v
  cases d with
  | non => rw [h.non]; exact .base .non
  | bl b => rw [h.bl]; exact .base (.bl b)
  | int i => rw [h.int]; exact .base (.int i)
  | str t => rw [h.str.1]; exact .base (.str _)
  | tup xs => obtain ⟨a, vs, rfl, _, hH, _⟩ := h.tup s; exact SqT.tyx hH
  | lst xs => obtain ⟨a, vs, rfl, hH, _⟩ := h.lst s; exact .base (.lst hH)
  | scr xs => obtain ⟨a, vs, rfl, _, hH, _⟩ := h.scr s; exact SqL.tyx hH
  | dct ks vs => obtain ⟨a, kvs, rfl, hH, _⟩ := h.dct s; exact .base (.dK hH)
  | obj c ns vs => exact absurd rfl hn
theorem isiD_inv {Ts : List String} {d : D} {v : Val} (h : isiD Ts d = some v) : tyN d ≠ "" ∧ v = fz (.bl (Ts.any fun T => subTy (tyN d) T)) := by
  cases d <;> simp [isiD] at h <;> exact ⟨by simp [tyN], h.symm⟩
/-- an object that nobody reads -/
theorem Stp.junk {K : PySem.W.Frag} {F H : Hp} {p : Addr} {o : HO} (s : Same F H) (hp : H p = none) : Stp K [] F H [] F (upd H p o) :=
  ⟨⟨s.trans (same_upd hp), (fun _ h => by cases h), List.nodup_nil⟩, Same.refl _, fun a z e _ => ⟨(same_upd hp) _ _ e, fun x => x⟩, fun _ h => by cases h⟩
theorem VOk.same {K : PySem.W.Frag} {F H H' : Hp} {x : V} {v : Val} (h : VOk K F H x v) (s : Same H H') : VOk K F H' x v := h.kept (Same.refl _) fun a o _ _ e => ⟨s _ _ e, fun z => z⟩
theorem tO_mono {K : PySem.W.Frag} {o : Opd} {σ : L2.St} {H : Hp} {Q Q' : VK} (h : tO K o σ H Q) (i : ∀ x H, Q x H → Q' x H) : tO K o σ H Q' := by
  cases o with
  | e f =>
    obtain ⟨env, L, F, v, env', z, rel, e, q⟩ := h
    exact ⟨env, L, F, v, env', z, rel, e, fun x L' F' H' z s => i x H' (q x L' F' H' z s)⟩
  | s j => obtain ⟨v, e, q⟩ := h; exact ⟨v, e, i v H q⟩
section
variable {X : Cx} {e : Expr} {es : List Expr} {o : Opd} {p pos tpos : Pos} {x : Str}
/-- a name of a built-in type -/
theorem pe_tyN {T : String} {x : Str} (hx : bootBuiltins x = some (.type T)) (hg : Gl X x) (hm : X.mg x = none) (hn : x ≠ "__name__" := by decide) (hd : (x == ("__debug__" : Str)) = false := by decide) : PE X (.Name x pos) (tC (.ty T)) := pe_bltn hg hm hx rfl hn hd
theorem ie_isi {T : String} {x : Str} (hg : Gl X "isinstance") (hm : X.mg "isinstance" = none) (he : IO X e o) (hx : bootBuiltins x = some (.type T)) (hgx : Gl X x) (hmx : X.mg x = none) (hT : T ∈ kitTs) (hn : x ≠ "__name__" := by decide) (hd : (x == ("__debug__" : Str)) = false := by decide)
    (hs : starEach [e, .Name x p] X.env = (false, eval e X.env) :: starEach [.Name x p] X.env := by rfl) (hs2 : starEach [.Name x p] X.env = (false, eval (.Name x p) X.env) :: starEach [] X.env := by rfl) (hpl : (backTo pos (starEach [.Name x p] X.env)).any (·.1) = false := by rfl) :
    IE X (.Call (.Name "isinstance" tpos) [e, .Name x p] [] pos) (eApp (g1 (isiD [T])) [o]) := by
  refine PE.imp (pe_callB call_isi hg hm PyProof.Rows.boot_isinstance (pa_cons he (pa_cons (pe_tyN hx hgx hmx hn hd) pa_nil hs2) hs) (by decide) (by decide) hs hpl) fun σ H Q h => ?_
  have h1 := tA_cons (app_core ok_gL h)
  refine tO_mono h1 fun x' H1 h2 => ?_
  obtain ⟨F, vs, w, sF, hvs, e0, q⟩ := tA_nil h2
  obtain ⟨a, rfl, ea⟩ := g1_inv e0
  obtain ⟨x'', ex, hx'⟩ := hvs.one
  injection ex with ex _
  subst ex
  obtain ⟨hn', ew⟩ := isiD_inv ea
  subst ew
  exact ⟨x', .ty T, .type (tyN a.d), .type T, subTy (tyN a.d) T, rfl, .ty T, hx'.tyx sF hn', kit_sub hn' hT, by simpa using old_fz sF q (.bl _)⟩
/-- names of built-in types in a row -/
inductive TyNs (X : Cx) : List Expr → List String → Prop
  | nil : TyNs X [] []
  | cons {e : Expr} {es : List Expr} {T : String} {Ts : List String} : PE X e (tC (.ty T)) → T ∈ kitTs → starEach (e :: es) X.env = (false, eval e X.env) :: starEach es X.env → TyNs X es Ts → TyNs X (e :: es) (T :: Ts)
def tTys : List String → TA
  | [] => tNil
  | T :: Ts => tCons (tC (.ty T)) (tTys Ts)
theorem TyNs.pa {es : List Expr} {Ts : List String} (h : TyNs X es Ts) : PA X es (tTys Ts) := by
  induction h with
  | nil => exact pa_nil
  | cons h1 _ h2 _ ih => exact pa_cons h1 ih h2
theorem TyNs.mem {es : List Expr} {Ts : List String} (h : TyNs X es Ts) : ∀ T ∈ Ts, T ∈ kitTs := by
  induction h with
  | nil => intro T h; cases h
  | cons _ h1 _ _ ih =>
    intro T h
    rcases List.mem_cons.mp h with rfl | h
    · exact h1
    · exact ih T h
theorem tTys_run {Ts : List String} {σ : L2.St} {H : Hp} {Q : List V → Hp → Prop} (h : Q (Ts.map V.ty) H) : tTys Ts σ H Q := by
  induction Ts generalizing Q with
  | nil => exact h
  | cons T Ts ih => exact ih (Q := fun xs H1 => Q (.ty T :: xs) H1) h
theorem clsV_all : ∀ Ts : List String, Paired ClsV (Ts.map V.ty) (Ts.map Value.type)
  | [] => .nil
  | T :: Ts => .cons (.ty T) (clsV_all Ts)
theorem ie_isiT {k : Nat} {Ts : List String} (hg : Gl X "isinstance") (hm : X.mg "isinstance" = none) (he : IO X e o) (hes : TyNs X es Ts) (hl : Ts.length ≤ sizeLine := by decide)
    (hs : starEach [e, .Tuple es k tpos] X.env = (false, eval e X.env) :: starEach [.Tuple es k tpos] X.env := by rfl) (hs2 : starEach [.Tuple es k tpos] X.env = (false, eval (.Tuple es k tpos) X.env) :: starEach [] X.env := by rfl)
    (hpl : (backTo pos (starEach [.Tuple es k tpos] X.env)).any (·.1) = false := by rfl) :
    IE X (.Call (.Name "isinstance" p) [e, .Tuple es k tpos] [] pos) (eApp (g1 (isiD Ts)) [o]) := by
  refine PE.imp (pe_callB call_isiT hg hm PyProof.Rows.boot_isinstance (pa_cons he (pa_cons (pe_tup hes.pa) pa_nil hs2) hs) (by decide) (by decide) hs hpl) fun σ H Q h => ?_
  have h1 := tA_cons (app_core ok_gL h)
  refine tO_mono h1 fun x' H1 h2 => ?_
  obtain ⟨F, vs, w, sF, hvs, e0, q⟩ := tA_nil h2
  obtain ⟨a, rfl, ea⟩ := g1_inv e0
  obtain ⟨x'', ex, hx'⟩ := hvs.one
  injection ex with ex _
  subst ex
  obtain ⟨hn', ew⟩ := isiD_inv ea
  subst ew
  refine tTys_run ⟨by rw [List.length_map]; exact hl, fun tp htp => ?_⟩
  have st := Stp.junk (K := X.K) (o := .tup (Ts.map V.ty)) sF htp
  exact ⟨x', tp, Ts.map V.ty, .type (tyN a.d), Ts.map Value.type, _, rfl, upd_same, clsV_all Ts, (hx'.same (same_upd htp)).tyx st.rel.sub hn', kit_subs hn' hes.mem, q _ _ _ (st.trans (Stp.val st.rel.sub (.bl _)))⟩
end
end Wk
end

section
/-! W17: methods, displays, calls, slices. -/
namespace Wk
open PySem PySem.Spec PyProof.Rows L2

/-! ### methods that read -/
def tyAt (ty : D → Bool) (o : Opd) (env : En) : Bool := match o with
  | .e f => (match f env with | some p => ty p.1.d | none => false)
  | .s i => (match env[i]? with | some (some v) => ty v.d | _ => false)
def eMeth (ty : D → Bool) (g : Fn) (o : Opd) (os : List Opd) : XE := fun env => if tyAt ty o env = true then eApp g (o :: os) env else none
def rGM (K : PySem.W.Frag) (g : Fn) : V → List V → Hp → VK → Prop := fun x xs H Q => rGL K g (x :: xs) H Q
/-- where ty holds of the datum the value is of that type -/
def TyG (X : Cx) (T : String) (ty : D → Bool) : Prop := ∀ (pins : List (Addr × Obj)) (σ : L2.St) (F H : Hp) (s : Shared) (x : V) (u : Value) (v : Val), Inv X pins σ H s → Same F H → VOk X.K F H x v → RelV x u → ty v.d = true →
  s.TypeIs u T ∧ ∀ a, u = .ref a → ∃ ob, s.heap.get? a = some ob ∧ ob.dict = none
def tyG (K : PySem.W.Frag) (ty : D → Bool) (x : V) (H : Hp) : Prop := ∃ F v, Same F H ∧ VOk K F H x v ∧ ty v.d = true
theorem TyG.ok {X : Cx} {T : String} {ty : D → Bool} (h : TyG X T ty) : TyOk X T (tyG X.K ty) := fun pins σ H s x u I r ⟨F, v, sF, hv, e⟩ => h pins σ F H s x u v I sF hv r e
theorem meth_core {K : PySem.W.Frag} {ty : D → Bool} {g : Fn} {o : Opd} {os : List Opd} {σ : L2.St} {H : Hp} {Q : VK} (h : tE K (eMeth ty g o os) σ H Q) : tO K o σ H fun x H1 => tyG K ty x H1 ∧ tA K os σ H1 fun xs H2 => rGM K g x xs H2 Q := by
  obtain ⟨env, L, F, v, env', z, rel, e, q⟩ := h
  unfold eMeth at e
  split at e
  · rename_i ht
    have h1 := tA_cons (app_core (r := rGL K g) ok_gL (⟨env, L, F, v, env', z, rel, e, q⟩ : tE K (eApp g (o :: os)) σ H Q))
    -- the same witness, kept
    have e' := e
    unfold eApp at e'
    cases o with
    | e f =>
      unfold tyAt at ht
      cases e1 : f env with
      | none => simp [e1] at ht
      | some p =>
        obtain ⟨v1, env1⟩ := p
        simp only [e1] at ht
        cases e2 : evs os env1 with
        | none => simp [evs, e1, e2] at e'
        | some p2 =>
          obtain ⟨ovs, env2⟩ := p2
          simp [evs, e1, e2] at e'
          cases e3 : valsO env2 (.t v1 :: ovs) with
          | none => simp [e3] at e'
          | some vs =>
            simp [e3] at e'
            cases e4 : g vs with
            | none => simp [e4] at e'
            | some w =>
              simp [e4] at e'
              obtain ⟨e5, e6⟩ := e'
              subst e5 e6
              refine ⟨env, L, F, v1, env1, z, rel, e1, fun x L1 F1 H1 z1 s1 => ⟨⟨F1, v1, s1.rel.sub, s1.rel.ok _ List.mem_cons_self, ht⟩, ?_⟩⟩
              refine ⟨env1, L1, F1, ovs, env2, z1, s1.rel.tail, e2, fun xs T L' F' H' z2 s2 m => ?_⟩
              have s3 := s1.trans (s2.frame1 s1.rel)
              refine ⟨F', vs, w, s3.rel.sub, ?_, e4, fun y F3 H3 s4 => ?_⟩
              · exact vals_ok z2 (fun p hp => s3.rel.ok p (List.mem_cons_of_mem _ (List.mem_append_right _ hp))) (.t m) (fun p hp => s3.rel.ok p (List.mem_append_left _ hp)) e3
              · have s5 : Stp K (((v1, x) :: T) ++ L') F' H' ((w, y) :: (((v1, x) :: T) ++ L')) F3 H3 := s4.frame (L := []) (T := ((v1, x) :: T) ++ L') s3.rel
                exact q y L' F3 H3 z2 ((s3.trans s5).less ((List.sublist_append_right ((v1, x) :: T) L').cons_cons _))
    | s i =>
      unfold tyAt at ht
      simp only at ht
      split at ht
      · rename_i v0 hv0
        obtain ⟨x, hx, hm⟩ := z.at hv0
        obtain ⟨y, ey, h2⟩ := h1
        rw [hx] at ey
        injection ey with ey; injection ey with ey
        subst ey
        exact ⟨x, hx, ⟨F, v0, rel.sub, rel.ok _ hm, ht⟩, h2⟩
      · cases ht
  · cases e
def isStrB : D → Bool
  | .str _ => true
  | _ => false
def isLstB : D → Bool
  | .lst _ => true
  | _ => false
def isTuB : D → Bool
  | .tup _ => true
  | _ => false
def isDctB : D → Bool
  | .dct _ _ => true
  | _ => false
theorem ty_str {X : Cx} : TyG X "str" isStrB := by
  rintro pins σ F H s x u ⟨o, d⟩ I sF hv r e
  change isStrB d = true at e
  unfold isStrB at e
  split at e
  · obtain ⟨ex, _⟩ := hv.str
    subst ex
    obtain ⟨t, rfl⟩ := r
    exact ⟨typeIs_str s _ t, fun _ e => nomatch e⟩
  · cases e
theorem ty_lst {X : Cx} : TyG X "list" isLstB := by
  rintro pins σ F H s x u ⟨o, d⟩ I sF hv r e
  change isLstB d = true at e
  unfold isLstB at e
  split at e
  · obtain ⟨a, vs, ex, hH, _⟩ := hv.lst sF
    subst ex
    obtain rfl : u = Value.ref a := r
    obtain ⟨z, its, n, _, _, e⟩ := I.lstM hH
    exact ⟨⟨_, e, rfl⟩, fun b eb => by cases eb; exact ⟨_, e, rfl⟩⟩
  · cases e
theorem ty_dct {X : Cx} : TyG X "dict" isDctB := by
  rintro pins σ F H s x u ⟨o, d⟩ I sF hv r e
  change isDctB d = true at e
  unfold isDctB at e
  split at e
  · obtain ⟨a, vs, ex, hH, _⟩ := hv.dct sF
    subst ex
    obtain rfl : u = Value.ref a := r
    have g : DGet H a (kV (.inl 0)) (valV vs (.inl 0)) := .k hH
    exact ⟨dict_typeIs I g, dict_noDict I g⟩
  · cases e
abbrev MtG (X : Cx) (id : String) (g : Fn) : Prop := MtR X id (rGM X.K g)
section
variable {X : Cx} {o e : Expr} {es : List Expr} {oo : Opd} {os : List Opd} {name : Str} {apos cpos : Pos} {T id : String} {ty : D → Bool} {g : Fn}
theorem ie_meth0 (ht : TyG X T ty) (pa : PlainAttrs T) (slot : Slot T name id) (hty : typeOf (.builtin id) = pure (.type "method_descriptor")) (hm : MtG X id g) (ho : IO X o oo)
    (hbase : attributeBase o name X.env (eval o X.env) = eval o X.env := by rfl) (hline : (apos.endLine == cpos.line) = true := by rfl) : IE X (.Call (.Attribute o name apos) [] [] cpos) (eMeth ty g oo []) :=
  PE.imp (pe_mG0 ht.ok pa slot hty hm ho hbase hline) fun σ H Q h => tO_mono (meth_core h) fun x H1 ⟨h1, h2⟩ => ⟨h1, tA_nil h2⟩
theorem ie_meth (ht : TyG X T ty) (pa : PlainAttrs T) (slot : Slot T name id) (hty : typeOf (.builtin id) = pure (.type "method_descriptor")) (hm : MtG X id g) (ho : IO X o oo) (ha : IA X (e :: es) os)
    (hbase : attributeBase o name X.env (eval o X.env) = eval o X.env := by rfl)
    (hfew : ((backTo cpos (starEach (e :: es) X.env)).all (fun x => !x.1) && (backToKw cpos (keywordEach [] X.env)).all (fun x => x.1.isSome)
      && decide ((e :: es).length + ([] : List Keyword).length + (if ([] : List Keyword).isEmpty then 0 else 1) < 30)) = true := by rfl)
    (hline : (apos.endLine == cpos.line) = true := by rfl) (hs : starEach (e :: es) X.env = (false, eval e X.env) :: starEach es X.env := by rfl) (hplain : (backTo cpos (starEach es X.env)).any (·.1) = false := by rfl) :
    IE X (.Call (.Attribute o name apos) (e :: es) [] cpos) (eMeth ty g oo os) :=
  PE.imp (pe_mG ht.ok pa slot hty hm ho ha hbase hfew hline hs hplain) fun σ H Q h => tO_mono (meth_core h) fun x H1 h1 => h1
end
/-- texts -/
def startsD : D → D → Option Val
  | .str s, .str t => some (fz (.bl (t.isPrefixOf s)))
  | _, _ => none
theorem starts_eq (s t : List Nat) : Txt.startswith ⟨s.toArray⟩ ⟨t.toArray⟩ = t.isPrefixOf s := by
  unfold Txt.startswith
  rw [PySem.StrLaws.subAt_eq, str_len, str_len]
  rw [Bool.eq_iff_iff]
  simp only [Bool.and_eq_true, decide_eq_true_eq, beq_iff_eq, str_cps, List.drop_zero, Nat.zero_add]
  rw [List.isPrefixOf_iff_prefix]
  constructor
  · rintro ⟨_, h⟩
    rw [← h]
    exact List.take_prefix _ _
  · intro h
    obtain ⟨r, rfl⟩ := h
    simp
theorem mg_starts {X : Cx} : MtG X "str.startswith" (g2 startsD) := by
  rintro pins s σ H x xs v us Q I rx rs ⟨F, vs, w, sF, hvs, e0, q⟩
  obtain ⟨⟨ao, ad⟩, ⟨bo, bd⟩, rfl, e⟩ := g2_inv e0
  clear e0
  obtain ⟨x', y, ex, hx, hy⟩ := hvs.two
  injection ex with e1 e2
  subst e1 e2
  change startsD ad bd = some w at e
  unfold startsD at e
  split at e
  · injection e with e; subst e
    refine mt_startswith pins s σ H _ _ v us Q I rx rs ⟨_, _, hx.str.1, by rw [hy.str.1], ?_⟩
    rw [starts_eq]
    exact old_fz sF q (.bl _)
  · cases e
/-- texts as data -/
def strsD : List D → Option (List (List Nat))
  | [] => some []
  | .str s :: r => (strsD r).map (s :: ·)
  | _ => none
theorem strsD_eq : ∀ {ds : List D} {ns : List (List Nat)}, strsD ds = some ns → ds = ns.map D.str
  | [], ns, e => by injection e with e; subst e; rfl
  | .str i :: r, ns, e => by
    obtain ⟨ms, e1, e2⟩ := Option.map_eq_some_iff.mp (show (strsD r).map (i :: ·) = some ns from e)
    subst e2
    rw [strsD_eq e1]
    rfl
  | .non :: _, _, e => by cases e
  | .bl _ :: _, _, e => by cases e
  | .int _ :: _, _, e => by cases e
  | .tup _ :: _, _, e => by cases e
  | .lst _ :: _, _, e => by cases e
  | .scr _ :: _, _, e => by cases e
  | .dct _ _ :: _, _, e => by cases e
  | .obj _ _ _ :: _, _, e => by cases e
def joinS (a : List Nat) : List (List Nat) → List Nat
  | [] => []
  | [x] => x
  | x :: r => x ++ a ++ joinS a r
def joinD : D → D → Option Val
  | .str a, .lst xs => (strsD xs).bind fun ss => if (ss.map (·.length)).sum + ss.length * a.length ≤ 16777216 then some (fz (.str (joinS a ss))) else none
  | .str a, .tup xs => (strsD xs).bind fun ss => if (ss.map (·.length)).sum + ss.length * a.length ≤ 16777216 then some (fz (.str (joinS a ss))) else none
  | _, _ => none
theorem strs_of {K : PySem.W.Frag} {F : Hp} : ∀ {ns : List (List Nat)} {vs : List V}, Reps K F vs (ns.map D.str) → vs = (ns.map fun s => (⟨s.toArray⟩ : Str)).map V.str ∧ ∀ s ∈ ns, strG s = true
  | [], vs, r => by cases r; exact ⟨rfl, fun s h => by cases h⟩
  | n :: ns, vs, r => by
    cases r with
    | cons r1 r2 =>
      obtain ⟨h1, h2⟩ := strs_of r2
      obtain ⟨h3, h4⟩ := r1.str_inv
      refine ⟨by rw [h3, h1]; rfl, fun s h => ?_⟩
      rcases List.mem_cons.mp h with rfl | h
      · exact h4
      · exact h2 s h
theorem join_eq (a : List Nat) : ∀ ss : List (List Nat), Str.join ⟨a.toArray⟩ (ss.map fun s => (⟨s.toArray⟩ : Str)) = ⟨(joinS a ss).toArray⟩
  | [] => rfl
  | [x] => rfl
  | x :: y :: r => by
    show (⟨x.toArray⟩ : Str) ++ ⟨a.toArray⟩ ++ Str.join ⟨a.toArray⟩ ((y :: r).map fun s => (⟨s.toArray⟩ : Str)) = _
    rw [join_eq a (y :: r), str_app, str_app]
    rfl
theorem join_mem {a : List Nat} {c : Nat} : ∀ {ss : List (List Nat)}, c ∈ joinS a ss → c ∈ a ∨ ∃ s ∈ ss, c ∈ s
  | [], h => by cases h
  | [x], h => .inr ⟨x, List.mem_cons_self, h⟩
  | x :: y :: r, h => by
    have h : c ∈ x ++ a ++ joinS a (y :: r) := h
    rcases List.mem_append.mp h with h | h
    · rcases List.mem_append.mp h with h | h
      · exact .inr ⟨x, List.mem_cons_self, h⟩
      · exact .inl h
    · rcases join_mem h with h | ⟨s, hs, hc⟩
      · exact .inl h
      · exact .inr ⟨s, List.mem_cons_of_mem _ hs, hc⟩
theorem join_len (a : List Nat) : ∀ ss : List (List Nat), (joinS a ss).length ≤ (ss.map (·.length)).sum + ss.length * a.length
  | [] => by simp [joinS]
  | [x] => by simp [joinS]
  | x :: y :: r => by
    have ih := join_len a (y :: r)
    show (x ++ a ++ joinS a (y :: r)).length ≤ _
    rw [List.length_append, List.length_append]
    simp only [List.map_cons, List.sum_cons, List.length_cons] at ih ⊢
    have : (r.length + 1 + 1) * a.length = (r.length + 1) * a.length + a.length := by rw [Nat.add_mul]; omega
    omega
theorem join_G {a : List Nat} {ss : List (List Nat)} (ha : strG a = true) (hs : ∀ s ∈ ss, strG s = true) (h : (ss.map (·.length)).sum + ss.length * a.length ≤ 16777216) : strG (joinS a ss) = true := by
  have all : ∀ {s : List Nat}, strG s = true → ∀ c ∈ s, c < 0x110000 := fun h c hc => by
    unfold strG at h
    rw [Bool.and_eq_true] at h
    simpa using List.all_eq_true.mp h.2 c hc
  unfold strG
  rw [Bool.and_eq_true]
  refine ⟨decide_eq_true (by have := join_len a ss; rw [sizeLine_eq]; omega), List.all_eq_true.mpr fun c hc => ?_⟩
  rcases join_mem hc with h | ⟨s, h1, h2⟩
  · simpa using all ha c h
  · simpa using all (hs s h1) c h2
theorem mg_join {X : Cx} : MtG X "str.join" (g2 joinD) := by
  rintro pins s σ H x xs v us Q I rx rs ⟨F, vs, w, sF, hvs, e0, q⟩
  obtain ⟨⟨ao, ad⟩, ⟨bo, bd⟩, rfl, e⟩ := g2_inv e0
  clear e0
  obtain ⟨x', y, ex, hx, hy⟩ := hvs.two
  injection ex with e1 e2
  subst e1 e2
  change joinD ad bd = some w at e
  have fin : ∀ {a : List Nat} {ss : List (List Nat)} {w : Val}, strG a = true → (∀ s ∈ ss, strG s = true) → (if (ss.map (·.length)).sum + ss.length * a.length ≤ 16777216 then some (fz (.str (joinS a ss))) else none) = some w → (∀ z F' H', Stp X.K [] F H [(w, z)] F' H' → Q z H') →
      ((ss.map fun s => (⟨s.toArray⟩ : Str)).map (·.length)).sum + (ss.map fun s => (⟨s.toArray⟩ : Str)).length * (⟨a.toArray⟩ : Str).length ≤ 16777216 ∧ Q (.str (Txt.join ⟨a.toArray⟩ (ss.map fun s => (⟨s.toArray⟩ : Str)))) H := fun {a ss w} ga gs e q => by
    split at e
    · rename_i hl
      injection e with e; subst e
      refine ⟨?_, ?_⟩
      · rw [List.map_map, List.length_map, str_len]
        have : (ss.map ((·.length) ∘ fun s => (⟨s.toArray⟩ : Str))) = ss.map (·.length) := List.map_congr_left fun s _ => str_len s
        rw [this]
        exact hl
      · rw [TL.join_eq, join_eq]
        exact old_fz sF q (.str _ (join_G ga gs hl))
    · cases e
  unfold joinD at e
  split at e
  · rename_i a xs
    cases e1 : strsD xs with
    | none => rw [e1] at e; cases e
    | some ss =>
      rw [e1] at e
      simp only [Option.bind_some] at e
      obtain ⟨p, vs, ey, hH, r⟩ := hy.lst sF
      rw [strsD_eq e1] at r
      obtain ⟨h1, h2⟩ := strs_of r
      obtain ⟨h3, h4⟩ := fin hx.str.2 h2 e q
      exact mt_join pins s σ H _ _ v us Q I rx rs ⟨_, p, _, hx.str.1, by rw [ey], .inl (.of (by rw [← h1]; exact hH)), h3, h4⟩
  · rename_i a xs
    cases e1 : strsD xs with
    | none => rw [e1] at e; cases e
    | some ss =>
      rw [e1] at e
      simp only [Option.bind_some] at e
      obtain ⟨p, vs, ey, hF, hH, r⟩ := hy.tup sF
      rw [strsD_eq e1] at r
      obtain ⟨h1, h2⟩ := strs_of r
      obtain ⟨h3, h4⟩ := fin hx.str.2 h2 e q
      exact mt_join pins s σ H _ _ v us Q I rx rs ⟨_, p, _, hx.str.1, by rw [ey], .inr (by rw [← h1]; exact hH), h3, h4⟩
  · cases e
end Wk
end

section
/-! W18: displays, calls of defs, slices, methods that change lists. -/
namespace Wk
open PySem PySem.Spec PyProof.Rows L2

/-! ### displays -/
def OV.isT : OV → Bool
  | .t _ => true
  | .s _ => false
def eTup (os : List Opd) : XE := fun env => (evs os env).bind fun p => (valsO p.2 p.1).bind fun vs => if (p.1.all OV.isT && decide (os.length ≤ 1000)) = true then some (fz (.tup (vs.map (·.d))), p.2) else none
def eLst (os : List Opd) : XE := fun env => (evs os env).bind fun p => (valsO p.2 p.1).bind fun vs => if (p.1.all OV.isT && decide (os.length ≤ 1000)) = true then some (ow (.lst (vs.map (·.d))), p.2) else none
theorem mtc_t {K : PySem.W.Frag} {F : Hp} {σ : L2.St} {env : En} : ∀ {ovs : List OV} {xs : List V} {T : LV} {vs : List Val}, Mtc σ ovs xs T → ovs.all OV.isT = true → valsO env ovs = some vs → (∀ p ∈ T, Rep K F p.2 p.1.d) → Reps K F xs (vs.map (·.d))
  | _, _, _, _, .nil, _, e, _ => by injection e with e; subst e; exact .nil
  | .t v :: os, x :: xs, _ :: T, vs, .t m, h, e, hT => by
    cases e2 : valsO env os with
    | none => simp [valsO, OV.val, e2] at e
    | some vs2 =>
      simp [valsO, OV.val, e2] at e
      subst e
      exact .cons (hT _ List.mem_cons_self) (mtc_t m (by simpa [OV.isT] using h) e2 fun p hp => hT p (List.mem_cons_of_mem _ hp))
  | .s i :: os, _, _, _, .s _ _, h, _, _ => by simp [OV.isT] at h
theorem disp_core {K : PySem.W.Frag} {os : List Opd} {mk : List D → Val} {ob : List V → HO} {σ : L2.St} {H : Hp} {Q : VK}
    (hm : ∀ F H p xs ds, H p = none → Same F H → Reps K F xs ds → ∃ F', Stp K [] F H [(mk ds, .ref p)] F' (upd H p (ob xs)))
    (h : tE K (fun env => (evs os env).bind fun p => (valsO p.2 p.1).bind fun vs => if (p.1.all OV.isT && decide (os.length ≤ 1000)) = true then some (mk (vs.map (·.d)), p.2) else none) σ H Q) :
    tA K os σ H fun xs H1 => xs.length ≤ sizeLine ∧ ∀ p, H1 p = none → Q (.ref p) (upd H1 p (ob xs)) := by
  obtain ⟨env, L, F, v, env', z, rel, e, q⟩ := h
  cases e1 : evs os env with
  | none => simp only [e1] at e; cases e
  | some p =>
    obtain ⟨ovs, env1⟩ := p
    simp only [e1, Option.bind_some] at e
    cases e2 : valsO env1 ovs with
    | none => rw [e2] at e; cases e
    | some vs =>
      rw [e2] at e
      simp only [Option.bind_some] at e
      split at e
      · rename_i hc
        rw [Bool.and_eq_true, decide_eq_true_eq] at hc
        injection e with e; injection e with e4 e5
        subst e4 e5
        refine ⟨env, L, F, ovs, env1, z, rel, e1, fun xs T L' F' H' z1 s1 m => ⟨?_, fun p hp => ?_⟩⟩
        · have h1 := m.len
          have h2 := evs_len e1
          rw [sizeLine_eq]
          omega
        · obtain ⟨F2, s2, r2, _⟩ := Stp.freezeAll (T := T) (M := L') s1.rel
          have s3 := s1.trans s2
          obtain ⟨F3, s4⟩ := hm F2 H' p xs (vs.map (·.d)) hp s3.rel.sub (mtc_t m hc.1 e2 r2)
          have s5 := s3.trans (s4.frame (L := []) (T := T.map low ++ L') s3.rel)
          exact q _ L' F3 _ z1 (s5.less ((List.sublist_append_right (T.map low) L').cons_cons _))
      · cases e
section
variable {X : Cx} {e : Expr} {es : List Expr} {os : List Opd} {pos : Pos}
theorem ie_tup {k : Nat} (ha : IA X es os) : IE X (.Tuple es k pos) (eTup os) := PE.imp (pe_tup ha) fun σ H Q h => disp_core (mk := fun ds => fz (.tup ds)) (ob := .tup) (fun F H p xs ds hp s r => Stp.new (K := X.K) (v := fz (.tup ds)) s hp (.inr ⟨rfl, .tup (.inl (.inl upd_same)) (r.mono (same_upd (same_none s hp)))⟩)) h
theorem ie_lst (ha : IA X es os) : IE X (.List es pos) (eLst os) := PE.imp (pe_lst ha) fun σ H Q h => disp_core (mk := fun ds => ow (.lst ds)) (ob := .lst) (fun F H p xs ds hp s r => Stp.new (K := X.K) (v := ow (.lst ds)) s hp (.inl ⟨rfl, _, upd_same, r⟩)) h

/-! ### calls of defs -/
theorem ie_call {k j n : Nat} {x : Str} {p : Pos} {io : List Nat} {m : FS} (c : CalW X.prog X.w X.K X.mg X.base k x io n m) (hr : Room j X.A) (hk : k ≤ j) (hg : Gl X x) (ha : IA X (e :: es) os) (hn : os.length = n := by rfl)
    (hdb : (x == ("__debug__" : Str)) = false := by decide) (he : starEach (e :: es) X.env = (false, eval e X.env) :: starEach es X.env := by rfl) (hpl : (backTo pos (starEach es X.env)).any (·.1) = false := by rfl) :
    IE X (.Call (.Name x p) (e :: es) [] pos) (eCall m io os) := by
  obtain ⟨f, fd, ps, FO, hm, kp, b⟩ := c.ex
  subst hn
  exact PE.imp (pe_call FO (hr.mono hk) hg hm kp b .nil pass0 ha hdb he hpl) fun σ H Q h => call_core h
theorem ie_call0 {k j : Nat} {x : Str} {p : Pos} {m : FS} (c : CalW X.prog X.w X.K X.mg X.base k x [] 0 m) (hr : Room j X.A) (hk : k ≤ j) (hg : Gl X x) (hdb : (x == ("__debug__" : Str)) = false := by decide) : IE X (.Call (.Name x p) [] [] pos) (eCall m [] []) := by
  obtain ⟨f, fd, ps, FO, hm, kp, b⟩ := c.ex
  refine PE.imp (pe_call0 FO (hr.mono hk) hg hm kp b .nil pass0 hdb) fun σ H Q h => ?_
  have h1 : tCall (spF X.K [] 0 m) [] E0 (tA X.K []) σ H Q := call_core h
  exact tA_nil (Q := fun vs H1 => spF X.K [] 0 m (vs ++ []) H1 Q E0) h1
end

/-! ### slices -/
def gSl0 : Fn
  | [v] => slD v.d none none
  | _ => none
def gSlL : Fn
  | [v, ⟨_, .int i⟩] => slD v.d (some i) none
  | _ => none
def gSlH : Fn
  | [v, ⟨_, .int j⟩] => slD v.d none (some j)
  | _ => none
def gSlB : Fn
  | [v, ⟨_, .int i⟩, ⟨_, .int j⟩] => slD v.d (some i) (some j)
  | _ => none
/-- a whole number, told at once -/
def eInt (f : XE) : XE := fun env => (f env).bind fun p => match p.1.d with
  | .int i => some (fz (.int i), p.2)
  | _ => none
theorem tE_int {K : PySem.W.Frag} {f : XE} {σ : L2.St} {H : Hp} {Q : VK} (h : tE K (eInt f) σ H Q) : tE K f σ H fun x H1 => (∃ i, x = .int i) ∧ Q x H1 := tE_mono (tE_bind h) fun x H1 ⟨env, L, F, v, w, env', z, rel, e, k⟩ => by
  obtain ⟨o, d⟩ := v
  simp only at e
  split at e
  · injection e with e; injection e with e1 e2
    subst e1 e2
    have ex := (rel.ok _ List.mem_cons_self).int
    have ex : x = .int _ := ex
    subst ex
    exact ⟨⟨_, rfl⟩, k _ L F H1 z (Stp.less1 rel (Stp.dup rel.tail (.int _)))⟩
  · cases e
section
variable {X : Cx} {e a b : Expr} {o oa ob : Opd} {fa : XE} {pos p2 : Pos}
theorem ie_sl (he : IO X e o) : IE X (.Subscript e (.Slice none none none p2) pos) (eApp gSl0 [o]) := PE.imp (pe_slice sg_sl he po_none po_none) fun σ H Q h => by
  refine tO_mono (tA_cons (app_core ok_gL h)) fun x H1 h1 => ?_
  obtain ⟨F, vs, w, sF, hvs, e, q⟩ := tA_nil h1
  unfold gSl0 at e
  split at e
  · obtain ⟨x', ex, hx⟩ := hvs.one
    injection ex with ex _
    subst ex
    exact ⟨F, _, w, sF, hx, e, q⟩
  · cases e
theorem ie_slL (he : IO X e o) (ha : IO X a oa) : IE X (.Subscript e (.Slice (some a) none none p2) pos) (eApp gSlL [o, oa]) := PE.imp (pe_slice sg_sl he (po_some ha) po_none) fun σ H Q h => by
  refine tO_mono (tA_cons (app_core ok_gL h)) fun x H1 h1 => tO_mono (tA_cons h1) fun y H2 h2 => ?_
  obtain ⟨F, vs, w, sF, hvs, e, q⟩ := tA_nil h2
  unfold gSlL at e
  split at e
  · obtain ⟨x', y', ex, hx, hy⟩ := hvs.two
    injection ex with e1 e2
    injection e2 with e2 _
    subst e1 e2
    exact ⟨_, hy.int, F, _, w, sF, hx, e, q⟩
  · cases e
theorem ie_slH (he : IO X e o) (hb : IO X b ob) : IE X (.Subscript e (.Slice none (some b) none p2) pos) (eApp gSlH [o, ob]) := PE.imp (pe_slice sg_sl he po_none (po_some hb)) fun σ H Q h => by
  refine tO_mono (tA_cons (app_core ok_gL h)) fun x H1 h1 => tO_mono (tA_cons h1) fun y H2 h2 => ?_
  obtain ⟨F, vs, w, sF, hvs, e, q⟩ := tA_nil h2
  unfold gSlH at e
  split at e
  · obtain ⟨x', y', ex, hx, hy⟩ := hvs.two
    injection ex with e1 e2
    injection e2 with e2 _
    subst e1 e2
    exact ⟨_, hy.int, F, _, w, sF, hx, e, q⟩
  · cases e
theorem ie_slB (he : IO X e o) (ha : IE X a fa) (hb : IO X b ob) : IE X (.Subscript e (.Slice (some a) (some b) none p2) pos) (eApp gSlB [o, .e (eInt fa), ob]) := PE.imp (pe_slice sg_sl he (po_some ha) (po_some hb)) fun σ H Q h => by
  refine tO_mono (tA_cons (app_core ok_gL h)) fun x H1 h1 => ?_
  have h1' : tE X.K (eInt fa) σ H1 _ := tA_cons h1
  refine tE_mono (tE_int h1') fun y H2 ⟨⟨i, ey⟩, h2⟩ => ⟨i, ey, tO_mono (tA_cons h2) fun z H3 h3 => ?_⟩
  obtain ⟨F, vs, w, sF, hvs, e, q⟩ := tA_nil h3
  unfold gSlB at e
  split at e
  · obtain ⟨x', y', z', ex, hx, hy, hz⟩ := hvs.three
    injection ex with e1 e2
    injection e2 with e2 e3
    injection e3 with e3 _
    subst e1 e2 e3
    rw [hy.int] at ey
    injection ey with ey
    subst ey
    exact ⟨_, hz.int, F, _, w, sF, hx, e, q⟩
  · cases e
end

/-! ### methods that change lists -/
abbrev Mu := D → List Val → Option (D × Val)
def muApp : Mu
  | .lst xs, [v] => if xs.length < sizeLine then some (.lst (xs ++ [v.d]), fz .non) else none
  | _, _ => none
def muPop : Mu
  | .lst xs, [] => (xs.getLast?).map fun y => (.lst xs.dropLast, fz y)
  | _, _ => none
def muRev : Mu
  | .lst xs, [] => some (.lst xs.reverse, fz .non)
  | _, _ => none
theorem okTy_lst {K : PySem.W.Frag} : OkTy K "list" isLstB := by
  rintro F H x ⟨o, d⟩ sF hv e
  change isLstB d = true at e
  unfold isLstB at e
  split at e
  · obtain ⟨a, vs, ex, hH, _⟩ := hv.lst sF
    subst ex
    exact .inl ⟨rfl, vs, .of hH⟩
  · cases e
theorem fz_of {K : PySem.W.Frag} {F H : Hp} {x : V} {v : Val} (h : VOk K F H x v) (hf : v.o = false) : Rep K F x v.d := by
  obtain ⟨o, d⟩ := v
  have hf : o = false := hf
  subst hf
  exact VOk.fz.mp h
theorem okM_app {K : PySem.W.Frag} : OkM K rAppend muApp := by
  rintro F H a d d' xs vs v Q sF hF c hvs hfz e q
  unfold muApp at e
  split at e
  · split at e
    · rename_i ds w hl
      injection e with e; injection e with e1 e2
      subst e1 e2
      obtain ⟨us, hH, r⟩ := c
      obtain ⟨y, rfl, hy⟩ := hvs.one
      have ry := fz_of hy (hfz _ (by simp))
      exact ⟨a, us, y, rfl, rfl, hH, by rw [r.length]; exact hl, q _ _ ⟨_, upd_same, r.append (.cons ry .nil)⟩ (fun b hb => upd_ne hb) .non⟩
    · cases e
  · cases e
theorem Reps.dropLast {K : PySem.W.Frag} {F : Hp} {vs : List V} {ds : List D} (r : Reps K F vs ds) : Reps K F vs.dropLast ds.dropLast := by
  rw [List.dropLast_eq_take, List.dropLast_eq_take, r.length]
  exact r.take _
theorem okM_pop {K : PySem.W.Frag} : OkM K rPop muPop := by
  rintro F H a d d' xs vs v Q sF hF c hvs hfz e q
  unfold muPop at e
  split at e
  · rename_i ds
    obtain ⟨y, e1, e2⟩ := Option.map_eq_some_iff.mp e
    injection e2 with e2 e3
    subst e2 e3
    obtain ⟨us, hH, r⟩ := c
    cases hvs
    rw [List.getLast?_eq_getElem?] at e1
    obtain ⟨z, hz, rz⟩ := r.get e1
    exact ⟨a, us, z, rfl, rfl, hH, by rw [r.length]; exact hz, q _ _ ⟨_, upd_same, r.dropLast⟩ (fun b hb => upd_ne hb) rz⟩
  · cases e
theorem okM_rev {K : PySem.W.Frag} : OkM K rReverse muRev := by
  rintro F H a d d' xs vs v Q sF hF c hvs hfz e q
  unfold muRev at e
  split at e
  · injection e with e; injection e with e1 e2
    subst e1 e2
    obtain ⟨us, hH, r⟩ := c
    cases hvs
    exact ⟨a, us, rfl, rfl, hH, q _ _ ⟨_, upd_same, r.reverse⟩ (fun b hb => upd_ne hb) .non⟩
  · cases e
end Wk
end

section
/-! W19: dicts. -/
namespace Wk
open PySem PySem.Spec PyProof.Rows L2

section
variable {K : PySem.W.Frag} {F : Hp}
theorem any_key {x : D} {k : Key} (hx : keyD x = some k) : ∀ {kvs : List (Key × V)} {ks : List D}, Reps K F (kvs.map fun p => kV p.1) ks → (ks.any fun q => deq q x) = kvs.any fun kv => decide (kv.1 = k)
  | [], _, r => by cases r; rfl
  | p :: kvs, _, r => by
    cases r with
    | cons r1 r2 => rw [List.any_cons, List.any_cons, any_key hx r2, deq_key (key_rep r1) hx]
theorem put_reps {x y : D} {k : Key} {v : V} (hx : keyD x = some k) (rx : Rep K F (kV k) x) (ry : Rep K F v y) {kvs : List (Key × V)} {ks ds : List D} (r : Reps K F (kvs.map fun p => kV p.1) ks) (r' : Reps K F (kvs.map (·.2)) ds) :
    Reps K F ((putK kvs k v).map fun p => kV p.1) (dput ks ds x y).1 ∧ Reps K F ((putK kvs k v).map (·.2)) (dput ks ds x y).2 := by
  unfold putK dput
  rw [any_key hx r]
  split
  · refine ⟨?_, ?_⟩
    · have e : ((kvs.map fun kv => if kv.1 = k then (kv.1, v) else kv).map fun p => kV p.1) = kvs.map fun p => kV p.1 := by
        rw [List.map_map]
        refine List.map_congr_left fun p _ => ?_
        show kV (if p.1 = k then (p.1, v) else p).1 = _
        split <;> rfl
      first
        | (rw [e]; exact r)
        | (simp only [e]; exact r)
    · show Reps K F _ (List.zipWith _ ks ds)
      have aux : ∀ {kvs : List (Key × V)} {ks ds : List D}, Reps K F (kvs.map fun p => kV p.1) ks → Reps K F (kvs.map (·.2)) ds → Reps K F ((kvs.map fun kv => if kv.1 = k then (kv.1, v) else kv).map (·.2)) (List.zipWith (fun q w => if deq q x = true then y else w) ks ds) := by
        intro kvs
        induction kvs with
        | nil => intro ks ds r r'; cases r; exact .nil
        | cons p kvs ih =>
          intro ks ds r r'
          cases r with
          | cons r1 r2 =>
            cases r' with
            | cons q1 q2 =>
              simp only [List.map_cons, List.zipWith_cons_cons]
              rw [deq_key (key_rep r1) hx]
              refine .cons ?_ (ih r2 q2)
              by_cases h : p.1 = k
              · rw [if_pos h, if_pos (by simpa using h)]; exact ry
              · rw [if_neg h, if_neg (by simpa using h)]; exact q1
      exact aux r r'
  · rw [List.map_append, List.map_append]
    exact ⟨r.append (.cons rx .nil), r'.append (.cons ry .nil)⟩
end

/-! ### dict comprehensions -/
def dcL (g : Val → En → Option En) (t : XT) (fk fv : XE) (own : List Nat) : List D → En → List D → List D → Option ((List D × List D) × En)
  | [], env, ks, vs => some ((ks, vs), env)
  | d :: ds, env, ks, vs => (g (fz d) env).bind fun e1 => (t e1).bind fun p => if p.1 = true then
      (fk p.2).bind fun q => (fv q.2).bind fun r => if (keyD q.1.d).isSome ∧ ks.length < sizeLine then dcL g t fk fv own ds (wipeE r.2 own) (dput ks vs q.1.d r.1.d).1 (dput ks vs q.1.d r.1.d).2 else none
    else dcL g t fk fv own ds (wipeE p.2 own) ks vs
def eDc (own : List Nat) (it : XI) (g : Val → En → Option En) (t : XT) (fk fv : XE) : XE := fun env => (it env).bind fun p => (dcL g t fk fv own p.1 (wipeE p.2 own) [] []).bind fun q =>
  some (ow (.dct q.1.1 q.1.2), backE p.2 q.2 own)
theorem dc_of {K : PySem.W.Frag} {it : XI} {g : Val → En → Option En} {t : XT} {fk fv : XE} {own : List Nat} {n : Nat} {σ : L2.St} {H : Hp} {Q : VK} (hn : n = σ.length) (h : tE K (eDc own it g t fk fv) σ H Q) :
    tDc (tI K it) (tG K (compl n own) g) (tT K t) (tE K fk) (tE K fv) own σ H Q := by
  obtain ⟨env, L, F, v, env', z, rel, e, q⟩ := h
  unfold eDc at e
  cases e1 : it env with
  | none => rw [e1] at e; cases e
  | some r =>
    obtain ⟨ds, env1⟩ := r
    rw [e1] at e
    simp only [Option.bind_some] at e
    cases e2 : dcL g t fk fv own ds (wipeE env1 own) [] [] with
    | none => rw [e2] at e; cases e
    | some r2 =>
      obtain ⟨⟨oks, ovs⟩, env2⟩ := r2
      rw [e2] at e
      simp only [Option.bind_some] at e
      injection e with e; injection e with e3 e4
      subst e3 e4
      refine ⟨env, L, F, ds, env1, z, rel, e1, fun J L1 F1 H1 z1 s1 w D hD => ?_⟩
      obtain ⟨Lo, Lw, pm, zA, zB⟩ := z1.part fun i => decide (i ∈ own)
      have zw : Zip (wipeE env1 own) (wipe σ own) Lw := zA _ _ (wipeE_length _ _) (wipe_length _ _) (fun i hi hl => wipeE_in (of_decide_eq_true hi) hl) fun i hi => ⟨wipeE_get (of_decide_eq_false hi), wipe_get (of_decide_eq_false hi)⟩
      obtain ⟨F2, s2⟩ := Stp.new (K := K) (o := .dK []) (v := ow (.dct [] [])) s1.rel.sub hD (.inl ⟨rfl, [], upd_same, .nil, .nil⟩)
      have s3 := s2.frame (L := []) (T := L1) s1.rel
      have s4 : Stp K L1 F1 H1 ((ow (.dct [] []), .ref D) :: Lo ++ Lw) F2 (upd H1 D (.dK [])) := s3.perm (pm.cons _)
      have hle : env1.length = σ.length := z1.len
      refine ⟨fun i m H => i + m = ds.length ∧ ∃ env3 L3 F3 ks vs, Zip env3 (wipe σ own) L3 ∧ Stp K L1 F1 H1 ((ow (.dct ks vs), .ref D) :: Lo ++ L3) F3 H ∧ dcL g t fk fv own (ds.drop i) env3 ks vs = some ((oks, ovs), env2) ∧
          (∀ i, i ∈ own → i < env1.length → env3[i]? = some none), ⟨ds.length, Nat.zero_add _, wipeE env1 own, Lw, F2, [], [], zw, s4, e2, fun i hi hl => wipeE_in hi hl⟩, ?_⟩
      rintro i m H2 ⟨him, env3, L3, F3, ks, vs, z3, s5, e5, hown⟩
      have hl3 : env3.length = σ.length := by rw [z3.len, wipe_length]
      obtain ⟨w1, w2⟩ := w F3 H2 i s5.mono s5.rel.sub
      by_cases hlt : i < ds.length
      · have hd : ds[i]? = some ds[i] := List.getElem?_eq_getElem hlt
        obtain ⟨go, yl⟩ := w1 _ hd
        rw [List.drop_eq_getElem_cons hlt] at e5
        unfold dcL at e5
        cases e6 : g (fz ds[i]) env3 with
        | none => rw [e6] at e5; cases e5
        | some env4 =>
          rw [e6] at e5
          simp only [Option.bind_some] at e5
          cases e7 : t env4 with
          | none => rw [e7] at e5; cases e5
          | some r7 =>
            obtain ⟨b7, env5⟩ := r7
            rw [e7] at e5
            simp only [Option.bind_some] at e5
            refine .inr ⟨go, fun H' => i + 1 + (m - 1) = ds.length ∧ ∃ env3 L3 F3 ks vs, Zip env3 (wipe σ own) L3 ∧ Stp K L1 F1 H1 ((ow (.dct ks vs), .ref D) :: Lo ++ L3) F3 H' ∧ dcL g t fk fv own (ds.drop (i + 1)) env3 ks vs = some ((oks, ovs), env2) ∧
              (∀ i, i ∈ own → i < env1.length → env3[i]? = some none), fun H' hx => ⟨m - 1, by omega, hx⟩, fun x H3 hy => ?_⟩
            obtain ⟨F4, s6⟩ := yl x H3 hy
            have s7 := (s6.frame (L := []) (T := (ow (.dct ks vs), .ref D) :: Lo ++ L3) s5.rel).perm (List.perm_middle (a := (fz ds[i], x)) (l₁ := (ow (.dct ks vs), .ref D) :: Lo) (l₂ := L3)).symm
            refine ⟨env3, L3, F4, fz ds[i], env4, z3, s7.rel.right, e6, fun σ4 L4 F5 H4 z4 hn4 hr4 s8 => ?_⟩
            have s9 := s7.trans (s8.frameL (T := (ow (.dct ks vs), .ref D) :: Lo) s7.rel)
            have hw4 : wipe σ4 own = wipe σ own := (wipe_eq (s := wipe σ own) hn4 (by rw [wipe_length, ← hn]; exact hr4)).trans wipe_wipe
            refine ⟨hw4, env4, L4, F5, b7, env5, z4, s8.rel, e7, fun L5 F6 H5 z5 s10 => ?_⟩
            have s11 := s9.trans (s10.frameL (T := (ow (.dct ks vs), .ref D) :: Lo) s9.rel)
            have fin : ∀ (e : En) (Lx : LV), Zip e σ4 Lx → ∃ Ly, Zip (wipeE e own) (wipe σ own) Ly ∧ Ly.Sublist Lx ∧ ∀ i, i ∈ own → i < env1.length → (wipeE e own)[i]? = some none := fun e Lx zx => by
              obtain ⟨Ly, zy, hy⟩ := zx.wipe own
              rw [hw4] at zy
              refine ⟨Ly, zy, hy, fun i hi hl => wipeE_in hi ?_⟩
              rw [zx.len, hn4, wipe_length, ← hle]
              exact hl
            cases b7 with
            | false =>
              rw [if_neg (by decide)] at e5
              refine iteF ?_
              obtain ⟨Ly, zy, hy, hyo⟩ := fin env5 L5 z5
              exact ⟨by omega, wipeE env5 own, Ly, F6, ks, vs, zy, (s5.trans s11).less ((List.Sublist.refl ((ow (.dct ks vs), V.ref D) :: Lo)).append hy), e5, hyo⟩
            | true =>
              rw [if_pos rfl] at e5
              refine iteT ?_
              cases e8 : fk env5 with
              | none => rw [e8] at e5; cases e5
              | some r8 =>
                obtain ⟨⟨o8, d8⟩, env6⟩ := r8
                rw [e8] at e5
                simp only [Option.bind_some] at e5
                cases e9 : fv env6 with
                | none => rw [e9] at e5; cases e5
                | some r9 =>
                  obtain ⟨⟨o9, d9⟩, env7⟩ := r9
                  rw [e9] at e5
                  simp only [Option.bind_some] at e5
                  split at e5
                  · rename_i hk
                    obtain ⟨hk, hzk⟩ := hk
                    obtain ⟨k, hk⟩ := Option.isSome_iff_exists.mp hk
                    refine ⟨env5, L5, F6, ⟨o8, d8⟩, env6, z5, s10.rel, e8, fun y L6 F7 H6 z6 s12 => ?_⟩
                    have s13 := (s11.trans (s12.frameL (T := (ow (.dct ks vs), .ref D) :: Lo) s11.rel)).perm (List.perm_middle (a := ((⟨o8, d8⟩ : Val), y)) (l₁ := (ow (.dct ks vs), .ref D) :: Lo) (l₂ := L6))
                    refine ⟨env6, L6, F7, ⟨o9, d9⟩, env7, z6, s12.rel.tail, e9, fun y2 L7 F8 H7 z7 s14 => ?_⟩
                    have s15 := (s13.trans (s14.frameL (T := ((⟨o8, d8⟩ : Val), y) :: ((ow (.dct ks vs), .ref D) :: Lo)) (by
                      have := s13.rel
                      simpa using this))).perm (List.perm_middle (a := ((⟨o9, d9⟩ : Val), y2)) (l₁ := ((⟨o8, d8⟩ : Val), y) :: ((ow (.dct ks vs), .ref D) :: Lo)) (l₂ := L7))
                    obtain ⟨F9, s16, ry2, _⟩ := Stp.freeze s15.rel
                    have s17 := (s15.trans s16).tail
                    have s17' : Stp K _ _ _ (((⟨o8, d8⟩ : Val), y) :: ((ow (.dct ks vs), V.ref D) :: (Lo ++ L7))) F9 H7 := s17
                    have ey := (s17'.rel.ok _ List.mem_cons_self).frz hk
                    have ey : y = kV k := ey
                    obtain ⟨F10, s18, ry, _⟩ := Stp.freeze s17'.rel
                    have s19 := (s17'.trans s18).tail
                    obtain ⟨D', eD, _, kvs, hacc, r1, r2⟩ := VOk.ow.mp (s19.rel.ok _ List.mem_cons_self)
                    have eD : V.ref D = .ref D' := eD
                    cases eD
                    subst ey
                    have hlk : kvs.length < sizeLine := by
                      have := r1.length
                      rw [List.length_map] at this
                      rw [this]; exact hzk
                    obtain ⟨p1, p2⟩ := put_reps hk ry (ry2.mono s18.mono) r1 r2
                    refine ⟨kvs, k, rfl, hacc, hlk, by omega, ?_⟩
                    have s20 := Stp.write s19.rel (d' := .dct (dput ks vs d8 d9).1 (dput ks vs d8 d9).2) (o := .dK (putK kvs k y2)) ⟨_, upd_same, p1, p2⟩
                    obtain ⟨Ly, zy, hy2, hyo⟩ := fin env7 L7 z7
                    refine ⟨wipeE env7 own, Ly, F10, _, _, zy, ((s5.trans s19).trans s20).less ((List.Sublist.refl ((ow (.dct _ _), V.ref D) :: Lo)).append hy2), e5, hyo⟩
                  · cases e5
      · have ed : ds.drop i = [] := List.drop_eq_nil_iff.mpr (by omega)
        rw [ed] at e5
        injection e5 with e5; injection e5 with ea eb
        injection ea with ea ec
        subst ea eb ec
        refine .inl ⟨w2 (by omega), ?_⟩
        obtain ⟨L', z', p'⟩ := zB env3 (backE env1 env3 own) (wipe σ own) L3 z3 (by omega) (wipe_length _ _) (fun i hi hl => hown i (of_decide_eq_true hi) hl) (fun i hi => wipe_get (of_decide_eq_false hi))
          (by rw [backE_length]; omega) (fun i hi => backE_in (by omega) (of_decide_eq_true hi)) fun i hi => backE_get (of_decide_eq_false hi)
        exact q (.ref D) L' F3 H2 z' ((s1.trans s5).perm (p'.symm.cons _))
section
variable {X : Cx} {pos : Pos} {kx vx iter tg : Expr} {ifs : List Expr} {scope : Scope} {own : List (Str × Nat)} {it : XI} {g : Val → En → Option En} {t : XT} {fk fv : XE}
theorem ie_dc (hc : X.calm = true) (hN : X.N.Nodup) (hi : II X tg iter it) (ok : BlkOk X.N X.env.scope scope own)
    (hg : ∀ (s : Shared) (H : Hp) (C : Addr) (cl : List (Str × Addr)) (fp : List Addr), IG (X.blk s H scope (compEnvC scope cl C X.env) fp) (compl X.N.length (own.map (·.2))) tg g)
    (ht : ∀ (s : Shared) (H : Hp) (C : Addr) (cl : List (Str × Addr)) (fp : List Addr), ITs (X.blk s H scope (compEnvC scope cl C X.env) fp) ifs t)
    (hk : ∀ (s : Shared) (H : Hp) (C : Addr) (cl : List (Str × Addr)) (fp : List Addr), IE (X.blk s H scope (compEnvC scope cl C X.env) fp) kx fk)
    (he : ∀ (s : Shared) (H : Hp) (C : Addr) (cl : List (Str × Addr)) (fp : List Addr), IE (X.blk s H scope (compEnvC scope cl C X.env) fp) vx fv)
    (hs : ∀ x, foldedSetIterable iter X.env x = pure x := by intro _; rfl) : IE X (.DictComp kx vx [⟨tg, iter, ifs, 0⟩] scope pos) (eDc (own.map (·.2)) it g t fk fv) :=
  ⟨fun pins s σ H Q I q => (pe_dc (g := tG X.K (compl X.N.length (own.map fun p : Str × Nat => p.2)) g) (tt := tT X.K t) (tk := tE X.K fk) (tv := tE X.K fv) hc hN hi ok hg ht hk he hs).run pins s σ H Q I (dc_of I.len.symm q)⟩
/-- an empty dict -/
def eD0 : XE := fun env => some (ow (.dct [] []), env)
theorem ie_d0 : IE X (.Dict [] [] pos) eD0 := PE.imp pe_dnewK fun σ H Q ⟨env, L, F, v, env', z, rel, e, q⟩ p hp => by
  injection e with e; injection e with e1 e2
  subst e1 e2
  obtain ⟨F', st⟩ := Stp.new (K := X.K) (o := .dK []) (v := ow (.dct [] [])) rel.sub hp (.inl ⟨rfl, [], upd_same, .nil, .nil⟩)
  exact q _ L F' _ z (st.frame (L := []) (T := L) rel)
end
end Wk
end

section
/-! W20: dict comprehensions stored; items of dicts stored; the text of a def. -/
namespace Wk
open PySem PySem.Spec PyProof.Rows L2

section
variable {X : Cx} {pos spos py : Pos} {kx vx iter tg : Expr} {ifs : List Expr} {scope : Scope} {own : List (Str × Nat)} {it : XI} {g : Val → En → Option En} {t : XT} {fk fv : XE} {ro : List Nat} {y : Str} {i : Nat}
theorem swd_true {gs : List Comprehension} {l : Nat} {env : Env} (hk : env.scope.kind = .function) (hy : env.scope.names.lookup y = some .local) (hl : (py.line == pos.line) = true)
    (ha : (scope.names.any fun (n, k) => n == y && (k == .local || k == .cell)) = false) : swapsWith (.DictComp kx vx gs scope pos) (some (.Name y py)) l env = pure true := by
  have ky : env.kindOf y = some .local := hy
  have hb : env.blockKind = .function := by unfold Env.blockKind; rw [hk]; rfl
  unfold swapsWith
  simp only [hb, ky, ha, Expr.pos, hl]
  rfl
theorem ps_setDc {wi : TI} {gg : TG} {tt : TT} {tk tv : TE} (hc : X.calm = true) (hN : X.N.Nodup) (hy : X.N[i]? = some y) (hyl : X.env.scope.names.lookup y = some .local)
    (hsw : swapsWith (.DictComp kx vx [⟨tg, iter, ifs, 0⟩] scope pos) (some (.Name y py)) spos.line X.env = pure true) (hi : PI X tg iter wi) (ok : BlkOk X.N X.env.scope scope own)
    (hg : ∀ (s : Shared) (H : Hp) (C : Addr) (cl : List (Str × Addr)) (fp : List Addr), PG (X.blk s H scope (compEnvC scope cl C X.env) fp) tg gg) (ht : ∀ (s : Shared) (H : Hp) (C : Addr) (cl : List (Str × Addr)) (fp : List Addr), PTs (X.blk s H scope (compEnvC scope cl C X.env) fp) ifs tt)
    (hk : ∀ (s : Shared) (H : Hp) (C : Addr) (cl : List (Str × Addr)) (fp : List Addr), PE (X.blk s H scope (compEnvC scope cl C X.env) fp) kx tk)
    (he : ∀ (s : Shared) (H : Hp) (C : Addr) (cl : List (Str × Addr)) (fp : List Addr), PE (X.blk s H scope (compEnvC scope cl C X.env) fp) vx tv) (hs : ∀ x, foldedSetIterable iter X.env x = pure x := by intro _; rfl) :
    PS X (.Assign [.Name y py] (.DictComp kx vx [⟨tg, iter, ifs, 0⟩] scope pos) spos) (tAsg (tDc wi gg tt tk tv (own.map (·.2))) (gName i)) := by
  refine ⟨fun pins s σ H D I h => ?_⟩
  rw [exec_Assign_Name_used _ _ _ _ hsw]
  refine wpAny_bind (wpAny_standAt (wpAny_bind ?_))
  show wpAny _ X.A (do let _ ← comprehension (.DictComp kx vx [⟨tg, iter, ifs, 0⟩] scope pos) scope X.env (firstIterPos [⟨tg, iter, ifs, 0⟩] pos) newDict false (eval iter X.env) (some (assign (.Name y py) X.env))) _ _ s
  have h : tDc wi gg tt tk tv (own.map (·.2)) σ H (fun x H1 => gName i x σ H1 D.nx) := h
  refine wpAny_bind (thn (dc_core (Qf := fun _ s' => SP X pins D .next s') hc hN I hi ok hg ht hk he hs h fun L C s' m H' I' q hn f => ?_) fun _ s' hq => wpAny_pure (wpAny_pure hq))
  show wpAny _ _ (assign (.Name y py) X.env (.ref L)) _ _ _
  refine wpAny_assign_Name (store_ok2 (v := V.ref L) I' hN hy (.inl hyl) rfl (fun s2 I2 ⟨a, sb, ha⟩ => ?_) (.inr hyl))
  obtain ⟨f0, f1, f2, f3, f4, f5⟩ := f
  have haC : C ≠ a := by
    rcases ha with z | z
    · rw [z]; exact f1
    · exact fun e => f4 y a z e.symm
  refine ⟨m, hn.sameBut sb haC, fun h3 sb3 => ?_⟩
  exact ⟨_, H', I2.turned (t' := s2.toks) (fun b o hb e => (sb3.2 b hb).trans e) f0 f1 f3 f4 f5, q⟩
theorem is_setDc (hc : X.calm = true) (hN : X.N.Nodup) (hr : i ∉ ro) (hi : II X tg iter it) (ok : BlkOk X.N X.env.scope scope own)
    (hg : ∀ (s : Shared) (H : Hp) (C : Addr) (cl : List (Str × Addr)) (fp : List Addr), IG (X.blk s H scope (compEnvC scope cl C X.env) fp) (compl X.N.length (own.map (·.2))) tg g)
    (ht : ∀ (s : Shared) (H : Hp) (C : Addr) (cl : List (Str × Addr)) (fp : List Addr), ITs (X.blk s H scope (compEnvC scope cl C X.env) fp) ifs t)
    (hk : ∀ (s : Shared) (H : Hp) (C : Addr) (cl : List (Str × Addr)) (fp : List Addr), IE (X.blk s H scope (compEnvC scope cl C X.env) fp) kx fk)
    (he : ∀ (s : Shared) (H : Hp) (C : Addr) (cl : List (Str × Addr)) (fp : List Addr), IE (X.blk s H scope (compEnvC scope cl C X.env) fp) vx fv)
    (hsw : swapsWith (.DictComp kx vx [⟨tg, iter, ifs, 0⟩] scope pos) (some (.Name y py)) spos.line X.env = pure true)
    (hy : X.N[i]? = some y := by rfl) (hyl : X.env.scope.names.lookup y = some .local := by rfl)
    (hs : ∀ x, foldedSetIterable iter X.env x = pure x := by intro _; rfl) : IS X ro (.Assign [.Name y py] (.DictComp kx vx [⟨tg, iter, ifs, 0⟩] scope pos) spos) (sSet (gN i) (eDc (own.map (·.2)) it g t fk fv)) :=
  ⟨fun pins s σ H D I q => (ps_setDc (gg := tG X.K (compl X.N.length (own.map fun p : Str × Nat => p.2)) g) (tt := tT X.K t) (tk := tE X.K fk) (tv := tE X.K fv) hc hN hy hyl hsw hi ok hg ht hk he hs).run pins s σ H D I (dc_of I.len.symm (tE_mono (tS_bind q) fun x H1 ⟨env, L, F, v, o, env', z, rel, e, k⟩ => by
    cases e1 : gN i v env with
    | none => simp [e1] at e
    | some env1 =>
      simp [e1] at e
      obtain ⟨e2, e3⟩ := e
      subst e2 e3
      unfold gN at e1
      split at e1
      · rename_i hl
        injection e1 with e1; subst e1
        obtain ⟨L1, h1, L2, z2, h2⟩ := z.store hl v x
        refine k _ L2 F H1 z2 (fun j hj => ?_) (((Stp.refl rel).less (h1.cons_cons _)).perm h2)
        exact List.getElem?_set_ne (show i ≠ j from fun w => hr (by rw [w]; exact hj))
      · cases e1))⟩
end

/-! ### room -/
theorem u128 {k : Nat} {A : Around} (r : Room k A) : A.units + 128 < cLine := by have := r.un; omega
theorem u64 {k : Nat} {A : Around} (r : Room k A) : A.units + 64 < cLine := by have := r.un; omega

/-! ### a def that has not run out -/
theorem cal_none {P : Program} {w : World} {K : PySem.W.Frag} {mg : Str → Option Value} {base : Heap} {x qual : Str} {params : Arguments} {body : List Stmt} {scope : Scope} {f : Addr} {fd : FuncData} {ps : List Str} {io : List Nat} {np k : Nat} (F : FunD K x qual params body scope [] [] f fd) (hm : mg x = some (.ref f)) (b : Binds K fd ps []) : CalW P w K mg base k x io np fun _ => none :=
  have no : ∀ vs H Q E, ¬ spF K io np (fun _ => none) vs H Q E := fun vs H Q E ⟨as, F, h1, h2, h3, r, outs, e, _⟩ => by cases e
  ⟨f, fd, ps, ⟨fun vs H Q E h => (no _ _ _ _ h).elim, fun A outer s H args us vs Q E hr he hb hv h => (no _ _ _ _ h).elim⟩, hm, F.kp, b⟩
theorem cal_ok {P : Program} {w : World} {K : PySem.W.Frag} {mg : Str → Option Value} {base : Heap} {x : Str} {params : Arguments} {body : List Stmt} {scope : Scope} {f : Addr} {fd : FuncData} {N ps : List Str} {k : Nat} {io : List Nat} {den : XS} {n np : Nat}
    (F : FunD K x x params body scope [] [] f fd) (hm : mg x = some (.ref f)) (b : Binds K fd ps []) (S : FnScope N ps scope) (hn : N.length = n) (hp : ps.length = np)
    (hb : ∀ (cdv : Value) (A : Around) (outer : List Env) (s : Shared) (H : Hp) (E : XK), Room k (A.deeper (envOfC x scope s.heap.objs.size f cdv)) → IB (cxOf CX0 P w K mg base N x scope f cdv A outer s H E).nox io body den) :
    CalW P w K mg base (k + 1) x io np (fnSem n np io den) := ⟨f, fd, ps, fn_ok F S hn hp hb, hm, F.kp, b⟩
theorem CalW.mono {P : Program} {w : World} {K : PySem.W.Frag} {mg : Str → Option Value} {base : Heap} {x : Str} {j k np : Nat} {io : List Nat} {m : FS} (c : CalW P w K mg base j x io np m) (h : j ≤ k) : CalW P w K mg base k x io np m := by
  obtain ⟨f, fd, ps, FO, hm, kp, b⟩ := c.ex
  exact ⟨f, fd, ps, FO.mono h, hm, kp, b⟩
/-- a plainer worth of a def -/
theorem CalW.imp {P : Program} {w : World} {K : PySem.W.Frag} {mg : Str → Option Value} {base : Heap} {x : Str} {k np : Nat} {io : List Nat} {m m' : FS} (c : CalW P w K mg base k x io np m) (h : ∀ as r, m' as = some r → m as = some r) : CalW P w K mg base k x io np m' := by
  obtain ⟨f, fd, ps, FO, hm, kp, b⟩ := c.ex
  refine ⟨f, fd, ps, FO.imp fun vs H Q E q => ?_, hm, kp, b⟩
  obtain ⟨as, F, h1, h2, h3, r, outs, e, q⟩ := q
  exact ⟨as, F, h1, h2, h3, r, outs, h _ _ e, q⟩
/-! ### built-in names -/
theorem bt_tuple : bootBuiltins "tuple" = some (.type "tuple") := by decide +kernel
theorem bt_list : bootBuiltins "list" = some (.type "list") := by decide +kernel
theorem bt_int : bootBuiltins "int" = some (.type "int") := by decide +kernel
theorem bt_bool : bootBuiltins "bool" = some (.type "bool") := by decide +kernel
theorem bt_str : bootBuiltins "str" = some (.type "str") := by decide +kernel
theorem bt_dict : bootBuiltins "dict" = some (.type "dict") := by decide +kernel
theorem bt_set : bootBuiltins "set" = some (.type "set") := by decide +kernel
theorem bt_range : bootBuiltins "range" = some (.type "range") := by decide +kernel
theorem bt_enumerate : bootBuiltins "enumerate" = some (.type "enumerate") := by decide +kernel
theorem bt_zip : bootBuiltins "zip" = some (.type "zip") := by decide +kernel
theorem bt_float : bootBuiltins "float" = some (.type "float") := by decide +kernel
theorem bt_frozenset : bootBuiltins "frozenset" = some (.type "frozenset") := by decide +kernel
theorem bt_len : bootBuiltins "len" = some (.builtin "len") := by decide +kernel
theorem bt_min : bootBuiltins "min" = some (.builtin "min") := by decide +kernel
theorem bt_max : bootBuiltins "max" = some (.builtin "max") := by decide +kernel
theorem bt_sum : bootBuiltins "sum" = some (.builtin "sum") := by decide +kernel
theorem bt_sorted : bootBuiltins "sorted" = some (.builtin "sorted") := by decide +kernel
theorem bt_isinstance : bootBuiltins "isinstance" = some (.builtin "isinstance") := by decide +kernel
theorem bt_any : bootBuiltins "any" = some (.builtin "any") := by decide +kernel
theorem bt_all : bootBuiltins "all" = some (.builtin "all") := by decide +kernel
theorem bt_abs : bootBuiltins "abs" = some (.builtin "abs") := by decide +kernel
end Wk
end

section
/-! W21: items stored; places in lists; least and greatest. -/
namespace Wk
open PySem PySem.Spec PyProof.Rows L2

theorem compl_no {n : Nat} {own : List Nat} {i : Nat} (h : i ∈ own) : i ∉ compl n own := fun w => by
  have := (List.mem_filter.mp w).2
  simp [h] at this

/-- the law's call -/
theorem law_sp {K : PySem.W.Frag} {m : FS} {a : Addr} {ns : List Int} {H : Hp} (h : m [fz (.scr (ns.map D.int))] = some (fz (.bl true), [])) (hS : SqL K H a (ns.map V.int)) : spF K [] 1 m [.ref a] H (fun v _ => v = .bl true) fun _ _ _ => False := by
  have reps : Reps K H (ns.map V.int) (ns.map D.int) := by
    clear h hS
    induction ns with
    | nil => exact .nil
    | cons n ns ih => exact .cons (.int n) ih
  refine ⟨[fz (.scr (ns.map D.int))], H, rfl, rfl, ⟨Same.refl _, fun p hp => ?_, List.nodup_nil⟩, _, _, h, fun x F' H' st => ?_⟩
  · have e : p = (fz (.scr (ns.map D.int)), V.ref a) := by simpa using hp
    subst e
    exact VOk.fz.mpr (.scr hS reps)
  · exact (st.rel.ok _ List.mem_cons_self).bl
/-! ### x[k] = v -/
def putD : D → D → D → Option D
  | .lst xs, .int k, y => (ixN xs.length k).map fun j => .lst (xs.set j y)
  | .dct ks vs, x, y => if (keyD x).isSome ∧ ks.length < sizeLine then some (.dct (dput ks vs x y).1 (dput ks vs x y).2) else none
  | _, _, _ => none
def gS (i : Nat) (fk : XE) : Val → En → Option En := fun v env => if v.o = false then (match env[i]? with
  | some (some _) => (fk env).bind fun q => match q.2[i]? with
    | some (some ⟨true, d⟩) => (putD d q.1.d v.d).map fun d' => q.2.set i (some (ow d'))
    | _ => none
  | _ => none) else none
def rSetG : TSet := fun o i v H Q => rSetL o i v H Q ∨ rSetD o i v H Q
theorem set_G {X : Cx} (hu : X.A.units + 64 < cLine) : PSet X rSetG := by
  rintro pins s σ H o i v ov iv u Q I ro ri rv (h | h)
  · exact set_list pins s σ H o i v ov iv u Q I ro ri rv h
  · exact set_dict (by omega) pins s σ H o i v ov iv u Q I ro ri rv h
theorem ig_put {X : Cx} {ro : List Nat} {i : Nat} {x : Str} {k : Expr} {fk : XE} {pos p : Pos} (hu : X.A.units + 64 < cLine) (hk : IE X k fk) (hN : X.N[i]? = some x := by rfl) (hv : Vis X.env.scope x := by first | exact Or.inl rfl | exact Or.inr (Or.inl rfl) | exact Or.inr (Or.inr rfl)) (hd : (x == ("__debug__" : Str)) = false := by decide) (hcd : (x == ("__classdict__" : Str)) = false := by decide)
    (ha : ∀ v, assign (.Subscript (.Name x p) k pos) X.env v = (do
      let ov ← holding [v] (eval (.Name x p) X.env)
      let iv ← holding [v, ov] (eval k X.env)
      standAt pos
      holding [v, ov, iv] (setItem ov iv v)
      release [v, ov, iv] []) := by intro _; rfl) : IG X ro (.Subscript (.Name x p) k pos) (gS i fk) :=
  PG.imp (pg_sub (pe_var hN hv hd hcd) hk (set_G hu) ha) fun y σ H Q ⟨env, L, F, v, env', z, rel, e, q⟩ => by
    unfold gS at e
    split at e
    · rename_i hvo
      split at e
      · rename_i v0 hv0
        obtain ⟨o, ho, _⟩ := z.at hv0
        cases e1 : fk env with
        | none => rw [e1] at e; cases e
        | some r =>
          obtain ⟨q1, env1⟩ := r
          rw [e1] at e
          simp only [Option.bind_some] at e
          split at e
          · rename_i d hd
            obtain ⟨d', e2, e3⟩ := Option.map_eq_some_iff.mp e
            subst e3
            refine ⟨o, ho, env, L, F, q1, env1, z, rel.tail, e1, fun y1 L1 F1 H1 z1 s1 => ?_⟩
            have s2 : Stp _ _ F H ((v, y) :: (q1, y1) :: L1) F1 H1 := s1.frame1 rel
            obtain ⟨o', La, Lb, ho', eL, _, _, hset, _⟩ := z1.get hd
            rw [ho] at ho'; injection ho' with ho'; injection ho' with ho'
            subst ho' eL
            have hy : Rep X.K F1 y v.d := fz_of (s2.rel.ok _ List.mem_cons_self) hvo
            have hq1 := s2.rel.ok (q1, y1) (by simp)
            have s3 : Stp X.K _ F H ((ow d, o) :: (La ++ Lb)) F1 H1 := ((s2.tail).tail).perm List.perm_middle
            obtain ⟨a, ea, hF, cell⟩ := VOk.ow.mp (s3.rel.ok _ List.mem_cons_self)
            have ea : o = .ref a := ea
            subst ea
            unfold putD at e2
            split at e2
            · rename_i xs kk hqd
              obtain ⟨j, hj, e4⟩ := Option.map_eq_some_iff.mp e2
              subst e4
              obtain ⟨vs, hH, r⟩ := cell
              have hi : y1 = .int kk := hq1.fix.2.2.1 kk hqd
              refine .inl ⟨a, vs, kk, j, rfl, hi, hH, by rw [r.length]; exact hj, ?_⟩
              have s4 := s3.trans (Stp.write s3.rel (d' := .lst (xs.set j v.d)) (o := .lst (vs.set j y)) ⟨_, upd_same, r.set hy j⟩)
              exact q σ _ F1 _ (hset _) rfl (fun _ _ => rfl) (s4.perm List.perm_middle.symm)
            · rename_i ks vs x' y'
              split at e2
              · rename_i hkk
                injection e2 with e2
                subst e2
                obtain ⟨kvs, hH, r1, r2⟩ := cell
                obtain ⟨kq, hkq⟩ := Option.isSome_iff_exists.mp hkk.1
                have ey : y1 = kV kq := hq1.frz hkq
                have rk : Rep X.K F1 (kV kq) q1.d := by
                  have h0 : Rep X.K F1 y1 q1.d := hq1.scalar fun _ ⟨_, c⟩ => by
                    cases hd : q1.d <;> rw [hd] at hkq c <;> simp [keyD] at hkq <;> exact c
                  rw [ey] at h0
                  exact h0
                obtain ⟨p1, p2⟩ := put_reps hkq rk hy r1 r2
                have hlk : kvs.length < sizeLine := by
                  have := r1.length
                  rw [List.length_map] at this
                  rw [this]; exact hkk.2
                refine .inr ⟨a, _, rfl, by rw [ey]; exact .k hH hlk, ?_⟩
                have s4 := s3.trans (Stp.write (d' := .dct _ _) (o := .dK (putK kvs kq y)) s3.rel ⟨_, upd_same, p1, p2⟩)
                exact q σ _ F1 _ (hset _) rfl (fun _ _ => rfl) (s4.perm List.perm_middle.symm)
              · cases e2
            · cases e2
          · cases e
      · cases e
    · cases e
end Wk
end

section
/-! W22: places in lists. -/
namespace Wk
open PySem PySem.Spec PyProof.Rows L2
theorem pyL_map : ∀ xs : List D, pyL xs = xs.map py
  | [] => rfl
  | x :: xs => by
    show py x :: pyL xs = _
    rw [pyL_map xs]
    rfl
def indexD : D → D → Option Val
  | .lst xs, x => if (dataL xs && decide (depL xs < 64) && dataD x && decide (depD x ≤ 64)) = true then (xs.findIdx? fun z => deq z x).map (fun j : Nat => fz (.int (j : Int))) else none
  | _, _ => none
theorem mg_index {X : Cx} (hu : X.A.units + 128 < cLine) : MtG X "list.index" (g2 indexD) := by
  rintro pins s σ H x xs v us Q I rx rs ⟨F, vs, w, sF, hvs, e0, q⟩
  obtain ⟨⟨ao, ad⟩, ⟨bo, bd⟩, rfl, e⟩ := g2_inv e0
  clear e0
  obtain ⟨x', y, ex, hx, hy⟩ := hvs.two
  injection ex with e1 e2
  subst e1 e2
  change indexD ad bd = some w at e
  unfold indexD at e
  split at e
  · rename_i ds
    split at e
    · rename_i hok
      simp only [Bool.and_eq_true, decide_eq_true_eq] at hok
      obtain ⟨⟨⟨h1, h2⟩, h3⟩, h4⟩ := hok
      obtain ⟨j, hj, rfl⟩ := Option.map_eq_some_iff.mp e
      obtain ⟨jl, j1, j2⟩ := List.findIdx?_eq_some_iff_getElem.mp hj
      obtain ⟨a, vs, exx, hH, rp⟩ := hx.lst sF
      obtain ⟨d1, d2⟩ := hx.dp sF (by simpa [dataD] using h1) (by simp only [depD]; omega)
      obtain ⟨d3, d4⟩ := hy.dp sF h3 h4
      subst exx
      have ep : py (.lst ds) = .list (pyL ds) := by simp [py]
      rw [ep] at d1 d2
      refine mt_indexD (by omega) pins s σ H _ _ v us Q I rx rs ⟨a, y, py bd, pyL ds, j, py ds[j], rfl, rfl, d1, d3, d2, d4, ?_, ?_, fun m z' hm hz => ?_, old_fz sF q (.int _)⟩
      · rw [pyL_map, List.getElem?_map, List.getElem?_eq_getElem jl]; rfl
      · rw [eqv_py _ _ (dataL_mem h1 _ (List.getElem_mem jl)) h3]; exact j1
      · rw [pyL_map, List.getElem?_map] at hz
        obtain ⟨d, hd, rfl⟩ := Option.map_eq_some_iff.mp hz
        obtain ⟨hml, hd2⟩ := List.getElem?_eq_some_iff.mp hd
        have := j2 m hm
        rw [hd2] at this
        rw [eqv_py _ _ (dataL_mem h1 _ (List.mem_of_getElem? hd)) h3]
        simpa using this
    · cases e
  · cases e
end Wk
end

section
/-! W23: all, any, abs, bool; starred displays; lists turned round. -/
namespace Wk
open PySem PySem.Spec PyProof.Rows L2

def blsD : List D → Option (List Bool)
  | [] => some []
  | .bl i :: r => (blsD r).map (i :: ·)
  | _ => none
theorem blsD_eq : ∀ {ds : List D} {ns : List Bool}, blsD ds = some ns → ds = ns.map D.bl
  | [], ns, e => by injection e with e; subst e; rfl
  | .bl i :: r, ns, e => by
    obtain ⟨ms, q1, q2⟩ := Option.map_eq_some_iff.mp (show (blsD r).map (i :: ·) = some ns from e)
    subst q2
    rw [blsD_eq q1]
    rfl
  | .non :: _, _, e => by cases e
  | .int _ :: _, _, e => by cases e
  | .str _ :: _, _, e => by cases e
  | .tup _ :: _, _, e => by cases e
  | .lst _ :: _, _, e => by cases e
  | .scr _ :: _, _, e => by cases e
  | .dct _ _ :: _, _, e => by cases e
  | .obj _ _ _ :: _, _, e => by cases e
theorem bls_of {K : PySem.W.Frag} {F : Hp} : ∀ {ns : List Bool} {vs : List V}, Reps K F vs (ns.map D.bl) → vs = ns.map V.bl
  | [], vs, r => by cases r; rfl
  | n :: ns, vs, r => by
    cases r with
    | cons r1 r2 => rw [r1.bl_inv, bls_of r2]; rfl
def allD : D → Option Val
  | .lst xs => (blsD xs).map fun bs => fz (.bl (bs.all id))
  | _ => none
def anyD : D → Option Val
  | .lst xs => (blsD xs).map fun bs => fz (.bl (bs.any id))
  | _ => none
theorem cg_all {X : Cx} (hc : X.calm = true) : CallG X (.builtin "all") (g1 allD) := by
  rintro pins s σ H xs us Q I r ⟨F, vs, w, sF, hvs, e0, q⟩
  obtain ⟨⟨ao, ad⟩, rfl, e⟩ := g1_inv e0
  obtain ⟨x, rfl, hx⟩ := hvs.one
  change allD ad = some w at e
  unfold allD at e
  split at e
  · obtain ⟨ns, q1, q2⟩ := Option.map_eq_some_iff.mp e
    subst q2
    obtain ⟨a, vs, ex, hH, r'⟩ := hx.lst sF
    rw [blsD_eq q1] at r'
    exact cr_all hc pins s σ H _ us Q I r ⟨a, ns, by rw [ex], .of (by rw [← bls_of r']; exact hH), old_fz sF q (.bl _)⟩
  · cases e
theorem cg_any {X : Cx} (hc : X.calm = true) : CallG X (.builtin "any") (g1 anyD) := by
  rintro pins s σ H xs us Q I r ⟨F, vs, w, sF, hvs, e0, q⟩
  obtain ⟨⟨ao, ad⟩, rfl, e⟩ := g1_inv e0
  obtain ⟨x, rfl, hx⟩ := hvs.one
  change anyD ad = some w at e
  unfold anyD at e
  split at e
  · obtain ⟨ns, q1, q2⟩ := Option.map_eq_some_iff.mp e
    subst q2
    obtain ⟨a, vs, ex, hH, r'⟩ := hx.lst sF
    rw [blsD_eq q1] at r'
    exact cr_any hc pins s σ H _ us Q I r ⟨a, ns, by rw [ex], .of (by rw [← bls_of r']; exact hH), old_fz sF q (.bl _)⟩
  · cases e
def absD : D → Option Val
  | .int i => some (fz (.int (if i < 0 then -i else i)))
  | _ => none
theorem cg_abs {X : Cx} : CallG X (.builtin "abs") (g1 absD) := by
  rintro pins s σ H xs us Q I r ⟨F, vs, w, sF, hvs, e0, q⟩
  obtain ⟨⟨ao, ad⟩, rfl, e⟩ := g1_inv e0
  obtain ⟨x, rfl, hx⟩ := hvs.one
  change absD ad = some w at e
  unfold absD at e
  split at e
  · injection e with e; subst e
    exact call_abs pins s σ H _ us Q I r ⟨_, by rw [hx.int], old_fz sF q (.int _)⟩
  · cases e
/-! ### xs[::-1] of a list -/
def revD : D → Option Val
  | .lst xs => some (ow (.lst xs.reverse))
  | _ => none
section
variable {X : Cx} {e : Expr} {o : Opd} {k : Nat} {pa pb pc pd : Pos}
theorem ie_rev (he : IO X e o) : IE X (.Subscript e (.Slice none none (some (.UnaryOp .USub (.Constant (.int 1) k pa) pb)) pc) pd) (eApp (g1 revD) [o]) := PE.imp (pe_revL he) fun σ H Q h => by
  refine tO_mono (tA_cons (app_core ok_gL h)) fun x H1 h1 => ?_
  obtain ⟨F, vs, w, sF, hvs, e0, q⟩ := tA_nil h1
  obtain ⟨⟨ao, ad⟩, rfl, e⟩ := g1_inv e0
  obtain ⟨x', ex, hx⟩ := hvs.one
  injection ex with ex _
  subst ex
  change revD ad = some w at e
  unfold revD at e
  split at e
  · injection e with e; subst e
    obtain ⟨a, vs, ex, hH, rp⟩ := hx.lst sF
    exact ⟨a, vs, ex, .of hH, fun p hp => new_lst sF q hp rp.reverse⟩
  · cases e
end
/-! ### starred displays -/
def starD : D → Option (List D)
  | .tup xs => some xs
  | .lst xs => some xs
  | _ => none
def evsS : List (Bool × XE) → En → Option (List D × En)
  | [], env => some ([], env)
  | p :: r, env => (p.2 env).bind fun v => (if p.1 = true then starD v.1.d else some [v.1.d]).bind fun ds => (evsS r v.2).bind fun q => some (ds ++ q.1, q.2)
def tAS (K : PySem.W.Frag) (ps : List (Bool × XE)) : TA := fun σ H Q => ∃ env L F ds env', Zip env σ L ∧ Rel K L F H ∧ evsS ps env = some (ds, env') ∧
  ∀ xs L' F' H', Zip env' σ L' → Stp K L F H L' F' H' → Reps K F' xs ds → Q xs H'
def IAS (X : Cx) (es : List Expr) (ps : List (Bool × XE)) : Prop := PA X es (tAS X.K ps)
theorem tAS_nil {K : PySem.W.Frag} {σ : L2.St} {H : Hp} {Q : List V → Hp → Prop} (h : tAS K [] σ H Q) : Q [] H := by
  obtain ⟨env, L, F, ds, env', z, rel, e, q⟩ := h
  injection e with e; injection e with e1 e2
  subst e1 e2
  exact q [] L F H z (.refl rel) .nil
theorem tAS_head {K : PySem.W.Frag} {b : Bool} {f : XE} {ps : List (Bool × XE)} {σ : L2.St} {H : Hp} {Q : List V → Hp → Prop} (h : tAS K ((b, f) :: ps) σ H Q) :
    tE K f σ H fun x H1 => ∃ F1 d ds, Same F1 H1 ∧ Rep K F1 x d ∧ (if b = true then starD d else some [d]) = some ds ∧ ∀ xs, Reps K F1 xs ds → tAS K ps σ H1 fun ys H2 => Q (xs ++ ys) H2 := by
  obtain ⟨env, L, F, ds, env', z, rel, e, q⟩ := h
  unfold evsS at e
  cases e1 : f env with
  | none => simp [e1] at e
  | some p =>
    obtain ⟨⟨o, d⟩, env1⟩ := p
    simp only [e1, Option.bind_some] at e
    cases e2 : (if b = true then starD d else some [d]) with
    | none => simp [e2] at e
    | some ds1 =>
      simp only [e2, Option.bind_some] at e
      cases e3 : evsS ps env1 with
      | none => simp [e3] at e
      | some p2 =>
        obtain ⟨ds2, env2⟩ := p2
        simp only [e3, Option.bind_some, Option.some.injEq, Prod.mk.injEq] at e
        obtain ⟨rfl, rfl⟩ := e
        refine ⟨env, L, F, _, env1, z, rel, e1, fun x L1 F1 H1 z1 s1 => ?_⟩
        obtain ⟨F2, s2, rp, _⟩ := Stp.freeze (o := o) (d := d) s1.rel
        have s3 := s1.trans s2
        refine ⟨F2, d, ds1, s3.rel.sub, rp, e2, fun xs rxs => ⟨env1, L1, F2, ds2, env2, z1, s3.rel.tail, e3, fun ys L' F' H' z2 s4 rys => ?_⟩⟩
        refine q (xs ++ ys) L' F' H' z2 ?_ ((rxs.mono s4.mono).append rys)
        exact (s3.trans (s4.frame1 s3.rel)).tail
section
variable {X : Cx} {e : Expr} {es : List Expr} {f : XE} {ps : List (Bool × XE)} {p pos : Pos}
theorem ias_nil : IAS X [] [] := PA.imp pa_nil fun _ _ _ h => tAS_nil h
theorem ias_cons (h : IE X e f) (t : IAS X es ps) (hs : starEach (e :: es) X.env = (false, eval e X.env) :: starEach es X.env := by rfl) : IAS X (e :: es) ((false, f) :: ps) := PA.imp (pa_cons h t hs) fun σ H Q h => tE_mono (tAS_head h) fun x H1 ⟨F1, d, ds, sF, rp, e, q⟩ => by
  injection e with e; subst e
  exact q [x] (.cons rp .nil)
theorem ias_star (h : IE X e f) (t : IAS X es ps) (hs : starEach (.Starred e p :: es) X.env = (true, eval e X.env) :: starEach es X.env := by rfl) : IAS X (.Starred e p :: es) ((true, f) :: ps) := PA.imp (StX.pa_star h t hs) fun σ H Q h => tE_mono (tAS_head h) fun x H1 ⟨F1, d, ds, sF, rp, e, q⟩ => by
  change starD d = some ds at e
  unfold starD at e
  split at e
  · injection e with e; subst e
    cases rp with
    | tup h r => exact ⟨_, _, rfl, .inl (sF.seqT h), q _ r⟩
  · injection e with e; subst e
    cases rp with
    | lst h r => exact ⟨_, _, rfl, .inr (.of (sF _ _ h)), q _ r⟩
  · cases e
def eTupS (ps : List (Bool × XE)) : XE := fun env => (evsS ps env).bind fun q => if q.1.length ≤ sizeLine then some (fz (.tup q.1), q.2) else none
def eLstS (ps : List (Bool × XE)) : XE := fun env => (evsS ps env).bind fun q => if q.1.length ≤ sizeLine then some (ow (.lst q.1), q.2) else none
theorem dispS_core {K : PySem.W.Frag} {ps : List (Bool × XE)} {mk : List D → Val} {ob : List V → HO} {σ : L2.St} {H : Hp} {Q : VK}
    (hm : ∀ F H p xs ds, H p = none → Same F H → Reps K F xs ds → ∃ F', Stp K [] F H [(mk ds, .ref p)] F' (upd H p (ob xs)))
    (h : tE K (fun env => (evsS ps env).bind fun q => if q.1.length ≤ sizeLine then some (mk q.1, q.2) else none) σ H Q) :
    tAS K ps σ H fun xs H1 => xs.length ≤ sizeLine ∧ ∀ p, H1 p = none → Q (.ref p) (upd H1 p (ob xs)) := by
  obtain ⟨env, L, F, v, env', z, rel, e, q⟩ := h
  cases e1 : evsS ps env with
  | none => simp [e1] at e
  | some r =>
    obtain ⟨ds, env1⟩ := r
    simp only [e1, Option.bind_some] at e
    split at e
    · rename_i hl
      injection e with e; injection e with e4 e5
      subst e4 e5
      refine ⟨env, L, F, ds, env1, z, rel, e1, fun xs L' F' H' z1 s1 rp => ⟨by rw [rp.length]; exact hl, fun p hp => ?_⟩⟩
      obtain ⟨F3, s4⟩ := hm F' H' p xs ds hp s1.rel.sub rp
      exact q _ L' F3 _ z1 (s1.trans (s4.frame (L := []) (T := L') s1.rel))
    · cases e
theorem ie_tupS {k : Nat} (ha : IAS X es ps) : IE X (.Tuple es k pos) (eTupS ps) := PE.imp (pe_tup ha) fun σ H Q h => dispS_core (mk := fun ds => fz (.tup ds)) (ob := .tup) (fun F H p xs ds hp s r => Stp.new (K := X.K) (v := fz (.tup ds)) s hp (.inr ⟨rfl, .tup (.inl (.inl upd_same)) (r.mono (same_upd (same_none s hp)))⟩)) h
theorem ie_lstS (ha : IAS X es ps) : IE X (.List es pos) (eLstS ps) := PE.imp (pe_lst ha) fun σ H Q h => dispS_core (mk := fun ds => ow (.lst ds)) (ob := .lst) (fun F H p xs ds hp s r => Stp.new (K := X.K) (v := ow (.lst ds)) s hp (.inl ⟨rfl, _, upd_same, r⟩)) h
end
end Wk
end

section
/-! W24: enumerate and zip over lists and tuples, in any mixture; reversed; ranges with a step. -/
namespace Wk
open PySem PySem.Spec PyProof.Rows L2

/-! ### the two sources: b: a tuple, otherwise a list -/
def sqB (b : Bool) (K : PySem.W.Frag) (H : Hp) (a : Addr) (xs : List V) : Prop := if b = true then SqT K H a xs else SqL K H a xs
def itB (b : Bool) (h : Heap) (it a : Addr) (i : Nat) : Prop := if b = true then h.IsTupleIter it a i else h.IsListIter it a i
def isB (b : Bool) (h : Heap) (a : Addr) (items : Array Value) : Prop := if b = true then h.IsTuple a items else h.IsList a items
def newB (b : Bool) (a : Addr) : Obj := if b = true then { cls := .type "tuple_iterator", data := .fields #[.ref a, .int 0 0] } else { cls := .type "list_iterator", data := .fields #[.ref a, .int 0 0] }
theorem drawsB {prog : Program} {w : World} {A : Around} (hh : A.handled = none) (b : Bool) (it a : Addr) (hne : a ≠ it) (items : Array Value) :
    Draws prog w A it [it, a] items.size (fun i v => items[i]? = some v) (fun i h => itB b h it a i ∧ isB b h a items) := by
  cases b with
  | true => exact Draws.tuple hh it a hne items
  | false => exact Draws.list hh it a hne items
theorem beginsB (b : Bool) (a : Addr) (items : Array Value) : Begins (.ref a) (newB b a) fun h => isB b h a items := by
  cases b with
  | true => exact begins_tuple a items
  | false => exact begins_list a items
theorem newB_it {b : Bool} {h : Heap} {it a : Addr} (e : h.get? it = some (newB b a)) : itB b h it a 0 := by
  cases b with
  | true => exact ⟨_, e, rfl, rfl⟩
  | false => exact ⟨_, e, rfl, rfl⟩
theorem itB_obj {b : Bool} {h : Heap} {it a : Addr} {i : Nat} (x : itB b h it a i) : ∃ o, h.get? it = some o ∧ o.data = .fields #[.ref a, .int i 0] := by
  cases b with
  | true => obtain ⟨o, e, _, d⟩ := x; exact ⟨o, e, d⟩
  | false => obtain ⟨o, e, _, d⟩ := x; exact ⟨o, e, d⟩
theorem itB_at {b : Bool} {h h' : Heap} {it a : Addr} {i : Nat} (x : itB b h it a i) (k : ∀ o, h.get? it = some o → h'.get? it = some o) : itB b h' it a i := by
  cases b with
  | true => obtain ⟨o, e, r⟩ := x; exact ⟨o, k o e, r⟩
  | false => obtain ⟨o, e, r⟩ := x; exact ⟨o, k o e, r⟩
theorem isB_obj {b : Bool} {h : Heap} {a : Addr} {items : Array Value} (x : isB b h a items) : ∃ o n, h.get? a = some o ∧ o.data = .seq items n := by
  cases b with
  | true => obtain ⟨o, e, _, n, d⟩ := x; exact ⟨o, n, e, d⟩
  | false => obtain ⟨o, e, _, n, d⟩ := x; exact ⟨o, n, e, d⟩
theorem inv_sqB {X : Cx} {pins : List (Addr × Obj)} {σ : L2.St} {H : Hp} {s : Shared} (I : Inv X pins σ H s) {b : Bool} {a : Addr} {xs : List V} (q : sqB b X.K H a xs) : ∃ its, Vals xs its ∧ isB b s.heap a its.toArray := by
  cases b with
  | true =>
    obtain ⟨its, rv, p, _⟩ := I.tuple q
    exact ⟨its, rv, p⟩
  | false =>
    obtain ⟨its, rv, p, _⟩ := I.list q
    exact ⟨its, rv, p.isList⟩
theorem sqB_mono {K : PySem.W.Frag} {H H' : Hp} {b : Bool} {a : Addr} {xs : List V} (e : Same H H') (q : sqB b K H a xs) : sqB b K H' a xs := by
  cases b with
  | true => exact e.seqT q
  | false => exact e.seq q
theorem sqB_inj {X : Cx} {pins : List (Addr × Obj)} {σ : L2.St} {H : Hp} {s : Shared} (I : Inv X pins σ H s) {b : Bool} {a : Addr} {xs ys : List V} (h : sqB b X.K H a xs) (h' : sqB b X.K H a ys) : xs = ys := by
  cases b with
  | true => exact I.tuple_inj h h'
  | false => exact I.list_inj h h'
/-- a frozen list or tuple, as a source -/
def seqIt : D → Option (Bool × List D)
  | .lst ds => some (false, ds)
  | .scr ds => some (false, ds)
  | .tup ds => some (true, ds)
  | _ => none
theorem rep_sqB {K : PySem.W.Frag} {F : Hp} {x : V} {d : D} {b : Bool} {ds : List D} (e : seqIt d = some (b, ds)) (r : Rep K F x d) : ∃ a vs, x = .ref a ∧ sqB b K F a vs ∧ Reps K F vs ds := by
  cases d with
  | lst xs => injection e with e; injection e with e1 e2; subst e1 e2; cases r with | lst h q => exact ⟨_, _, rfl, .of h, q⟩
  | scr xs => injection e with e; injection e with e1 e2; subst e1 e2; cases r with | scr h q => exact ⟨_, _, rfl, h, q⟩
  | tup xs => injection e with e; injection e with e1 e2; subst e1 e2; cases r with | tup h q => exact ⟨_, _, rfl, h, q⟩
  | _ => cases e
/-! ### enumerate -/
set_option maxHeartbeats 1000000 in
theorem meets_enum1 {v : Value} {o : Obj} {Hh : Heap → Prop} (B : Begins v o Hh) : Meets (Builtin.«enumerate.__new__» ⟨[.type "enumerate", v], []⟩) (fun _ R s => Hh s.heap ∧
    R (.ok (.ret (.ref (s.heap.push o).objs.size))) { s with heap := (s.heap.push o).push { cls := .type "enumerate", data := .fields #[.none, .bool false, .ref s.heap.objs.size, rawInt 0, .none, .none] } }) :=
  .of_wp fun prog w A R s h => by
    obtain ⟨hp, g, d, tk, os⟩ := s
    obtain ⟨hb, h⟩ := h
    have sub := sub_enumerate
    have step : ∀ {A' : Around} {E' : Value → Shared → Prop} {Q' : Value → Shared → Prop}, Q' (.ref hp.objs.size) ⟨hp.push o, g, d, tk, os⟩ → wpAny (model prog w) A' (pyIter v) Q' E' ⟨hp, g, d, tk, os⟩ :=
      fun z => B.iter prog w _ _ ⟨hp, g, d, tk, os⟩ _ hb z
    wp_walk using step
    first
      | exact ⟨_, rfl, h⟩
      | (refine wpAny_stack_any fun st => wpAny_pure ?_
         split
         · rename_i c _ _ _ _ _
           cases (c == Value.type "enumerate") <;> (wp_walk using step; exact ⟨_, rfl, h⟩)
         · wp_walk using step
           exact ⟨_, rfl, h⟩)
theorem call_enum1 {prog : Program} {w : World} {A : Around} {E : Value → Shared → Prop} {s : Shared} {v : Value} {o : Obj} {Hh : Heap → Prop} {Q : Value → Shared → Prop} (B : Begins v o Hh) (hb : Hh s.heap)
    (h : ∀ h', IsEnum h' (s.heap.objs.size + 1) s.heap.objs.size 0 .none → h'.get? s.heap.objs.size = some o → (∀ b u, s.heap.get? b = some u → h'.get? b = some u) → Q (.ref (s.heap.objs.size + 1)) { s with heap := h' }) :
    wpAny (model prog w) A (call (.type "enumerate") [v]) Q E s := by
  refine callType_new F.called_enumerate (by decide) (F.typeCall_enumerate_1 _) (F.newCall_enumerate_1 _) (fun obj => F.args_object_init_2 obj _) F.entry_enumerate_new (meets_enum1 B) ⟨hb, ?_⟩
  have z : (s.heap.push o).objs.size = s.heap.objs.size + 1 := Heap.size_push ..
  show _ ∧ _
  rw [z]
  have he : IsEnum ((s.heap.push o).push { cls := .type "enumerate", data := .fields #[.none, .bool false, .ref s.heap.objs.size, rawInt 0, .none, .none] }) (s.heap.objs.size + 1) s.heap.objs.size 0 .none := by
    have q := Heap.get?_push_size (s.heap.push o) (o := { cls := .type "enumerate", data := .fields #[.none, .bool false, .ref s.heap.objs.size, rawInt 0, .none, .none] }) rfl
    rwa [z] at q
  exact ⟨⟨_, he, rfl⟩, h _ he (Heap.get?_push_of_some _ (Heap.get?_push_size _ B.free)) fun b u e => Heap.get?_push_of_some _ (Heap.get?_push_of_some _ e)⟩
def ItEn (b : Bool) (K : PySem.W.Frag) (a : Addr) (n : Nat) : It :=
  ⟨fun i H => ∃ (xs : List V) (x : V), sqB b K H a xs ∧ xs.length = n ∧ xs[i]? = some x, fun i H v H' => ∃ T x, v = .ref T ∧ H T = none ∧ H' = upd H T (.tup [.int (i : Nat), x]) ∧ ∀ xs, sqB b K H a xs → xs[i]? = some x, fun i H => n ≤ i ∧ ∃ xs : List V, sqB b K H a xs ∧ xs.length = n⟩
theorem ne_of_obj {h : Heap} {a c : Addr} {o u : Obj} (e : h.get? a = some o) (e' : h.get? c = some u) (n : o.data ≠ u.data) : a ≠ c := fun z => by
  subst z
  rw [e] at e'
  injection e' with e'
  exact n (by rw [e'])
theorem turn_enB {P : Program} {w : World} {K : PySem.W.Frag} {elts : List Expr} {kk : Nat} {tpos : Pos} (b : Bool) (a e it : Addr) (n : Nat) :
    Turn P w K (.Tuple elts kk tpos) (ItEn b K a n) [e, it] e (fun i h => (∃ old, IsEnum h e it (0 + (i : Int)) old) ∧ itB b h it a i ∧ e ≠ it ∧ i ≤ n) where
  mem := by simp
  obj := fun i h st c hc => by
    obtain ⟨⟨old, he⟩, hi, _, _⟩ := st
    obtain ⟨o, ho, hd⟩ := itB_obj hi
    rcases (show c = e ∨ c = it by simpa using hc) with rfl | rfl
    · exact ⟨_, he, fun v q => nomatch q⟩
    · exact ⟨o, ho, fun v q => by rw [hd] at q; cases q⟩
  keep := fun i h h' ⟨⟨old, he⟩, hi, hn, hl⟩ k => ⟨⟨old, k e (by simp) _ he⟩, itB_at hi fun o q => k it (by simp) o q, hn, hl⟩
  item := by
    intro X hP hw hK hc i pins s σ H E I hf st hg
    subst hP hw hK
    obtain ⟨⟨old, he⟩, hit, hne, hin⟩ := st
    obtain ⟨xs, x, hq, hxl, hx⟩ := hg
    obtain ⟨its, rv, hp⟩ := inv_sqB I hq
    obtain ⟨u, hu, ru⟩ := rv.get hx
    obtain ⟨oi, ei, di⟩ := itB_obj hit
    obtain ⟨oa, na, ea, da⟩ := isB_obj hp
    have hai : a ≠ it := ne_of_obj ea ei (by rw [da, di]; exact fun z => nomatch z)
    have hea : e ≠ a := ne_of_obj he ea (by rw [da]; exact fun z => nomatch z)
    have hlt : i < its.toArray.size := by
      have := (List.getElem?_eq_some_iff.mp hu).1
      simpa using this
    have G := GoesN.enumFrom (elts := elts) (x1 := kk) (pos := tpos) 0 (drawsB (prog := X.prog) (w := X.w) (A := X.A.in1) (I.ok.hd hc) b it a hai its.toArray) e hne (by simp [hne, hea]) (by simp)
    refine G.goes i s _ E hlt ⟨⟨old, he⟩, hit, hp⟩ fun v h' tk ⟨T, t, y, ev, hT, hy, hTup⟩ ⟨he', hit', _⟩ hk _ => ?_
    subst ev
    have ey : u = y := by
      have h1 : its[i]? = some y := by simpa using hy
      rw [hu] at h1
      exact Option.some.inj h1
    subst ey
    have hl := rv.length
    have new : ObjOk X.prog X.w (upd H T (.tup [.int (i : Nat), x])) h' T (.tup [.int (i : Nat), x]) :=
      ⟨by show 2 ≤ sizeLine; decide, [.int (0 + (i : Int)) t, u], .cons ⟨_, by rw [Int.zero_add]⟩ (.cons ru .nil), hTup⟩
    have I1 : Inv X pins σ (upd H T (.tup [.int (i : Nat), x])) { s with heap := h', toks := tk } := I.turnedNew (ch := [e, it]) hk hf hT new
    refine ⟨.ref T, _, I1, rfl, ⟨T, x, rfl, I.hok.fresh hT, rfl, fun ys hy => by rw [sqB_inj I hy hq]; exact hx⟩, ⟨he', hit', hne, ?_⟩, fun c hc' => ?_⟩
    · have := (List.getElem?_eq_some_iff.mp hx).1
      omega
    · have hlt' : c < s.heap.objs.size := by
        rcases (show c = e ∨ c = it by simpa using hc') with rfl | rfl
        · exact Heap.lt_size he
        · exact Heap.lt_size ei
      rw [upd_ne (Nat.ne_of_lt (Nat.lt_of_lt_of_le hlt' hT))]
      exact (hf c hc').1
  done := by
    intro X hP hw hK hc i pins s σ H E I hf st hg
    subst hP hw hK
    obtain ⟨⟨old, he⟩, hit, hne, hin⟩ := st
    obtain ⟨hni, xs, hq, hxl⟩ := hg
    obtain ⟨its, rv, hp⟩ := inv_sqB I hq
    obtain ⟨oi, ei, di⟩ := itB_obj hit
    obtain ⟨oa, na, ea, da⟩ := isB_obj hp
    have hai : a ≠ it := ne_of_obj ea ei (by rw [da, di]; exact fun z => nomatch z)
    have hea : e ≠ a := ne_of_obj he ea (by rw [da]; exact fun z => nomatch z)
    have hl := rv.length
    have en : i = its.toArray.size := by rw [List.size_toArray]; omega
    have G := GoesN.enumFrom (elts := elts) (x1 := kk) (pos := tpos) 0 (drawsB (prog := X.prog) (w := X.w) (A := X.A.in1) (I.ok.hd hc) b it a hai its.toArray) e hne (by simp [hne, hea]) (by simp)
    refine G.stops s (fun s1 => Inv X pins σ H s1) E (by rw [← en]; exact ⟨⟨old, he⟩, hit, hp⟩) fun h' tk hk _ => ?_
    exact I.turnedL (ch := [e, it]) hk hf
  self := fun A i s Q E ⟨⟨_, he⟩, _⟩ h => wpAny_pyIter_enum he h
def iEnB (K : PySem.W.Frag) (te : TE) : TI := fun σ H R => te σ H fun v H1 => ∃ (b : Bool) (a : Addr) (xs : List V), v = .ref a ∧ sqB b K H1 a xs ∧ R (ItEn b K a xs.length) H1
theorem pi_enB {X : Cx} {e : Expr} {te : TE} {p pos tpos : Pos} {elts : List Expr} {kk : Nat} (hg : Gl X "enumerate") (hm : X.mg "enumerate" = none) (he : PE X e te) (hs : starEach [e] X.env = (false, eval e X.env) :: starEach [] X.env := by rfl) :
    PI X (.Tuple elts kk tpos) (.Call (.Name "enumerate" p) [e] [] pos) (iEnB X.K te) := by
  refine ⟨fun pins s σ H R I h => Call_ (ld_blt I hg hm boot_enumerate (PyProof.Rows.callWith_type1 (args_cons (thn (he.run pins s σ H _ I h) fun u s1 ⟨v, H1, I1, r1, q1⟩ => args_nil ?_) hs) hs rfl))⟩
  obtain ⟨b, a, xs, ev, hq, q⟩ := q1
  subst ev
  obtain rfl : u = Value.ref a := r1
  obtain ⟨its, rv, hp⟩ := inv_sqB I1 hq
  refine call_enum1 (beginsB b a its.toArray) hp fun h' hE hI hk => wpAny_pyIter_enum hE ?_
  have I2 : Inv X pins σ H1 { s1 with heap := h' } := I1.kept (t' := s1.toks) hk
  refine ⟨s1.heap.objs.size + 1, [s1.heap.objs.size + 1, s1.heap.objs.size], _, _, H1, rfl, I2, turn_enB b a (s1.heap.objs.size + 1) s1.heap.objs.size xs.length, ⟨⟨.none, hE⟩, newB_it hI, Nat.succ_ne_self _, Nat.zero_le _⟩, fun c hc => ?_, q⟩
  have hle : s1.heap.objs.size ≤ c := by
    rcases (show c = s1.heap.objs.size + 1 ∨ c = s1.heap.objs.size by simpa using hc) with rfl | rfl
    · exact Nat.le_add_right _ _
    · exact Nat.le_refl _
  exact I1.fpOk hle (I1.hok.fresh hle)
/-- the items with their places -/
def enumL (ds : List D) : List D := ds.zipIdx.map fun p : D × Nat => .tup [.int (p.2 : Int), p.1]
theorem walk_en {K : PySem.W.Frag} {Fb : Hp} {b : Bool} {a : Addr} {vs : List V} {ds : List D} (h : sqB b K Fb a vs) (r : Reps K Fb vs ds) : Walk K (ItEn b K a vs.length) (enumL ds) Fb := fun F H i m s => by
  have hq := sqB_mono s (sqB_mono m h)
  have hl := r.length
  refine ⟨fun d hd => ?_, fun hi => ⟨by simp [enumL] at hi; omega, vs, hq, rfl⟩⟩
  have hd' : ∃ z, ds[i]? = some z ∧ d = .tup [.int (i : Int), z] := by
    unfold enumL at hd
    rw [List.getElem?_map, List.getElem?_zipIdx] at hd
    cases e : ds[i]? with
    | none => rw [e] at hd; cases hd
    | some z => rw [e] at hd; exact ⟨z, rfl, by simpa using hd.symm⟩
  obtain ⟨z, hz, rfl⟩ := hd'
  obtain ⟨x, hx, rx⟩ := r.get hz
  refine ⟨⟨vs, x, hq, rfl, hx⟩, fun y H' hy => ?_⟩
  obtain ⟨T, x', rfl, hT, rfl, hx'⟩ := hy
  have ex : x = x' := Option.some.inj (hx.symm.trans (hx' vs hq))
  subst ex
  exact Stp.new (K := K) (v := fz (.tup [.int (i : Int), z])) s hT (.inr ⟨rfl, .tup (.inl (.inl upd_same)) ((Reps.cons (.int _) (.cons (rx.mono m) .nil)).mono (same_upd (same_none s hT)))⟩)
/-- one frozen value, then a walk over it -/
theorem walk_one {K : PySem.W.Frag} {f : XE} {k : D → Option (List D)} {W : V → Hp → (It → Hp → Prop) → Prop} {σ : L2.St} {H : Hp} {R : It → Hp → Prop}
    (hw : ∀ F H x d ds, Same F H → Rep K F x d → k d = some ds → ∀ R, (∀ J, Walk K J ds F → R J H) → W x H R)
    (h : tI K (fun env => (f env).bind fun p => (k p.1.d).bind fun ds => some (ds, p.2)) σ H R) : tE K f σ H fun x H1 => W x H1 R := by
  obtain ⟨env, L, F, ds, env', z, rel, e, q⟩ := h
  cases e1 : f env with
  | none => simp [e1] at e
  | some r =>
    obtain ⟨⟨o, d⟩, env1⟩ := r
    cases e2 : k d with
    | none => simp [e1, e2] at e
    | some ds2 =>
      simp [e1, e2] at e
      obtain ⟨rfl, rfl⟩ := e
      refine ⟨env, L, F, ⟨o, d⟩, env1, z, rel, e1, fun x L1 F1 H1 z1 s1 => ?_⟩
      obtain ⟨F2, s2, rp, _⟩ := Stp.freeze s1.rel
      exact hw F2 H1 x d ds2 s2.rel.sub rp e2 R fun J w => q J L1 F2 H1 z1 (s1.trans s2).tail w
def kEnum (d : D) : Option (List D) := (seqIt d).map fun r => enumL r.2
def xEnum (f : XE) : XI := fun env => (f env).bind fun p => (kEnum p.1.d).bind fun ds => some (ds, p.2)
theorem ii_enum {X : Cx} {e : Expr} {f : XE} {p pos tpos : Pos} {elts : List Expr} {kk : Nat} (hg : Gl X "enumerate") (hm : X.mg "enumerate" = none) (he : IE X e f) (hs : starEach [e] X.env = (false, eval e X.env) :: starEach [] X.env := by rfl) :
    II X (.Tuple elts kk tpos) (.Call (.Name "enumerate" p) [e] [] pos) (xEnum f) :=
  PI.imp (pi_enB hg hm he hs) fun σ H R h => walk_one (W := fun v H1 R => ∃ (b : Bool) (a : Addr) (xs : List V), v = .ref a ∧ sqB b X.K H1 a xs ∧ R (ItEn b X.K a xs.length) H1) (fun F H x d ds sF r e R q => by
    obtain ⟨⟨b, es⟩, e1, e2⟩ := Option.map_eq_some_iff.mp (show (seqIt d).map (fun r => enumL r.2) = some ds from e)
    subst e2
    obtain ⟨a, vs, rfl, hq, rp⟩ := rep_sqB e1 r
    exact ⟨b, a, vs, rfl, sqB_mono sF hq, q _ (walk_en hq rp)⟩) h
/-! ### reversed -/
def kRev (d : D) : Option (List D) := (seqIt d).map fun r => r.2.reverse
def xRev (f : XE) : XI := fun env => (f env).bind fun p => (kRev p.1.d).bind fun ds => some (ds, p.2)
theorem walk_revL {K : PySem.W.Frag} {Fb : Hp} {a : Addr} {vs : List V} {ds : List D} (h : SqL K Fb a vs) (r : Reps K Fb vs ds) : Walk K (Itv K a vs.length) ds.reverse Fb := fun F H i m s => by
  have hq := s.seq (m.seq h)
  have hl := r.length
  refine ⟨fun d hd => ?_, fun hi => by show vs.length ≤ i; rw [List.length_reverse] at hi; omega⟩
  obtain ⟨hi, _⟩ := List.getElem?_eq_some_iff.mp hd
  rw [List.length_reverse] at hi
  rw [List.getElem?_reverse hi, ← hl] at hd
  obtain ⟨x, hx, rx⟩ := r.get hd
  refine ⟨⟨by omega, vs, x, hq, hx⟩, fun y H' hy => ?_⟩
  obtain ⟨rfl, hy⟩ := hy
  have e : x = y := Option.some.inj (hx.symm.trans (hy vs hq))
  subst e
  exact ⟨F, Stp.val s (rx.mono m)⟩
theorem walk_revT {K : PySem.W.Frag} {Fb : Hp} {a : Addr} {vs : List V} {ds : List D} (h : SqT K Fb a vs) (r : Reps K Fb vs ds) : Walk K (RT.ItvT K a vs.length) ds.reverse Fb := fun F H i m s => by
  have hq := s.seqT (m.seqT h)
  have hl := r.length
  refine ⟨fun d hd => ?_, fun hi => by show vs.length ≤ i; rw [List.length_reverse] at hi; omega⟩
  obtain ⟨hi, _⟩ := List.getElem?_eq_some_iff.mp hd
  rw [List.length_reverse] at hi
  rw [List.getElem?_reverse hi, ← hl] at hd
  obtain ⟨x, hx, rx⟩ := r.get hd
  refine ⟨⟨by omega, vs, x, hq, hx⟩, fun y H' hy => ?_⟩
  obtain ⟨rfl, hy⟩ := hy
  have e : x = y := Option.some.inj (hx.symm.trans (hy vs hq))
  subst e
  exact ⟨F, Stp.val s (rx.mono m)⟩
theorem ii_rev {X : Cx} {e tg : Expr} {f : XE} {p pos : Pos} (hg : Gl X "reversed") (hm : X.mg "reversed" = none) (he : IE X e f) (hs : starEach [e] X.env = (false, eval e X.env) :: starEach [] X.env := by rfl) :
    II X tg (.Call (.Name "reversed" p) [e] [] pos) (xRev f) :=
  PI.imp (RT.pi_revA hg hm he hs) fun σ H R h => walk_one (W := fun v H1 R => ∃ (a : Addr) (xs : List V), v = .ref a ∧ ((SqL X.K H1 a xs ∧ R (Itv X.K a xs.length) H1) ∨ (SqT X.K H1 a xs ∧ R (RT.ItvT X.K a xs.length) H1))) (fun F H x d ds sF r e R q => by
    obtain ⟨⟨b, es⟩, e1, e2⟩ := Option.map_eq_some_iff.mp (show (seqIt d).map (fun r => r.2.reverse) = some ds from e)
    subst e2
    obtain ⟨a, vs, rfl, hq, rp⟩ := rep_sqB e1 r
    cases b with
    | false => exact ⟨a, vs, rfl, .inl ⟨sF.seq hq, q _ (walk_revL hq rp)⟩⟩
    | true => exact ⟨a, vs, rfl, .inr ⟨sF.seqT hq, q _ (walk_revT hq rp)⟩⟩) h
/-! ### zip -/
def ItZp (b c : Bool) (K : PySem.W.Frag) (a d : Addr) (n : Nat) : It :=
  ⟨fun i H => ∃ (xs ys : List V) (x y : V), sqB b K H a xs ∧ sqB c K H d ys ∧ min xs.length ys.length = n ∧ xs[i]? = some x ∧ ys[i]? = some y,
    fun i H v H' => ∃ T x y, v = .ref T ∧ H T = none ∧ H' = upd H T (.tup [x, y]) ∧ (∀ xs, sqB b K H a xs → xs[i]? = some x) ∧ ∀ ys, sqB c K H d ys → ys[i]? = some y,
    fun i H => n ≤ i ∧ ∃ xs ys : List V, sqB b K H a xs ∧ sqB c K H d ys ∧ min xs.length ys.length = n⟩
theorem turn_zpB {P : Program} {w : World} {K : PySem.W.Frag} {elts : List Expr} {kk : Nat} {tpos : Pos} (b c : Bool) {a d z TI TO i1 i2 : Addr} (D : ZipSep2 z TI TO i1 i2 [i1, a] [i2, d]) (n : Nat) :
    Turn P w K (.Tuple elts kk tpos) (ItZp b c K a d n) [z, TI, TO, i1, i2] z (fun i h => IsZip h z TI TO .none ∧ IsTupOf2 h TI (.ref i1) (.ref i2) ∧ (∃ a1 a2, IsTupOf2 h TO a1 a2) ∧ itB b h i1 a i ∧ itB c h i2 d i ∧ i ≤ n) where
  mem := by simp
  obj := fun i h ⟨hz, hI, ⟨a1, a2, hO⟩, h1, h2, _⟩ e he => by
    obtain ⟨o1, e1, d1⟩ := itB_obj h1
    obtain ⟨o2, e2, d2⟩ := itB_obj h2
    rcases (show e = z ∨ e = TI ∨ e = TO ∨ e = i1 ∨ e = i2 by simpa using he) with rfl | rfl | rfl | rfl | rfl
    · exact ⟨_, hz, fun v q => nomatch q⟩
    · exact ⟨_, hI, fun v q => nomatch q⟩
    · exact ⟨_, hO, fun v q => nomatch q⟩
    · exact ⟨_, e1, fun v q => by rw [d1] at q; cases q⟩
    · exact ⟨_, e2, fun v q => by rw [d2] at q; cases q⟩
  keep := fun i h h' ⟨hz, hI, ⟨a1, a2, hO⟩, h1, h2, hl⟩ k => ⟨k z (by simp) _ hz, k TI (by simp) _ hI, ⟨a1, a2, k TO (by simp) _ hO⟩, itB_at h1 fun o q => k i1 (by simp) o q, itB_at h2 fun o q => k i2 (by simp) o q, hl⟩
  item := by
    intro X hP hw hK hc i pins s σ H E I hf st hg
    subst hP hw hK
    obtain ⟨hz, hI, hO, h1, h2, hin⟩ := st
    obtain ⟨xs, ys, x, y, qx, qy, hn, gx, gy⟩ := hg
    obtain ⟨its, rv, p1⟩ := inv_sqB I qx
    obtain ⟨jts, rw', p2⟩ := inv_sqB I qy
    obtain ⟨u, hu, ru⟩ := rv.get gx
    obtain ⟨v, hv, rw2⟩ := rw'.get gy
    obtain ⟨o1, e1, d1⟩ := itB_obj h1
    obtain ⟨o2, e2, d2⟩ := itB_obj h2
    obtain ⟨oa, na, ea, da⟩ := isB_obj p1
    obtain ⟨od, nd, ed, dd⟩ := isB_obj p2
    have n1 : a ≠ i1 := ne_of_obj ea e1 (by rw [da, d1]; exact fun z => nomatch z)
    have n2 : d ≠ i2 := ne_of_obj ed e2 (by rw [dd, d2]; exact fun z => nomatch z)
    have l1 : i < its.toArray.size := by simpa using (List.getElem?_eq_some_iff.mp hu).1
    have l2 : i < jts.toArray.size := by simpa using (List.getElem?_eq_some_iff.mp hv).1
    have G := GoesN.zip2 (elts := elts) (x1 := kk) (pos := tpos) D (drawsB (prog := X.prog) (w := X.w) (A := X.A.in1) (I.ok.hd hc) b i1 a n1 its.toArray) (drawsB (prog := X.prog) (w := X.w) (A := X.A.in1) (I.ok.hd hc) c i2 d n2 jts.toArray)
    refine G.goes i s _ E (by omega) ⟨hz, hI, hO, ⟨h1, p1⟩, h2, p2⟩ fun vv h' tk ⟨T, x', y', ev, hT, hx, hy, hTup⟩ ⟨z', I', O', ⟨h1', _⟩, h2', _⟩ hk _ => ?_
    subst ev
    have ex : u = x' := by
      have q : its[i]? = some x' := by simpa using hx
      rw [hu] at q
      exact Option.some.inj q
    have ey : v = y' := by
      have q : jts[i]? = some y' := by simpa using hy
      rw [hv] at q
      exact Option.some.inj q
    subst ex ey
    have new : ObjOk X.prog X.w (upd H T (.tup [x, y])) h' T (.tup [x, y]) := ⟨by show 2 ≤ sizeLine; decide, [u, v], .cons ru (.cons rw2 .nil), hTup⟩
    have I1 : Inv X pins σ (upd H T (.tup [x, y])) { s with heap := h', toks := tk } := I.turnedNew (ch := [z, TI, TO, i1, i2]) (fun e o he q => hk e o (fun m => he (by
      rcases (show e = z ∨ e = TO ∨ e = i1 ∨ e = i2 by simpa using m) with rfl | rfl | rfl | rfl <;> simp)) q) hf hT new
    have m1 := (List.getElem?_eq_some_iff.mp gx).1
    have m2 := (List.getElem?_eq_some_iff.mp gy).1
    refine ⟨.ref T, _, I1, rfl, ⟨T, x, y, rfl, I.hok.fresh hT, rfl, fun zs hzs => by rw [sqB_inj I hzs qx]; exact gx, fun zs hzs => by rw [sqB_inj I hzs qy]; exact gy⟩, ⟨z', I', O', h1', h2', by omega⟩, fun e he => ?_⟩
    obtain ⟨a1, a2, hO⟩ := hO
    have hlt' : e < s.heap.objs.size := by
      rcases (show e = z ∨ e = TI ∨ e = TO ∨ e = i1 ∨ e = i2 by simpa using he) with rfl | rfl | rfl | rfl | rfl
      · exact Heap.lt_size hz
      · exact Heap.lt_size hI
      · exact Heap.lt_size hO
      · exact Heap.lt_size e1
      · exact Heap.lt_size e2
    rw [upd_ne (Nat.ne_of_lt (Nat.lt_of_lt_of_le hlt' hT))]
    exact (hf e he).1
  done := by
    intro X hP hw hK hc i pins s σ H E I hf st hg
    subst hP hw hK
    obtain ⟨hz, hI, hO, h1, h2, hin⟩ := st
    obtain ⟨hni, xs, ys, qx, qy, hn⟩ := hg
    obtain ⟨its, rv, p1⟩ := inv_sqB I qx
    obtain ⟨jts, rw', p2⟩ := inv_sqB I qy
    obtain ⟨o1, e1, d1⟩ := itB_obj h1
    obtain ⟨o2, e2, d2⟩ := itB_obj h2
    obtain ⟨oa, na, ea, da⟩ := isB_obj p1
    obtain ⟨od, nd, ed, dd⟩ := isB_obj p2
    have n1 : a ≠ i1 := ne_of_obj ea e1 (by rw [da, d1]; exact fun z => nomatch z)
    have n2 : d ≠ i2 := ne_of_obj ed e2 (by rw [dd, d2]; exact fun z => nomatch z)
    have m1 := rv.length
    have m2 := rw'.length
    have en : i = min its.toArray.size jts.toArray.size := by rw [List.size_toArray, List.size_toArray]; omega
    have G := GoesN.zip2 (elts := elts) (x1 := kk) (pos := tpos) D (drawsB (prog := X.prog) (w := X.w) (A := X.A.in1) (I.ok.hd hc) b i1 a n1 its.toArray) (drawsB (prog := X.prog) (w := X.w) (A := X.A.in1) (I.ok.hd hc) c i2 d n2 jts.toArray)
    refine G.stops s (fun s1 => Inv X pins σ H s1) E (by rw [← en]; exact ⟨hz, hI, hO, ⟨h1, p1⟩, h2, p2⟩) fun h' tk hk _ => ?_
    exact I.turnedL (ch := [z, TI, TO, i1, i2]) (fun e o he q => hk e o (fun m => he (by
      rcases (show e = z ∨ e = TO ∨ e = i1 ∨ e = i2 by simpa using m) with rfl | rfl | rfl | rfl <;> simp)) q) hf
  self := fun A i s Q E st h => wpAny_pyIter_zip st.1 h
def iZpB (K : PySem.W.Frag) (ta : TA) : TI := fun σ H R => ta σ H fun vs H1 => ∃ (b c : Bool) (a d : Addr) (xs ys : List V), vs = [.ref a, .ref d] ∧ sqB b K H1 a xs ∧ sqB c K H1 d ys ∧ R (ItZp b c K a d (min xs.length ys.length)) H1
theorem pi_zpB {X : Cx} {e e2 : Expr} {ta : TA} {p pos tpos : Pos} {elts : List Expr} {kk : Nat} (hg : Gl X "zip") (hm : X.mg "zip" = none) (ha : PA X [e, e2] ta)
    (hs : starEach [e, e2] X.env = (false, eval e X.env) :: starEach [e2] X.env := by rfl) (hpl : (backTo pos (starEach [e2] X.env)).any (·.1) = false := by rfl) :
    PI X (.Tuple elts kk tpos) (.Call (.Name "zip" p) [e, e2] [] pos) (iZpB X.K ta) := by
  refine ⟨fun pins s σ H R I h => Call_ (ld_blt I hg hm PyProof.Rows.boot_zip (PyProof.Rows.callWith_type1 (thn (ha.run pos pins s σ H _ I h) fun us s1 ⟨vs, H1, I1, r1, q1⟩ => ?_) hs hpl))⟩
  obtain ⟨b, c, a, d, xs, ys, ex, qx, qy, q⟩ := q1
  subst ex
  obtain ⟨u1, u2, rfl, r1, r2⟩ := vals2 r1
  obtain rfl : u1 = Value.ref a := r1
  obtain rfl : u2 = Value.ref d := r2
  obtain ⟨its, rv, p1⟩ := inv_sqB I1 qx
  obtain ⟨jts, rw', p2⟩ := inv_sqB I1 qy
  obtain ⟨oa, na, ea, _⟩ := isB_obj p1
  obtain ⟨od, nd, ed, _⟩ := isB_obj p2
  refine zip_begins2 (beginsB b a its.toArray) (beginsB c d jts.toArray) p1 p2 fun h' hz hI hO g1 g2 _ hk => wpAny_pyIter_zip hz ?_
  have I2 : Inv X pins σ H1 { s1 with heap := h' } := I1.kept (t' := s1.toks) hk
  have D := zip_sep2 (N := s1.heap.objs.size) (fp1 := [a]) (fp2 := [d]) (by simpa using Heap.lt_size ea) (by simpa using Heap.lt_size ed)
  refine ⟨s1.heap.objs.size + 4, [s1.heap.objs.size + 4, s1.heap.objs.size + 2, s1.heap.objs.size + 3, s1.heap.objs.size, s1.heap.objs.size + 1], _, _, H1, rfl, I2, turn_zpB b c D (min xs.length ys.length), ⟨hz, hI, ⟨_, _, hO⟩, newB_it g1, newB_it g2, Nat.zero_le _⟩, fun e he => ?_, q⟩
  have hle : s1.heap.objs.size ≤ e := by
    rcases (show e = s1.heap.objs.size + 4 ∨ e = s1.heap.objs.size + 2 ∨ e = s1.heap.objs.size + 3 ∨ e = s1.heap.objs.size ∨ e = s1.heap.objs.size + 1 by simpa using he) with rfl | rfl | rfl | rfl | rfl
    · exact Nat.le_add_right _ _
    · exact Nat.le_add_right _ _
    · exact Nat.le_add_right _ _
    · exact Nat.le_refl _
    · exact Nat.le_add_right _ _
  exact I1.fpOk hle (I1.hok.fresh hle)
/-- items side by side -/
def zipL (ds es : List D) : List D := List.zipWith (fun x y => .tup [x, y]) ds es
theorem walk_zp {K : PySem.W.Frag} {Fb : Hp} {b c : Bool} {a d : Addr} {vs ws : List V} {ds es : List D} (h : sqB b K Fb a vs) (h' : sqB c K Fb d ws) (r : Reps K Fb vs ds) (r' : Reps K Fb ws es) : Walk K (ItZp b c K a d (min vs.length ws.length)) (zipL ds es) Fb := fun F H i m s => by
  have hq := sqB_mono s (sqB_mono m h)
  have hq' := sqB_mono s (sqB_mono m h')
  have hl := r.length
  have hl' := r'.length
  refine ⟨fun z hz => ?_, fun hi => ⟨by simp [zipL] at hi; omega, vs, ws, hq, hq', rfl⟩⟩
  unfold zipL at hz
  rw [List.getElem?_zipWith] at hz
  cases g1 : ds[i]? with
  | none => simp [g1] at hz
  | some x0 =>
    cases g2 : es[i]? with
    | none => simp [g1, g2] at hz
    | some y0 =>
      simp [g1, g2] at hz
      subst hz
      obtain ⟨x, hx, rx⟩ := r.get g1
      obtain ⟨y, hy, ry⟩ := r'.get g2
      refine ⟨⟨vs, ws, x, y, hq, hq', rfl, hx, hy⟩, fun v H' hv => ?_⟩
      obtain ⟨T, x', y', rfl, hT, rfl, hx', hy'⟩ := hv
      have ex : x = x' := Option.some.inj (hx.symm.trans (hx' vs hq))
      have ey : y = y' := Option.some.inj (hy.symm.trans (hy' ws hq'))
      subst ex ey
      exact Stp.new (K := K) (v := fz (.tup [x0, y0])) s hT (.inr ⟨rfl, .tup (.inl (.inl upd_same)) ((Reps.cons (rx.mono m) (.cons (ry.mono m) .nil)).mono (same_upd (same_none s hT)))⟩)
def kZip : List D → Option (List D)
  | [x, y] => (seqIt x).bind fun p => (seqIt y).map fun q => zipL p.2 q.2
  | _ => none
/-- frozen values, then a walk over them -/
def xZip (f g : XE) : XI := fun env => (evsS [(false, f), (false, g)] env).bind fun p => (kZip p.1).bind fun ds => some (ds, p.2)
theorem ii_zip {X : Cx} {e e2 : Expr} {f g : XE} {p pos tpos : Pos} {elts : List Expr} {kk : Nat} (hg : Gl X "zip") (hm : X.mg "zip" = none) (he : IE X e f) (he2 : IE X e2 g)
    (hs : starEach [e, e2] X.env = (false, eval e X.env) :: starEach [e2] X.env := by rfl) (hs2 : starEach [e2] X.env = (false, eval e2 X.env) :: starEach [] X.env := by rfl) (hpl : (backTo pos (starEach [e2] X.env)).any (·.1) = false := by rfl) :
    II X (.Tuple elts kk tpos) (.Call (.Name "zip" p) [e, e2] [] pos) (xZip f g) :=
  PI.imp (pi_zpB hg hm (ias_cons he (ias_cons he2 ias_nil hs2) hs) hs hpl) fun σ H R ⟨env, L, F, ds, env', z, rel, e, q⟩ => by
    unfold xZip at e
    cases e1 : evsS [(false, f), (false, g)] env with
    | none => rw [e1] at e; cases e
    | some r =>
      obtain ⟨vs, env1⟩ := r
      rw [e1] at e
      simp only [Option.bind_some] at e
      cases e2 : kZip vs with
      | none => rw [e2] at e; cases e
      | some ds2 =>
        rw [e2] at e
        injection e with e; injection e with e3 e4
        subst e3 e4
        refine ⟨env, L, F, vs, env1, z, rel, e1, fun xs L' F' H' z1 s1 rp => ?_⟩
        unfold kZip at e2
        split at e2
        · rename_i x0 y0
          obtain ⟨⟨b, ps⟩, g1, g2⟩ := Option.bind_eq_some_iff.mp e2
          obtain ⟨⟨c, qs⟩, g3, g4⟩ := Option.map_eq_some_iff.mp g2
          subst g4
          cases rp with
          | cons r1 rr =>
            cases rr with
            | cons r2 rr =>
              cases rr
              obtain ⟨a, us, rfl, h1, rp1⟩ := rep_sqB g1 r1
              obtain ⟨d, ws, rfl, h2, rp2⟩ := rep_sqB g3 r2
              exact ⟨b, c, a, d, us, ws, rfl, sqB_mono s1.rel.sub h1, sqB_mono s1.rel.sub h2, q _ L' F' H' z1 s1 (walk_zp h1 h2 rp1 rp2)⟩
        · cases e2
end Wk
end

section
/-! W25: x += e, x -= e of numbers and texts. -/
namespace Wk
open PySem PySem.Spec PyProof.Rows L2
/-- what x op= e gives, of numbers and texts -/
def augAdd : D → D → Option D
  | .int i, .int j => some (.int (i + j))
  | .str s, .str t => if s.length + t.length ≤ sizeLine then some (.str (s ++ t)) else none
  | _, _ => none
def augSub : D → D → Option D
  | .int i, .int j => some (.int (i - j))
  | _, _ => none
def sAug (i : Nat) (g : D → D → Option D) (f : XE) : XS := fun env => match env[i]? with
  | some (some ⟨false, d⟩) => (f env).bind fun p => (g d p.1.d).bind fun r => if i < p.2.length then some (.nx, p.2.set i (some (fz r))) else none
  | _ => none
/-- an in-place operator that gives a plain value -/
def OkAug (X : Cx) (op : Operator) (g : D → D → Option D) : Prop := ∃ ti : TIp, PIp X op ti ∧ ∀ F H x y d e r (Q : VK), Rep X.K F x d → Rep X.K F y e → g d e = some r → (∀ z, Rep X.K F z r → Q z H) → ti x y H Q
theorem ok_augSub {X : Cx} : OkAug X .Sub augSub := ⟨_, ip_sub, fun F H x y d e r Q hx hy h q => by
  unfold augSub at h
  split at h
  · injection h with h; subst h
    exact ⟨_, _, hx.int_inv, hy.int_inv, q _ (.int _)⟩
  · cases h⟩
theorem ok_augAdd {X : Cx} : OkAug X .Add augAdd :=
  ⟨fun x y H Q => ipI (fun i j => i + j) x y H Q ∨ ∃ i j, x = .str i ∧ y = .str j ∧ i.length + j.length ≤ sizeLine ∧ Q (.str (i ++ j)) H, fun pins s σ H x y v u Q I r1 r2 h => by
    rcases h with h | h
    · exact ip_add pins s σ H x y v u Q I r1 r2 h
    · exact iop_add_str pins s σ H x y v u Q I r1 r2 h, fun F H x y d e r Q hx hy h q => by
    unfold augAdd at h
    split at h
    · injection h with h; subst h
      exact .inl ⟨_, _, hx.int_inv, hy.int_inv, q _ (.int _)⟩
    · rename_i s t
      split at h
      · rename_i hl
        injection h with h; subst h
        obtain ⟨h1, h2⟩ := hx.str_inv
        obtain ⟨h3, h4⟩ := hy.str_inv
        refine .inr ⟨_, _, h1, h3, by rw [str_len, str_len]; exact hl, ?_⟩
        rw [str_app]
        refine q _ (.str _ ?_)
        unfold strG at h2 h4 ⊢
        simp only [Bool.and_eq_true, decide_eq_true_eq, List.all_eq_true, List.mem_append] at h2 h4 ⊢
        refine ⟨by rw [List.length_append]; exact hl, fun c hc => hc.elim (h2.2 c) (h4.2 c)⟩
      · cases h
    · cases h⟩
theorem is_aug {X : Cx} {ro : List Nat} {i : Nat} {x : Str} {e : Expr} {f : XE} {op : Operator} {g : D → D → Option D} {pos pos' : Pos} (hN : X.N.Nodup) (hr : i ∉ ro) (ho : OkAug X op g) (he : IE X e f) (hi : X.N[i]? = some x := by rfl)
    (hx : Loc X.env.scope x := by first | exact Or.inl rfl | exact Or.inr rfl) (hf : X.fn x = true ∨ X.env.scope.names.lookup x = some .local := by first | exact .inl rfl | exact .inr rfl) :
    IS X ro (.AugAssign (.Name x pos') op e pos) (sAug i g f) := by
  obtain ⟨ti, hp, ht⟩ := ho
  refine PS.imp (ps_aug hN hi hx he hp hf) fun D σ H ⟨env, L, F, o, env', z, rel, e, q⟩ => ?_
  unfold sAug at e
  split at e
  · rename_i d hd
    cases e1 : f env with
    | none => rw [e1] at e; cases e
    | some p =>
      obtain ⟨v, env1⟩ := p
      rw [e1] at e
      simp only [Option.bind_some] at e
      cases e2 : g d v.d with
      | none => rw [e2] at e; cases e
      | some r =>
        rw [e2] at e
        simp only [Option.bind_some] at e
        split at e
        · rename_i hl
          injection e with e; injection e with e3 e4
          subst e3 e4
          obtain ⟨y, hy, hm⟩ := z.at hd
          refine ⟨y, hy, env, L, F, v, env1, z, rel, e1, fun w L1 F1 H1 z1 s1 => ?_⟩
          obtain ⟨F2, s2, rp, _⟩ := Stp.freeze (o := v.o) (d := v.d) s1.rel
          have s3 := s1.trans s2
          refine ht F2 H1 y w d v.d r _ ((VOk.fz.mp (rel.ok _ hm)).mono s3.mono) rp e2 fun u hu => ?_
          have s4 := s3.tail.trans (Stp.dup s3.rel.tail hu)
          obtain ⟨L2, h1, L3, z2, h2⟩ := z1.store hl (fz r) u
          refine q _ L3 F2 H1 z2 (fun j hj => ?_) ((s4.less (h1.cons_cons _)).perm h2)
          exact List.getElem?_set_ne (show i ≠ j from fun w => hr (by rw [w]; exact hj))
        · cases e
  · cases e
end Wk
end

section
/-! W26: startswith from a place; bool; pop from a place, extend, remove, count; get of dicts. -/
namespace Wk
open PySem PySem.Spec PyProof.Rows L2
def g3 (f : D → D → D → Option Val) : Fn
  | [a, b, c] => f a.d b.d c.d
  | _ => none
theorem g3_inv {f : D → D → D → Option Val} {vs : List Val} {v : Val} (e : g3 f vs = some v) : ∃ a b c, vs = [a, b, c] ∧ f a.d b.d c.d = some v := by
  unfold g3 at e
  split at e
  · exact ⟨_, _, _, rfl, e⟩
  · cases e
def startsD3 : D → D → D → Option Val
  | .str s, .str t, .int i => if 0 ≤ i then some (fz (.bl (decide (i.toNat + t.length ≤ s.length) && t.isPrefixOf (s.drop i.toNat)))) else none
  | _, _, _ => none
theorem starts3_eq (s t : List Nat) (i : Int) (h : 0 ≤ i) : Txt.startswith3 ⟨s.toArray⟩ ⟨t.toArray⟩ i = (decide (i.toNat + t.length ≤ s.length) && t.isPrefixOf (s.drop i.toNat)) := by
  unfold Txt.startswith3
  have e : fromIndex (⟨s.toArray⟩ : Str).length i = i.toNat := by
    unfold fromIndex
    rw [if_neg (by omega)]
    omega
  rw [e, PySem.StrLaws.subAt_eq, str_len, str_len, Bool.eq_iff_iff]
  simp only [Bool.and_eq_true, decide_eq_true_eq, beq_iff_eq, str_cps]
  rw [List.isPrefixOf_iff_prefix, List.prefix_iff_eq_take]
  exact ⟨fun ⟨h1, h2⟩ => ⟨h1, h2.symm⟩, fun ⟨h1, h2⟩ => ⟨h1, h2.symm⟩⟩
theorem mg_starts3 {X : Cx} : MtG X "str.startswith" (g3 startsD3) := by
  rintro pins s σ H x xs v us Q I rx rs ⟨F, vs, w, sF, hvs, e0, q⟩
  obtain ⟨⟨ao, ad⟩, ⟨bo, bd⟩, ⟨co, cd⟩, rfl, e⟩ := g3_inv e0
  obtain ⟨x', y, z, ex, hx, hy, hz⟩ := hvs.three
  injection ex with e1 e2
  subst e1 e2
  change startsD3 ad bd cd = some w at e
  unfold startsD3 at e
  split at e
  · split at e
    · rename_i h0
      injection e with e; subst e
      refine mt_startswith3 pins s σ H _ _ v us Q I rx rs ⟨_, _, _, hx.str.1, by rw [hy.str.1, hz.int], ?_⟩
      rw [starts3_eq _ _ _ h0]
      exact old_fz sF q (.bl _)
    · cases e
  · cases e
/-! ### bool -/
def boolD : D → Option Val
  | .int i => some (fz (.bl (i != 0)))
  | .bl b => some (fz (.bl b))
  | .lst xs => some (fz (.bl (!xs.isEmpty)))
  | _ => none
theorem cg_bool {X : Cx} : CallG X (.type "bool") (g1 boolD) := by
  rintro pins s σ H xs us Q I r ⟨F, vs, w, sF, hvs, e0, q⟩
  obtain ⟨⟨ao, ad⟩, rfl, e⟩ := g1_inv e0
  obtain ⟨x, rfl, hx⟩ := hvs.one
  change boolD ad = some w at e
  unfold boolD at e
  split at e
  · injection e with e; subst e
    exact call_bool1 pins s σ H _ us Q I r (.inl ⟨_, by rw [hx.int], old_fz sF q (.bl _)⟩)
  · injection e with e; subst e
    exact call_bool1 pins s σ H _ us Q I r (.inr ⟨_, by rw [hx.bl], old_fz sF q (.bl _)⟩)
  · injection e with e; subst e
    obtain ⟨a, vs, ex, hH, rp⟩ := hx.lst sF
    refine call_boolL pins s σ H _ us Q I r ⟨a, vs, by rw [ex], .of hH, ?_⟩
    have : vs.isEmpty = (List.isEmpty ‹List D›) := by
      cases rp <;> rfl
    rw [this]
    exact old_fz sF q (.bl _)
  · cases e
/-! ### lists changed -/
def muPopAt : Mu
  | .lst xs, [⟨_, .int i⟩] => if 0 ≤ i ∧ i < 4611686018427387904 then (xs[i.toNat]?).map fun y => (.lst (xs.eraseIdx i.toNat), fz y) else none
  | _, _ => none
theorem Reps.erase {K : PySem.W.Frag} {F : Hp} {vs : List V} {ds : List D} (r : Reps K F vs ds) (i : Nat) : Reps K F (vs.eraseIdx i) (ds.eraseIdx i) := by
  rw [List.eraseIdx_eq_take_drop_succ, List.eraseIdx_eq_take_drop_succ]
  exact (r.take _).append (r.drop _)
theorem p63 : (2 : Int) ^ 63 = 9223372036854775808 := by
  have h : ((2 ^ 63 : Nat) : Int) = (2 : Int) ^ 63 := Int.natCast_pow 2 63
  rw [← h]
  rfl
theorem okM_popAt {K : PySem.W.Frag} : OkM K rPopAt muPopAt := by
  rintro F H a d d' xs vs v Q sF hF c hvs hfz e q
  unfold muPopAt at e
  split at e
  · rename_i ds o i
    split at e
    · rename_i hi
      obtain ⟨y, e1, e2⟩ := Option.map_eq_some_iff.mp e
      injection e2 with e2 e3
      subst e2 e3
      obtain ⟨us, hH, r⟩ := c
      obtain ⟨u, rfl, hu⟩ := hvs.one
      obtain ⟨z, hz, rz⟩ := r.get e1
      have hl := (List.getElem?_eq_some_iff.mp hz).1
      refine ⟨a, us, i, i.toNat, z, rfl, by rw [hu.int], hH, by have := p63; omega, by have := p63; omega, ?_, hz, q _ _ ⟨_, upd_same, r.erase _⟩ (fun b hb => upd_ne hb) rz⟩
      have e0 : (if i < 0 then i + (us.length : Int) else i) = i := if_neg (by omega)
      have e4 : (decide (0 ≤ i) && decide (i < (us.length : Int))) = true := by
        rw [Bool.and_eq_true, decide_eq_true_eq, decide_eq_true_eq]
        omega
      unfold seqIndex?
      simp only [e0]
      rw [if_pos e4]
    · cases e
  · cases e
/-! ### get -/
/-- a default that needs no freezing -/
def nolistB : D → Bool
  | .lst _ => false
  | .dct _ _ => false
  | _ => true
def dgetD : D → D → D → Option Val
  | .dct ks vs, x, y => if ((keyD x).isSome && nolistB y) = true then some (fz ((dget ks vs x).getD y)) else none
  | _, _, _ => none
theorem nolist_rep {K : PySem.W.Frag} {F H : Hp} {x : V} {v : Val} (h : VOk K F H x v) (e : nolistB v.d = true) : Rep K F x v.d := h.scalar fun _ ⟨_, c⟩ => by
  cases hd : v.d <;> rw [hd] at e c <;> simp [nolistB] at e <;> exact c
theorem mg_get2 {X : Cx} (hu : X.A.units + 64 < cLine) : MtG X "dict.get" (g3 dgetD) := by
  rintro pins s σ H x xs v us Q I rx rs ⟨F, vs, w, sF, hvs, e0, q⟩
  obtain ⟨⟨ao, ad⟩, ⟨bo, bd⟩, ⟨co, cd⟩, rfl, e⟩ := g3_inv e0
  obtain ⟨x', y, z, ex, hx, hy, hz⟩ := hvs.three
  injection ex with e1 e2
  subst e1 e2
  change dgetD ad bd cd = some w at e
  unfold dgetD at e
  split at e
  · rename_i ks' vs'
    split at e
    · rename_i hk
      injection e with e; subst e
      rw [Bool.and_eq_true] at hk
      obtain ⟨k, hk1⟩ := Option.isSome_iff_exists.mp hk.1
      obtain ⟨a, kvs, ey, hH, r1, r2⟩ := hx.dct sF
      have ex := hy.frz hk1
      have rz := nolist_rep hz hk.2
      subst ey
      obtain rfl : v = Value.ref a := rx
      obtain ⟨u1, u2, rfl, ru1, ru2⟩ := vals2 rs
      have g : DGet H a y (valV kvs k) := by rw [ex]; exact .k hH
      obtain ⟨h1, h2⟩ := dget_val hk1 r1 r2
      refine d_get2 (by omega) I g ru1 ru2 fun w' s' I' rw' => ⟨(valV kvs k).getD z, H, I', rw', ?_⟩
      refine old_fz sF q ?_
      cases hd : dget ks' vs' bd with
      | none => rw [h2 hd]; exact rz
      | some d => obtain ⟨v0, g1, g2⟩ := h1 d hd; rw [g1]; exact g2
    · cases e
  · cases e
def dgetD1 : D → D → Option Val
  | .dct ks vs, x => if (keyD x).isSome = true then some (fz ((dget ks vs x).getD .non)) else none
  | _, _ => none
theorem mg_get1 {X : Cx} (hu : X.A.units + 64 < cLine) : MtG X "dict.get" (g2 dgetD1) := by
  rintro pins s σ H x xs v us Q I rx rs ⟨F, vs, w, sF, hvs, e0, q⟩
  obtain ⟨⟨ao, ad⟩, ⟨bo, bd⟩, rfl, e⟩ := g2_inv e0
  obtain ⟨x', y, ex, hx, hy⟩ := hvs.two
  injection ex with e1 e2
  subst e1 e2
  change dgetD1 ad bd = some w at e
  unfold dgetD1 at e
  split at e
  · rename_i ks' vs'
    split at e
    · rename_i hk
      injection e with e; subst e
      obtain ⟨k, hk1⟩ := Option.isSome_iff_exists.mp hk
      obtain ⟨a, kvs, ey, hH, r1, r2⟩ := hx.dct sF
      have ex := hy.frz hk1
      subst ey
      obtain rfl : v = Value.ref a := rx
      obtain ⟨u1, rfl, ru1⟩ := vals1 rs
      have g : DGet H a y (valV kvs k) := by rw [ex]; exact .k hH
      obtain ⟨h1, h2⟩ := dget_val hk1 r1 r2
      refine d_get1 (by omega) I g ru1 fun w' s' I' rw' => ⟨(valV kvs k).getD .non, H, I', rw', ?_⟩
      refine old_fz sF q ?_
      cases hd : dget ks' vs' bd with
      | none => rw [h2 hd]; exact .non
      | some d => obtain ⟨v0, g1, g2⟩ := h1 d hd; rw [g1]; exact g2
    · cases e
  · cases e
end Wk
end

section
/-! W27: what is owned is lent to an expression, and had again. -/
namespace Wk
open PySem PySem.Spec PyProof.Rows L2
/-- the slots that are named, from number k on -/
def msk (us : List Nat) : Nat → En → En
  | _, [] => []
  | k, s :: e => (if us.contains k = true then s else none) :: msk us (k + 1) e
def mskN (us : List Nat) : Nat → En → En
  | _, [] => []
  | k, s :: e => (if us.contains k = true then none else s) :: mskN us (k + 1) e
def mrg (us : List Nat) : Nat → En → En → En
  | k, a :: A, b :: B => (if us.contains k = true then a else b) :: mrg us (k + 1) A B
  | _, _, _ => []
def clean1 : Option Val → Bool
  | none => true
  | some v => cleanV v
def cleanE (e : En) : Bool := e.all clean1
def eLend (i : Nat) (us : List Nat) (f : XE) : XE := fun env => match env[i]? with
  | some (some ⟨true, d⟩) => (f ((msk us 0 (env.set i none)).set i (some (fz d)))).bind fun p => if (cleanV p.1 && cleanE (msk us 0 p.2)) = true then some (p.1, (mrg us 0 p.2 (env.set i none)).set i (some (ow d))) else none
  | _ => f env
theorem zip_split {e : En} {σ : L2.St} {L : LV} (z : Zip e σ L) (us : List Nat) (k : Nat) : ∃ A B, L.Perm (A ++ B) ∧ Zip (msk us k e) σ A ∧ Zip (mskN us k e) σ B := by
  induction z generalizing k with
  | nil => exact ⟨[], [], .refl _, .nil, .nil⟩
  | @skip e s L y z ih =>
    obtain ⟨A, B, h1, h2, h3⟩ := ih (k + 1)
    refine ⟨A, B, h1, ?_, ?_⟩
    · unfold msk; split <;> exact h2.skip
    · unfold mskN; split <;> exact h3.skip
  | @cons e s L v x z ih =>
    obtain ⟨A, B, h1, h2, h3⟩ := ih (k + 1)
    by_cases hk : us.contains k = true
    · refine ⟨(v, x) :: A, B, h1.cons _, ?_, ?_⟩
      · unfold msk; rw [if_pos hk]; exact h2.cons
      · unfold mskN; rw [if_pos hk]; exact h3.skip
    · refine ⟨A, (v, x) :: B, (h1.cons _).trans List.perm_middle.symm, ?_, ?_⟩
      · unfold msk; rw [if_neg hk]; exact h2.skip
      · unfold mskN; rw [if_neg hk]; exact h3.cons
theorem zip_join : ∀ {a b : En} {σ : L2.St} {A B : LV} {us : List Nat} {k : Nat}, Zip (msk us k a) σ A → Zip (mskN us k b) σ B → a.length = b.length → ∃ C, Zip (mrg us k a b) σ C ∧ (A ++ B).Perm C
  | [], [], σ, A, B, us, k, z, w, _ => by
    cases z
    cases w
    exact ⟨[], .nil, .refl _⟩
  | [], _ :: _, _, _, _, _, _, _, _, h => by cases h
  | _ :: _, [], _, _, _, _, _, _, _, h => by cases h
  | s :: a, t :: b, σ, A, B, us, k, z, w, h => by
    unfold msk at z
    unfold mskN at w
    unfold mrg
    have h' : a.length = b.length := by simpa using h
    by_cases hk : us.contains k = true
    · rw [if_pos hk] at z w ⊢
      cases w with
      | skip w =>
        cases z with
        | skip z =>
          obtain ⟨C, h1, h2⟩ := zip_join z w h'
          exact ⟨C, h1.skip, h2⟩
        | cons z =>
          obtain ⟨C, h1, h2⟩ := zip_join z w h'
          exact ⟨_ :: C, h1.cons, h2.cons _⟩
    · rw [if_neg hk] at z w ⊢
      cases z with
      | skip z =>
        cases w with
        | skip w =>
          obtain ⟨C, h1, h2⟩ := zip_join z w h'
          exact ⟨C, h1.skip, h2⟩
        | cons w =>
          obtain ⟨C, h1, h2⟩ := zip_join z w h'
          exact ⟨_ :: C, h1.cons, List.perm_middle.trans (h2.cons _)⟩
theorem msk_len (us : List Nat) : ∀ (k : Nat) (e : En), (msk us k e).length = e.length
  | _, [] => rfl
  | k, s :: e => by simp [msk, msk_len us (k + 1) e]
theorem mrg_len (us : List Nat) : ∀ (k : Nat) (a b : En), a.length = b.length → (mrg us k a b).length = b.length
  | _, [], [], _ => rfl
  | _, [], _ :: _, h => by cases h
  | _, _ :: _, [], h => by cases h
  | k, s :: a, t :: b, h => by simp [mrg, mrg_len us (k + 1) a b (by simpa using h)]
theorem clean_zip {e : En} {σ : L2.St} {L : LV} (z : Zip e σ L) (h : cleanE e = true) : ∀ p ∈ L, cleanV p.1 = true := by
  induction z with
  | nil => intro p hp; cases hp
  | skip z ih => exact ih (by simpa [cleanE, clean1] using h)
  | @cons e s L v x z ih =>
    have h' : cleanV v = true ∧ cleanE e = true := by simpa [cleanE, clean1] using h
    intro p hp
    rcases List.mem_cons.mp hp with rfl | hp
    · exact h'.1
    · exact ih h'.2 p hp
theorem msk_get (us : List Nat) {i : Nat} (hi : us.contains i = false) : ∀ (e : En) (j k : Nat), j + k = i → j < e.length → (msk us k e)[j]? = some none
  | [], j, k, _, h => by simp at h
  | s :: e, 0, k, h, _ => by
    have : k = i := by omega
    subst this
    unfold msk
    rw [if_neg (by rw [hi]; exact Bool.false_ne_true)]
    rfl
  | s :: e, j + 1, k, h, hl => by
    unfold msk
    exact msk_get us hi e j (k + 1) (by omega) (by simpa using hl)
theorem mrg_get (us : List Nat) {i : Nat} (hi : us.contains i = false) : ∀ (a b : En) (j k : Nat), a.length = b.length → j + k = i → b[j]? = some none → (mrg us k a b)[j]? = some none
  | [], [], j, k, _, _, h => by simp at h
  | [], _ :: _, _, _, h, _, _ => by cases h
  | _ :: _, [], _, _, h, _, _ => by cases h
  | s :: a, t :: b, 0, k, _, h, h2 => by
    have : k = i := by omega
    subst this
    unfold mrg
    rw [if_neg (by rw [hi]; exact Bool.false_ne_true)]
    simpa using h2
  | s :: a, t :: b, j + 1, k, hl, h, h2 => by
    unfold mrg
    exact mrg_get us hi a b j (k + 1) (by simpa using hl) (by omega) (by simpa using h2)
theorem ie_lend {X : Cx} {e : Expr} {f : XE} {i : Nat} {us : List Nat} (hi : us.contains i = false) (h : IE X e f) : IE X e (eLend i us f) := by
  refine PE.imp h fun σ H Q ⟨env, L, F, v, env', z, rel, e, q⟩ => ?_
  unfold eLend at e
  split at e
  · rename_i d hd
    obtain ⟨x, L1, L2, h1, h2, h3, _, h5, _⟩ := z.get hd
    subst h2
    cases e1 : f ((msk us 0 (env.set i none)).set i (some (fz d))) with
    | none => rw [e1] at e; cases e
    | some p =>
      obtain ⟨w, en⟩ := p
      rw [e1] at e
      simp only [Option.bind_some] at e
      split at e
      · rename_i hc
        rw [Bool.and_eq_true] at hc
        injection e with e; injection e with ev ee
        subst ev
        obtain ⟨A, B, p1, zA, zB⟩ := zip_split h3 us 0
        have hlen : i < env.length := (List.getElem?_eq_some_iff.mp hd).1
        have rel1 : Rel X.K ([(ow d, x)] ++ (A ++ B)) F H := rel.perm (List.perm_middle.trans (p1.cons _))
        obtain ⟨F3, s3, rp3, k3, l3⟩ := Stp.freezeAll (T := [(ow d, x)]) rel1
        have g0 : (msk us 0 (env.set i none))[i]? = some none := msk_get us hi _ i 0 rfl (by simpa using hlen)
        obtain ⟨A1, A2, eA, _, zA2⟩ := zA.get0 g0
        have zA3 := zA2 (fz d) x
        have hσ : σ.set i (some x) = σ := by
          apply List.ext_getElem?
          intro j
          rw [List.getElem?_set]
          split
          · rename_i hj
            subst hj
            split
            · exact h1.symm
            · rename_i hn
              rw [List.getElem?_eq_none (by omega)]
          · rfl
        rw [hσ] at zA3
        have relf : Rel X.K (A1 ++ (fz d, x) :: A2) F3 H := by
          have r0 : Rel X.K ((fz d, x) :: (A ++ B)) F3 H := s3.rel
          have hs : List.Sublist ((fz d, x) :: A) ((fz d, x) :: (A ++ B)) := (List.sublist_append_left A B).cons_cons _
          refine (r0.less hs).perm ?_
          rw [eA]
          exact List.perm_middle.symm
        refine ⟨_, _, F3, w, en, zA3, relf, e1, fun y L' F' H' z' s' => ?_⟩
        obtain ⟨A', B', p', zA', zB'⟩ := zip_split z' us 0
        have sI : Stp X.K A F3 H ((w, y) :: A') F' H' := by
          have t1 : Stp X.K (A1 ++ (fz d, x) :: A2) F3 H ((w, y) :: A') F' H' := (s'.perm (p'.cons _)).less ((List.sublist_append_left A' B').cons_cons _)
          refine t1.ofOws ?_
          rw [eA]
          rw [ows_append, ows_cons, owA_fz, List.nil_append, ← ows_append]
        have cl : ∀ p ∈ (w, y) :: A', cleanV p.1 = true := fun p hp => by
          rcases List.mem_cons.mp hp with rfl | hp
          · exact hc.1
          · exact clean_zip zA' hc.2 p hp
        have big := Stp.lent (B := [(ow d, x)]) (I := A) (R := B) rel1 s3.mono k3 l3 sI cl (fun p hp => by rw [List.mem_singleton.mp hp])
        have hle : en.length = (env.set i none).length := by rw [z'.len, List.length_set, z.len]
        obtain ⟨C, zC, pC⟩ := zip_join zA' zB hle
        have g1 : (mrg us 0 en (env.set i none))[i]? = some none := mrg_get us hi _ _ i 0 hle rfl (by rw [List.getElem?_set_self hlen])
        obtain ⟨C1, C2, eC, _, zC2⟩ := zC.get0 g1
        have zC3 := zC2 (ow d) x
        rw [hσ] at zC3
        refine q y (C1 ++ (ow d, x) :: C2) (minus F' (ows [(ow d, x)])) H' (by rw [← ee]; exact zC3) ?_
        have pp : ((w, y) :: A' ++ ([(ow d, x)] ++ B)).Perm ((w, y) :: (C1 ++ (ow d, x) :: C2)) := by
          rw [List.cons_append]
          refine List.Perm.cons _ ?_
          have : (A' ++ ([(ow d, x)] ++ B)).Perm ((ow d, x) :: (A' ++ B)) := by
            show (A' ++ (ow d, x) :: B).Perm _
            exact List.perm_middle
          refine this.trans ((pC.cons _).trans ?_)
          rw [eC]
          exact List.perm_middle.symm
        exact (big.perm pp).permL ((List.perm_middle.trans (p1.cons _)).symm)
      · cases e
  · exact ⟨env, L, F, v, env', z, rel, e, q⟩
end Wk
end

section
/-! W28: the truth of a value. -/
namespace Wk
open PySem PySem.Spec PyProof.Rows L2
def truD : D → Option Bool
  | .non => some false
  | .bl b => some b
  | .int i => some (i != 0)
  | .str s => some (!s.isEmpty)
  | .lst xs => some (!xs.isEmpty)
  | .tup xs => some (!xs.isEmpty)
  | .dct ks _ => some (!ks.isEmpty)
  | _ => none
def tTru (f : XE) : XT := fun env => (f env).bind fun p => (truD p.1.d).map fun b => (b, p.2)
theorem Reps.emp {K : PySem.W.Frag} {F : Hp} {vs : List V} {ds : List D} (r : Reps K F vs ds) : (!vs.isEmpty) = !ds.isEmpty := by cases r <;> rfl
theorem it_tru {X : Cx} {e : Expr} {f : XE} (h : IE X e f) (he : ∀ whole, isTrue e X.env whole = (do let v ← whole; standAt e.pos; holding [v] (truthy v)) := by intro _; rfl) : IT X e (tTru f) :=
  PT.imp (pt_truth h he) fun σ H Q ⟨env, L, F, b, env', z, rel, e, q⟩ => by
    unfold tTru at e
    cases e1 : f env with
    | none => rw [e1] at e; cases e
    | some p =>
      obtain ⟨⟨o, d⟩, env1⟩ := p
      rw [e1] at e
      simp only [Option.bind_some, Option.map_eq_some_iff] at e
      obtain ⟨b', e2, e3⟩ := e
      injection e3 with e3 e4
      subst e3 e4
      refine ⟨env, L, F, _, env1, z, rel, e1, fun x L' F' H' z1 s1 => ⟨b', ?_, q L' F' H' z1 s1.tail⟩⟩
      have ok := s1.rel.ok _ List.mem_cons_self
      have sF := s1.rel.sub
      cases d with
      | non => injection e2 with e2; subst e2; rw [show x = .non from ok.non]; rfl
      | bl c => injection e2 with e2; subst e2; rw [show x = .bl c from ok.bl]; rfl
      | int i => injection e2 with e2; subst e2; rw [show x = .int i from ok.int]; rfl
      | str s =>
        injection e2 with e2; subst e2
        obtain ⟨ex, gx⟩ := ok.str
        rw [show x = .str ⟨s.toArray⟩ from ex]
        refine ⟨strG_len gx, ?_⟩
        cases s with
        | nil => rfl
        | cons c s =>
          show true = ((((c :: s).length : Nat) : Int) != 0)
          rw [List.length_cons]
          exact (bne_iff_ne.mpr (by omega)).symm
      | lst xs =>
        injection e2 with e2; subst e2
        obtain ⟨a, vs, ex, hH, r⟩ := ok.lst sF
        rw [show x = .ref a from ex]
        exact .inl ⟨vs, .of hH, r.emp.symm⟩
      | tup xs =>
        injection e2 with e2; subst e2
        obtain ⟨a, vs, ex, hF, hH, r⟩ := ok.tup sF
        rw [show x = .ref a from ex]
        exact .inr (.inl ⟨vs, hH, r.emp.symm⟩)
      | dct ks ds =>
        injection e2 with e2; subst e2
        obtain ⟨a, kvs, ex, hH, r1, r2⟩ := ok.dct sF
        rw [show x = .ref a from ex]
        refine .inr (.inr ⟨kvs, hH, ?_⟩)
        rw [← r1.emp]
        cases kvs <;> rfl
      | scr xs => cases e2
      | obj c ns vs => cases e2
end Wk
end

section
/-! W29: tuple(range(n)), list(range(n)). -/
namespace Wk
open PySem PySem.Spec PyProof.Rows L2
def eTupRg (f : XE) : XE := fun env => (f env).bind fun p => match p.1.d with
  | .int n => if 0 ≤ n ∧ n ≤ 16777216 then some (fz (.tup (intsFrom 0 n.toNat)), p.2) else none
  | _ => none
def eLstRg (f : XE) : XE := fun env => (f env).bind fun p => match p.1.d with
  | .int n => if 0 ≤ n ∧ n ≤ 16777216 then some (ow (.lst (intsFrom 0 n.toNat)), p.2) else none
  | _ => none
theorem reps_rg {K : PySem.W.Frag} {F : Hp} (n : Int) : Reps K F (rgV 0 n) (intsFrom 0 n.toNat) := by
  unfold rgV intsFrom
  rw [Int.sub_zero]
  generalize List.range n.toNat = l
  induction l with
  | nil => exact .nil
  | cons i l ih => exact .cons (.int _) ih
theorem ie_tupRg {X : Cx} {a : Expr} {f : XE} {p p2 pos pos2 : Pos} (hc : X.calm = true) (hg : Gl X "tuple") (hm : X.mg "tuple" = none) (hgr : Gl X "range") (hmr : X.mg "range" = none) (ha : IE X a f)
    (na : starEach [a] X.env = (false, eval a X.env) :: starEach [] X.env := by rfl) (na2 : starEach [Expr.Call (.Name "range" p2) [a] [] pos2] X.env = (false, eval (Expr.Call (.Name "range" p2) [a] [] pos2) X.env) :: starEach [] X.env := by rfl) :
    IE X (.Call (.Name "tuple" p) [.Call (.Name "range" p2) [a] [] pos2] [] pos) (eTupRg f) :=
  PE.imp (pe_tupRg hc hg hm (prg_1 hgr hmr ha na) na2) fun σ H Q ⟨env, L, F, v, env', z, rel, e, q⟩ => by
    unfold eTupRg at e
    cases e1 : f env with
    | none => rw [e1] at e; cases e
    | some r =>
      obtain ⟨⟨o, d⟩, env1⟩ := r
      rw [e1] at e
      simp only [Option.bind_some] at e
      cases d with
      | int n =>
        simp only at e
        split at e
        · rename_i hn
          injection e with e; injection e with e2 e3
          subst e2 e3
          refine ⟨env, L, F, _, env1, z, rel, e1, fun x L' F' H' z1 s1 => ⟨n, (s1.rel.ok _ List.mem_cons_self).int, RgOk.of_le (by omega) hn.2 (by omega) hn.1, fun b hb => ?_⟩⟩
          exact new_tup s1.rel.sub (fun y F2 H2 st => q y L' F2 H2 z1 (s1.tail.trans (st.frame (L := []) (T := L') s1.tail.rel))) hb (reps_rg n)
        · cases e
      | _ => cases e
theorem ie_lstRg {X : Cx} {a : Expr} {f : XE} {p p2 pos pos2 : Pos} (hc : X.calm = true) (hg : Gl X "list") (hm : X.mg "list" = none) (hgr : Gl X "range") (hmr : X.mg "range" = none) (ha : IE X a f)
    (na : starEach [a] X.env = (false, eval a X.env) :: starEach [] X.env := by rfl) (na2 : starEach [Expr.Call (.Name "range" p2) [a] [] pos2] X.env = (false, eval (Expr.Call (.Name "range" p2) [a] [] pos2) X.env) :: starEach [] X.env := by rfl) :
    IE X (.Call (.Name "list" p) [.Call (.Name "range" p2) [a] [] pos2] [] pos) (eLstRg f) :=
  PE.imp (pe_listRg hc hg hm (prg_1 hgr hmr ha na) na2) fun σ H Q ⟨env, L, F, v, env', z, rel, e, q⟩ => by
    unfold eLstRg at e
    cases e1 : f env with
    | none => rw [e1] at e; cases e
    | some r =>
      obtain ⟨⟨o, d⟩, env1⟩ := r
      rw [e1] at e
      simp only [Option.bind_some] at e
      cases d with
      | int n =>
        simp only at e
        split at e
        · rename_i hn
          injection e with e; injection e with e2 e3
          subst e2 e3
          refine ⟨env, L, F, _, env1, z, rel, e1, fun x L' F' H' z1 s1 => ⟨n, (s1.rel.ok _ List.mem_cons_self).int, RgOk.of_le (by omega) hn.2 (by omega) hn.1, fun b hb => ?_⟩⟩
          exact new_lst s1.rel.sub (fun y F2 H2 st => q y L' F2 H2 z1 (s1.tail.trans (st.frame (L := []) (T := L') s1.tail.rel))) hb (reps_rg n)
        · cases e
      | _ => cases e
end Wk
end

section
/-! P0: what the words of a worth give, as equations to rewrite by. -/
namespace Wk
open PySem PySem.Spec PyProof.Rows L2

section
variable {env : En} {f g h : XE} {b b' : XS} {t t' : XT} {i : Nat} {d : D} {v w : Val} {o : Opd} {os : List Opd}
@[simp] theorem bNil_ev : bNil env = some (.nx, env) := id rfl
@[simp] theorem bCons_ev : bCons b b' env = (b env).bind fun p => match p.1 with
  | .nx => b' p.2
  | .bk => some (.bk, p.2)
  | .ct => some (.ct, p.2)
  | .rt v => some (.rt v, p.2) := id rfl
@[simp] theorem sBk_ev : sBk env = some (.bk, env) := id rfl
@[simp] theorem sCt_ev : sCt env = some (.ct, env) := id rfl
@[simp] theorem sDrop_ev : sDrop f env = (f env).bind fun p => some (.nx, p.2) := id rfl
@[simp] theorem sRet_ev : sRet f env = (f env).bind fun p => some (.rt p.1, p.2) := id rfl
@[simp] theorem sRetN_ev : sRetN env = some (.rt (fz .non), env) := id rfl
@[simp] theorem sIf_ev : sIf t b b' env = (t env).bind fun p => if p.1 = true then b p.2 else b' p.2 := id rfl
@[simp] theorem gN_ev : gN i v env = if i < env.length then some (env.set i (some v)) else none := id rfl
@[simp] theorem sSet_ev {g : Val → En → Option En} : sSet g f env = (f env).bind fun p => (g p.1 p.2).bind fun e => some (.nx, e) := id rfl
@[simp] theorem gL_nil : gL [] [] env = some env := id rfl
@[simp] theorem gL_cons {g : Val → En → Option En} {gs : List (Val → En → Option En)} {ds : List D} : gL (g :: gs) (d :: ds) env = (g (fz d) env).bind fun e => gL gs ds e := id rfl
@[simp] theorem gT_ev {gs : List (Val → En → Option En)} {o : Bool} {ds : List D} : gT gs ⟨o, .tup ds⟩ env = gL gs ds env := id rfl
@[simp] theorem gT_evl {gs : List (Val → En → Option En)} {o : Bool} {ds : List D} : gT gs ⟨o, .lst ds⟩ env = gL gs ds env := id rfl
@[simp] theorem eC_ev : eC d env = some (fz d, env) := id rfl
@[simp] theorem eV_ev : eV i env = match env[i]? with
  | some (some v) => some (fz v.d, env.set i (some (fz v.d)))
  | _ => none := id rfl
@[simp] theorem eM_ev : eM i env = match env[i]? with
  | some (some v) => some (v, env.set i none)
  | _ => none := id rfl
@[simp] theorem eFz_ev : eFz f env = (f env).bind fun p => some (fz p.1.d, p.2) := id rfl
@[simp] theorem evs_nil : evs [] env = some ([], env) := id rfl
@[simp] theorem evs_e : evs (.e f :: os) env = (f env).bind fun p => (evs os p.2).bind fun q => some (.t p.1 :: q.1, q.2) := id rfl
@[simp] theorem evs_s : evs (.s i :: os) env = match env[i]? with
  | some (some _) => (evs os env).bind fun q => some (.s i :: q.1, q.2)
  | _ => none := id rfl
@[simp] theorem valsO_nil : valsO env [] = some [] := id rfl
@[simp] theorem valsO_t {r : List OV} : valsO env (.t v :: r) = (valsO env r).bind fun vs => some (v :: vs) := id rfl
@[simp] theorem valsO_s {r : List OV} : valsO env (.s i :: r) = match env[i]? with
  | some (some v) => (valsO env r).bind fun vs => some (v :: vs)
  | _ => none := by
  simp only [valsO, OV.val]
  cases env[i]? with
  | none => rfl
  | some s => cases s <;> rfl
@[simp] theorem eApp_ev {g : Fn} : eApp g os env = (evs os env).bind fun p => (valsO p.2 p.1).bind fun vs => (g vs).bind fun v => some (v, p.2) := id rfl
@[simp] theorem eMeth_ev {g : Fn} {ty : D → Bool} : eMeth ty g o os env = if tyAt ty o env = true then eApp g (o :: os) env else none := id rfl
@[simp] theorem tyAt_e {ty : D → Bool} : tyAt ty (.e f) env = match f env with
  | some p => ty p.1.d
  | none => false := id rfl
@[simp] theorem tyAt_s {ty : D → Bool} : tyAt ty (.s i) env = match env[i]? with
  | some (some v) => ty v.d
  | _ => false := id rfl
@[simp] theorem tOf_ev : tOf f env = (f env).bind fun p => match p.1.d with
  | .bl b => some (b, p.2)
  | _ => none := id rfl
@[simp] theorem tNot_ev : Wk.tNot t env = (t env).bind fun p => some (!p.1, p.2) := id rfl
@[simp] theorem tAnd_ev : Wk.tAnd t t' env = (t env).bind fun p => if p.1 = true then t' p.2 else some (false, p.2) := id rfl
@[simp] theorem tOr_ev : Wk.tOr t t' env = (t env).bind fun p => if p.1 = true then some (true, p.2) else t' p.2 := id rfl
@[simp] theorem tYes_ev : Wk.tYes env = some (true, env) := id rfl
@[simp] theorem eAnd_ev : eAnd f g env = (f env).bind fun p => match p.1.d with
  | .bl true => g p.2
  | .bl false => some (fz (.bl false), p.2)
  | _ => none := id rfl
@[simp] theorem eOr_ev : eOr f g env = (f env).bind fun p => match p.1.d with
  | .bl true => some (fz (.bl true), p.2)
  | .bl false => g p.2
  | _ => none := id rfl
@[simp] theorem eNot_ev : eNot f env = (f env).bind fun p => match p.1.d with
  | .bl b => some (fz (.bl (!b)), p.2)
  | _ => none := id rfl
@[simp] theorem eIf_ev : eIf t f g env = (t env).bind fun p => if p.1 = true then f p.2 else g p.2 := id rfl
@[simp] theorem eInt_ev : eInt f env = (f env).bind fun p => match p.1.d with
  | .int i => some (fz (.int i), p.2)
  | _ => none := id rfl
@[simp] theorem eTup_ev : eTup os env = (evs os env).bind fun p => (valsO p.2 p.1).bind fun vs => if (p.1.all OV.isT && decide (os.length ≤ 1000)) = true then some (fz (.tup (vs.map (·.d))), p.2) else none := id rfl
@[simp] theorem eLst_ev : eLst os env = (evs os env).bind fun p => (valsO p.2 p.1).bind fun vs => if (p.1.all OV.isT && decide (os.length ≤ 1000)) = true then some (ow (.lst (vs.map (·.d))), p.2) else none := id rfl
@[simp] theorem isT_t : OV.isT (.t v) = true := id rfl
@[simp] theorem eD0_ev : eD0 env = some (ow (.dct [] []), env) := id rfl
@[simp] theorem eMut_ev {ty : D → Bool} {m : Mu} : eMut i ty m os env = match env[i]? with
  | some (some v0) => if ty v0.d = true then (evs os env).bind fun p => (valsO p.2 p.1).bind fun vs => if vs.all (fun v => !v.o) = true then
      (match p.2[i]? with
        | some (some ⟨true, d⟩) => (m d vs).bind fun r => if r.2.o = false then some (r.2, p.2.set i (some (ow r.1))) else none
        | _ => none) else none else none
  | _ => none := id rfl
@[simp] theorem gS_ev {fk : XE} : gS i fk v env = if v.o = false then (match env[i]? with
  | some (some _) => (fk env).bind fun q => match q.2[i]? with
    | some (some ⟨true, d⟩) => (putD d q.1.d v.d).map fun d' => q.2.set i (some (ow d'))
    | _ => none
  | _ => none) else none := id rfl
@[simp] theorem sFor_ev {it : XI} {g : Val → En → Option En} : sFor it g b env = (it env).bind fun p => forL g b p.1 p.2 := id rfl
@[simp] theorem xArgs_ev {k : List Val → Option (List D)} : xArgs k os env = (evs os env).bind fun p => (valsO p.2 p.1).bind fun vs => (k vs).bind fun ds => some (ds, p.2) := id rfl
@[simp] theorem xSeq_ev : xSeq f env = (f env).bind fun p => (itemsOf p.1.d).bind fun ds => some (ds, p.2) := id rfl
@[simp] theorem eLc_ev {own : List Nat} {it : XI} {g : Val → En → Option En} : eLc own it g t f env = (it env).bind fun p => (lcL g t f own p.1 (wipeE p.2 own)).bind fun q =>
  if q.1.length ≤ sizeLine then some (ow (.lst q.1), backE p.2 q.2 own) else none := id rfl
@[simp] theorem eDc_ev {own : List Nat} {it : XI} {g : Val → En → Option En} {fk fv : XE} : eDc own it g t fk fv env = (it env).bind fun p => (dcL g t fk fv own p.1 (wipeE p.2 own) [] []).bind fun q =>
  some (ow (.dct q.1.1 q.1.2), backE p.2 q.2 own) := id rfl
@[simp] theorem wipeE_nil : wipeE env [] = env := id rfl
@[simp] theorem wipeE_cons {is : List Nat} : wipeE env (i :: is) = (wipeE env is).set i none := id rfl
@[simp] theorem backE_nil {old : En} : backE old env [] = env := id rfl
@[simp] theorem backE_cons {old : En} {is : List Nat} : backE old env (i :: is) = match old[i]? with
  | some s => (backE old env is).set i s
  | none => backE old env is := id rfl
@[simp] theorem evsS_nil : evsS [] env = some ([], env) := id rfl
@[simp] theorem evsS_f {r : List (Bool × XE)} : evsS ((false, f) :: r) env = (f env).bind fun v => (evsS r v.2).bind fun q => some (v.1.d :: q.1, q.2) := by
  show ((f env).bind fun v => (some [v.1.d]).bind fun ds => (evsS r v.2).bind fun q => some (ds ++ q.1, q.2)) = _
  rfl
@[simp] theorem evsS_t {r : List (Bool × XE)} : evsS ((true, f) :: r) env = (f env).bind fun v => (starD v.1.d).bind fun ds => (evsS r v.2).bind fun q => some (ds ++ q.1, q.2) := id rfl
@[simp] theorem eTupS_ev {ps : List (Bool × XE)} : eTupS ps env = (evsS ps env).bind fun q => if q.1.length ≤ sizeLine then some (fz (.tup q.1), q.2) else none := id rfl
@[simp] theorem eLstS_ev {ps : List (Bool × XE)} : eLstS ps env = (evsS ps env).bind fun q => if q.1.length ≤ sizeLine then some (ow (.lst q.1), q.2) else none := id rfl
@[simp] theorem xEnum_ev : xEnum f env = (f env).bind fun p => (kEnum p.1.d).bind fun ds => some (ds, p.2) := id rfl
@[simp] theorem xRev_ev : xRev f env = (f env).bind fun p => (kRev p.1.d).bind fun ds => some (ds, p.2) := id rfl
@[simp] theorem xZip_ev : xZip f g env = (evsS [(false, f), (false, g)] env).bind fun p => (kZip p.1).bind fun ds => some (ds, p.2) := id rfl
@[simp] theorem sAug_ev {g : D → D → Option D} : sAug i g f env = match env[i]? with
  | some (some ⟨false, d⟩) => (f env).bind fun p => (g d p.1.d).bind fun r => if i < p.2.length then some (.nx, p.2.set i (some (fz r))) else none
  | _ => none := id rfl
/-! calls -/
@[simp] theorem argV_nil {io : List Nat} {j : Nat} : argV env io j [] = some [] := id rfl
@[simp] theorem argV_t {io : List Nat} {j : Nat} {r : List OV} : argV env io j (.t v :: r) = if j ∈ io then none else (argV env io (j + 1) r).bind fun vs => some (fz v.d :: vs) := id rfl
@[simp] theorem argV_s {io : List Nat} {j : Nat} {r : List OV} : argV env io j (.s i :: r) = match env[i]? with
  | some (some v) => if j ∈ io then (if v.o = true then (argV env io (j + 1) r).bind fun vs => some (v :: vs) else none) else (argV env io (j + 1) r).bind fun vs => some (fz v.d :: vs)
  | _ => none := id rfl
@[simp] theorem ioS_nil {io : List Nat} {j : Nat} : ioS io j [] = [] := id rfl
@[simp] theorem ioS_t {io : List Nat} {j : Nat} {r : List OV} : ioS io j (.t v :: r) = ioS io (j + 1) r := id rfl
@[simp] theorem ioS_s {io : List Nat} {j : Nat} {r : List OV} : ioS io j (.s i :: r) = if j ∈ io then i :: ioS io (j + 1) r else ioS io (j + 1) r := id rfl
@[simp] theorem bsS_nil {io : List Nat} {j : Nat} : bsS env io j [] = [] := id rfl
@[simp] theorem bsS_t {io : List Nat} {j : Nat} {r : List OV} : bsS env io j (.t v :: r) = bsS env io (j + 1) r := id rfl
@[simp] theorem bsS_s {io : List Nat} {j : Nat} {r : List OV} : bsS env io j (.s i :: r) = if j ∈ io then bsS env io (j + 1) r else if (atE env i).o = true then i :: bsS env io (j + 1) r else bsS env io (j + 1) r := id rfl
@[simp] theorem atE_ev : atE env i = match env[i]? with
  | some (some v) => v
  | _ => fz .non := id rfl
@[simp] theorem setE_nil {vs : List Val} : setE env [] vs = env := by cases vs <;> rfl
@[simp] theorem setE_cons {is : List Nat} {vs : List Val} : setE env (i :: is) (v :: vs) = (setE env is vs).set i (some v) := id rfl
@[simp] theorem eCall_ev {m : FS} {io : List Nat} : eCall m io os env = (evs os env).bind fun p => (argV p.2 io 0 p.1).bind fun as =>
  if (bsS p.2 io 0 p.1 ++ ioS io 0 p.1).Nodup then (m as).bind fun r => if r.2.length = (ioS io 0 p.1).length then
    some (r.1, if ((bsS p.2 io 0 p.1).isEmpty || (cleanV r.1 && r.2.all cleanV)) = true then setE p.2 (ioS io 0 p.1) r.2
      else setE (setE p.2 (ioS io 0 p.1) r.2) (bsS p.2 io 0 p.1) ((bsS p.2 io 0 p.1).map fun i => fz (atE p.2 i).d)) else none else none := id rfl
@[simp] theorem fnSem_ev {n np : Nat} {io : List Nat} {as : List Val} : fnSem n np io b as = if as.length = np then (b (as.map some ++ List.replicate (n - np) none)).bind fun p => match p.1 with
    | .nx => (outsE io 0 (p.2.take np)).bind fun os => some (fz .non, os)
    | .rt v => (outsE io 0 (p.2.take np)).bind fun os => some (v, os)
    | _ => none
  else none := id rfl
@[simp] theorem outsE_nil {io : List Nat} {j : Nat} : outsE io j [] = some [] := id rfl
@[simp] theorem outsE_cons {io : List Nat} {j : Nat} {s : Slo} {r : En} : outsE io j (s :: r) = if j ∈ io then (match s with
      | some v => if v.o = true then (outsE io (j + 1) r).bind fun os => some (v :: os) else none
      | none => none)
    else outsE io (j + 1) r := id rfl
end
/-! ### values -/
theorem p62 : (2 : Int) ^ 62 = 4611686018427387904 := by
  have h : ((2 ^ 62 : Nat) : Int) = (2 : Int) ^ 62 := Int.natCast_pow 2 62
  rw [← h]
  rfl
theorem p64 : (2 : Int) ^ 64 = 18446744073709551616 := by
  have h : ((2 ^ 64 : Nat) : Int) = (2 : Int) ^ 64 := Int.natCast_pow 2 64
  rw [← h]
  rfl
section
variable {a b : Val} {i j : Int} {s s' : List Nat} {xs ys : List D} {d d' : D} {p q : Bool}
@[simp] theorem g1_ev {f : D → Option Val} : g1 f [a] = f a.d := id rfl
@[simp] theorem g2_ev {f : D → D → Option Val} : g2 f [a, b] = f a.d b.d := id rfl
@[simp] theorem gEq_ev : gEq [a, b] = if okEq a.d b.d = true then some (fz (.bl (deq a.d b.d))) else none := id rfl
@[simp] theorem gNe_ev : gNe [a, b] = if okEq a.d b.d = true then some (fz (.bl (!deq a.d b.d))) else none := id rfl
@[simp] theorem okEq_int : okEq (.int i) (.int j) = true := id rfl
@[simp] theorem okEq_str : okEq (.str s) (.str s') = true := id rfl
@[simp] theorem okEq_bl : okEq (.bl p) (.bl q) = true := id rfl
@[simp] theorem deq_int : deq (.int i) (.int j) = (i == j) := by simp [deq]
@[simp] theorem deq_str : deq (.str s) (.str s') = (s == s') := by simp [deq]
@[simp] theorem deq_bl : deq (.bl p) (.bl q) = (p == q) := by simp [deq]
@[simp] theorem addD_int : addD (.int i) (.int j) = some (fz (.int (i + j))) := by rw [addD_eq]; rfl
@[simp] theorem addD_str : addD (.str s) (.str s') = if s.length + s'.length ≤ sizeLine then some (fz (.str (s ++ s'))) else none := by rw [addD_eq]; rfl
@[simp] theorem addD_tup : addD (.tup xs) (.tup ys) = if xs.length + ys.length ≤ sizeLine then some (fz (.tup (xs ++ ys))) else none := by rw [addD_eq]; rfl
@[simp] theorem addD_lst : addD (.lst xs) (.lst ys) = if xs.length + ys.length ≤ sizeLine then some (ow (.lst (xs ++ ys))) else none := by rw [addD_eq]; rfl
@[simp] theorem subD_int : subD (.int i) (.int j) = some (fz (.int (i - j))) := by rw [subD_eq]; rfl
@[simp] theorem modD_int : modD (.int i) (.int j) = if 0 < j then some (fz (.int (i % j))) else none := by rw [modD_eq]; rfl
@[simp] theorem fdivD_int : fdivD (.int i) (.int j) = if 0 < j ∧ j < 1073741824 then some (fz (.int (i / j))) else none := by rw [fdivD_eq]; rfl
@[simp] theorem powD_int : powD (.int i) (.int j) = if 0 ≤ j ∧ j ≤ 1000000 ∧ i.natAbs < 18446744073709551616 then some (fz (.int (i ^ j.toNat))) else none := by rw [powD_eq]; rfl
@[simp] theorem shlD_int : shlD (.int i) (.int j) = if 0 ≤ j ∧ j ≤ 1000000 ∧ i.natAbs < 18446744073709551616 then some (fz (.int (i * 2 ^ j.toNat))) else none := by rw [shlD_eq]; rfl
@[simp] theorem negD_int : negD (.int i) = some (fz (.int (-i))) := by rw [negD_eq]; rfl
@[simp] theorem mulD_int : mulD (.int i) (.int j) = if (-18446744073709551616 < i ∧ i < 18446744073709551616) ∨ (-18446744073709551616 < j ∧ j < 18446744073709551616) then some (fz (.int (i * j))) else none := by
  rw [← p64, mulD_eq]
  rfl
@[simp] theorem mulD_str : mulD (.str s) (.int j) = if -1000000 < j ∧ j < 1000000 ∧ s.length * j.toNat ≤ sizeLine then some (fz (.str (List.replicate j.toNat s).flatten)) else none := by rw [mulD_eq]; rfl
@[simp] theorem mulD_tup : mulD (.tup xs) (.int j) = if xs ≠ [] ∧ 1 ≤ j ∧ j ≤ 1000 ∧ xs.length ≤ 1000 then some (fz (.tup (List.replicate j.toNat xs).flatten)) else none := by rw [mulD_eq]; rfl
@[simp] theorem mulD_lst : mulD (.lst xs) (.int j) = if -1000000 < j ∧ j < 1000000 ∧ xs.length * j.toNat ≤ sizeLine then some (ow (.lst (List.replicate j.toNat xs).flatten)) else none := by rw [mulD_eq]; rfl
theorem cmpOk_int : cmpOk (.int i) (.int j) = true := by simp [cmpOk, dataD, py, PySem.W.alike, depD]
theorem cmpOk_str : cmpOk (.str s) (.str s') = true := by simp [cmpOk, dataD, py, PySem.W.alike, depD]
theorem ltB_int : ltB (.int i) (.int j) = decide (i < j) := PySem.W.dataLt_int i j
theorem ltB_str : ltB (.str s) (.str s') = decide (s < s') := by
  show PySem.W.dataLt (.str ⟨s.toArray⟩) (.str ⟨s'.toArray⟩) = _
  rw [PySem.W.dataLt_str, str_cps, str_cps]
@[simp] theorem ltD_int : ltD (.int i) (.int j) = some (fz (.bl (decide (i < j)))) := by simp [ltD_eq, ltD0, cmpOk_int, ltB_int]
@[simp] theorem leD_int : leD (.int i) (.int j) = some (fz (.bl (decide (i ≤ j)))) := by
  simp only [leD_eq, leD0, cmpOk_int, ltB_int, if_true, Option.some.injEq, Val.mk.injEq, true_and, D.bl.injEq]
  rw [← decide_not]; congr 1; simp
@[simp] theorem gtD_int : gtD (.int i) (.int j) = some (fz (.bl (decide (j < i)))) := by simp [gtD_eq, gtD0, cmpOk_int, ltB_int]
@[simp] theorem geD_int : geD (.int i) (.int j) = some (fz (.bl (decide (j ≤ i)))) := by
  simp only [geD_eq, geD0, cmpOk_int, ltB_int, if_true, Option.some.injEq, Val.mk.injEq, true_and, D.bl.injEq]
  rw [← decide_not]; congr 1; simp
@[simp] theorem msk_nil {us : List Nat} {k : Nat} : msk us k [] = [] := id rfl
@[simp] theorem msk_cons {us : List Nat} {k : Nat} {s : Option Val} {e : En} : msk us k (s :: e) = (if us.contains k = true then s else none) :: msk us (k + 1) e := id rfl
@[simp] theorem mrg_nil {us : List Nat} {k : Nat} : mrg us k [] [] = [] := id rfl
@[simp] theorem mrg_cons {us : List Nat} {k : Nat} {s t : Option Val} {e e' : En} : mrg us k (s :: e) (t :: e') = (if us.contains k = true then s else t) :: mrg us (k + 1) e e' := id rfl
@[simp] theorem clean1_none : clean1 none = true := id rfl
@[simp] theorem clean1_some {v : Val} : clean1 (some v) = cleanV v := id rfl
@[simp] theorem cleanE_nil : cleanE [] = true := id rfl
@[simp] theorem cleanE_cons {s : Option Val} {e : En} : cleanE (s :: e) = (clean1 s && cleanE e) := id rfl
@[simp] theorem eLend_ev {us : List Nat} {i : Nat} : eLend i us f env = match env[i]? with
  | some (some ⟨true, d⟩) => (f ((msk us 0 (env.set i none)).set i (some (fz d)))).bind fun p => if (cleanV p.1 && cleanE (msk us 0 p.2)) = true then some (p.1, (mrg us 0 p.2 (env.set i none)).set i (some (ow d))) else none
  | _ => f env := id rfl
@[simp] theorem g3_ev {f : D → D → D → Option Val} {c : Val} : g3 f [a, b, c] = f a.d b.d c.d := id rfl
@[simp] theorem starts3_ev : startsD3 (.str s) (.str s') (.int i) = if 0 ≤ i then some (fz (.bl (decide (i.toNat + s'.length ≤ s.length) && s'.isPrefixOf (s.drop i.toNat)))) else none := id rfl
@[simp] theorem boolD_int : boolD (.int i) = some (fz (.bl (i != 0))) := id rfl
@[simp] theorem boolD_bl : boolD (.bl p) = some (fz (.bl p)) := id rfl
@[simp] theorem boolD_lst : boolD (.lst xs) = some (fz (.bl (!xs.isEmpty))) := id rfl
@[simp] theorem muPopAt_ev {o : Bool} : muPopAt (.lst xs) [⟨o, .int i⟩] = if 0 ≤ i ∧ i < 4611686018427387904 then (xs[i.toNat]?).map fun y => (.lst (xs.eraseIdx i.toNat), fz y) else none := id rfl
@[simp] theorem dgetD_ev {ks vs : List D} : dgetD (.dct ks vs) d d' = if ((keyD d).isSome && nolistB d') = true then some (fz ((dget ks vs d).getD d')) else none := id rfl
@[simp] theorem dgetD1_ev {ks vs : List D} : dgetD1 (.dct ks vs) d = if (keyD d).isSome = true then some (fz ((dget ks vs d).getD .non)) else none := id rfl
@[simp] theorem isDctB_dct {ks vs : List D} : isDctB (.dct ks vs) = true := id rfl
@[simp] theorem nolistB_int : nolistB (.int i) = true := id rfl
@[simp] theorem nolistB_tup : nolistB (.tup xs) = true := id rfl
@[simp] theorem nolistB_str : nolistB (.str s) = true := id rfl
@[simp] theorem nolistB_non : nolistB .non = true := id rfl
@[simp] theorem keyD_str : keyD (.str s) = some (.inr ⟨s.toArray⟩) := id rfl
@[simp] theorem keyD_int : keyD (.int i) = some (.inl i) := id rfl
@[simp] theorem starD_tup : starD (.tup xs) = some xs := id rfl
@[simp] theorem starD_lst : starD (.lst xs) = some xs := id rfl
@[simp] theorem revD_lst : revD (.lst xs) = some (ow (.lst xs.reverse)) := id rfl
@[simp] theorem absD_int : absD (.int i) = some (fz (.int (if i < 0 then -i else i))) := id rfl
@[simp] theorem allD_lst : allD (.lst xs) = (blsD xs).map fun bs => fz (.bl (bs.all id)) := id rfl
@[simp] theorem anyD_lst : anyD (.lst xs) = (blsD xs).map fun bs => fz (.bl (bs.any id)) := id rfl
@[simp] theorem kEnum_lst : kEnum (.lst xs) = some (enumL xs) := id rfl
@[simp] theorem kEnum_tup : kEnum (.tup xs) = some (enumL xs) := id rfl
@[simp] theorem kRev_lst : kRev (.lst xs) = some xs.reverse := id rfl
@[simp] theorem kRev_tup : kRev (.tup xs) = some xs.reverse := id rfl
@[simp] theorem kZip_ll : kZip [.lst xs, .lst ys] = some (zipL xs ys) := id rfl
@[simp] theorem kZip_lt : kZip [.lst xs, .tup ys] = some (zipL xs ys) := id rfl
@[simp] theorem kZip_tl : kZip [.tup xs, .lst ys] = some (zipL xs ys) := id rfl
@[simp] theorem kZip_tt : kZip [.tup xs, .tup ys] = some (zipL xs ys) := id rfl
@[simp] theorem augAdd_int : augAdd (.int i) (.int j) = some (.int (i + j)) := id rfl
@[simp] theorem augAdd_str : augAdd (.str s) (.str s') = if s.length + s'.length ≤ sizeLine then some (.str (s ++ s')) else none := id rfl
@[simp] theorem augSub_int : augSub (.int i) (.int j) = some (.int (i - j)) := id rfl
@[simp] theorem isND_non : isND d .non = some (fz (.bl (isNB d))) := id rfl
@[simp] theorem notND_non : notND d .non = some (fz (.bl (!isNB d))) := id rfl
@[simp] theorem isNB_non : isNB .non = true := id rfl
@[simp] theorem isNB_int : isNB (.int i) = false := id rfl
@[simp] theorem isNB_str : isNB (.str s) = false := id rfl
@[simp] theorem isNB_bl : isNB (.bl p) = false := id rfl
@[simp] theorem isNB_tup : isNB (.tup xs) = false := id rfl
@[simp] theorem isNB_lst : isNB (.lst xs) = false := id rfl
@[simp] theorem ixD_lst : ixD (.lst xs) (.int i) = (atI xs i).map fz := id rfl
@[simp] theorem ixD_tup : ixD (.tup xs) (.int i) = (atI xs i).map fz := id rfl
@[simp] theorem ixD_scr : ixD (.scr xs) (.int i) = (atI xs i).map fz := id rfl
@[simp] theorem ixD_str : ixD (.str s) (.int i) = (atI s i).map fun c => fz (.str [c]) := id rfl
@[simp] theorem lenD_lst : lenD (.lst xs) = some (fz (.int xs.length)) := id rfl
@[simp] theorem lenD_tup : lenD (.tup xs) = some (fz (.int xs.length)) := id rfl
@[simp] theorem lenD_scr : lenD (.scr xs) = some (fz (.int xs.length)) := id rfl
@[simp] theorem lenD_str : lenD (.str s) = some (fz (.int s.length)) := id rfl
@[simp] theorem lenD_dct {ks vs : List D} : lenD (.dct ks vs) = some (fz (.int ks.length)) := id rfl
@[simp] theorem intD_int : intD (.int i) = some (fz (.int i)) := id rfl
@[simp] theorem intD_bl : intD (.bl p) = some (fz (.int (if p = true then 1 else 0))) := id rfl
@[simp] theorem listD_lst : listD (.lst xs) = some (ow (.lst xs)) := id rfl
@[simp] theorem listD_tup : listD (.tup xs) = some (ow (.lst xs)) := id rfl
@[simp] theorem listD_str : listD (.str s) = some (ow (.lst (s.map fun c => .str [c]))) := id rfl
@[simp] theorem tupD_lst : tupD (.lst xs) = some (fz (.tup xs)) := id rfl
@[simp] theorem tupD_tup : tupD (.tup xs) = some (fz (.tup xs)) := id rfl
@[simp] theorem min2D_int : min2D (.int i) (.int j) = some (fz (.int (min i j))) := id rfl
@[simp] theorem max2D_int : max2D (.int i) (.int j) = some (fz (.int (max i j))) := id rfl
@[simp] theorem startsD_ev : startsD (.str s) (.str s') = some (fz (.bl (s'.isPrefixOf s))) := id rfl
@[simp] theorem isStrB_str : isStrB (.str s) = true := id rfl
@[simp] theorem isLstB_lst : isLstB (.lst xs) = true := id rfl
@[simp] theorem items_lst : itemsOf (.lst xs) = some xs := id rfl
@[simp] theorem items_tup : itemsOf (.tup xs) = some xs := id rfl
@[simp] theorem items_scr : itemsOf (.scr xs) = some xs := id rfl
@[simp] theorem items_str : itemsOf (.str s) = some (s.map fun c => .str [c]) := id rfl
@[simp] theorem kRange1_ev {o : Bool} : kRange1 [⟨o, .int j⟩] = if -4611686018427387904 ≤ j ∧ j < 4611686018427387904 then some (intsFrom 0 j.toNat) else none := by
  rw [← p62, kRange1_eq]
  rfl
@[simp] theorem kRange2_ev {o o' : Bool} : kRange2 [⟨o, .int i⟩, ⟨o', .int j⟩] = if (-4611686018427387904 ≤ i ∧ i < 4611686018427387904) ∧ -4611686018427387904 ≤ j ∧ j < 4611686018427387904 then some (intsFrom i (j - i).toNat) else none := by
  rw [← p62, kRange2_eq]
  rfl
@[simp] theorem gSl0_ev : gSl0 [a] = slD a.d none none := id rfl
@[simp] theorem gSlL_ev {o : Bool} : gSlL [a, ⟨o, .int i⟩] = slD a.d (some i) none := id rfl
@[simp] theorem gSlH_ev {o : Bool} : gSlH [a, ⟨o, .int i⟩] = slD a.d none (some i) := id rfl
@[simp] theorem gSlB_ev {o o' : Bool} : gSlB [a, ⟨o, .int i⟩, ⟨o', .int j⟩] = slD a.d (some i) (some j) := id rfl
@[simp] theorem slD_lst {lo hi : Option Int} : slD (.lst xs) lo hi = some (ow (.lst (cutL xs lo hi))) := id rfl
@[simp] theorem slD_scr {lo hi : Option Int} : slD (.scr xs) lo hi = some (ow (.lst (cutL xs lo hi))) := id rfl
@[simp] theorem slD_tup {lo hi : Option Int} : slD (.tup xs) lo hi = some (fz (.tup (cutL xs lo hi))) := id rfl
@[simp] theorem slD_str {lo hi : Option Int} : slD (.str s) lo hi = some (fz (.str (cutL s lo hi))) := id rfl
@[simp] theorem muApp_ev : muApp (.lst xs) [a] = if xs.length < sizeLine then some (.lst (xs ++ [a.d]), fz .non) else none := id rfl
@[simp] theorem muPop_ev : muPop (.lst xs) [] = (xs.getLast?).map fun y => (.lst xs.dropLast, fz y) := id rfl
@[simp] theorem muRev_ev : muRev (.lst xs) [] = some (.lst xs.reverse, fz .non) := id rfl
@[simp] theorem inD_lst : inD d (.lst xs) = if inOk d xs = true then some (fz (.bl (memB d xs))) else none := by
  cases d <;> simp only [inD, inB] <;> split <;> rfl
@[simp] theorem inD_tup : inD d (.tup xs) = if inOk d xs = true then some (fz (.bl (memB d xs))) else none := by
  cases d <;> simp only [inD, inB] <;> split <;> rfl
@[simp] theorem notInD_lst : notInD d (.lst xs) = if inOk d xs = true then some (fz (.bl (!memB d xs))) else none := by
  cases d <;> simp only [notInD, inB] <;> split <;> rfl
@[simp] theorem notInD_tup : notInD d (.tup xs) = if inOk d xs = true then some (fz (.bl (!memB d xs))) else none := by
  cases d <;> simp only [notInD, inB] <;> split <;> rfl
@[simp] theorem sortD_lst : sortD (.lst xs) = if sortOk xs = true then some (ow (.lst (xs.mergeSort leB))) else none := id rfl
@[simp] theorem sortD_tup : sortD (.tup xs) = if sortOk xs = true then some (ow (.lst (xs.mergeSort leB))) else none := id rfl
@[simp] theorem sortD_dct {ks vs : List D} : sortD (.dct ks vs) = if sortOk ks = true then some (ow (.lst (ks.mergeSort leB))) else none := id rfl
@[simp] theorem sortKD_lst {m : FS} : sortKD m (.lst xs) = (keysM m xs).bind fun ks => if sortOk ks = true then some (ow (.lst (((xs.zip ks).mergeSort fun p q => leB p.2 q.2).map (·.1)))) else none := id rfl
/-- cuts by counts -/
theorem cutL_to {α : Type} {l : List α} {k : Int} (h : 0 ≤ k) : cutL l none (some k) = l.take k.toNat := by
  unfold cutL HT.sIx
  simp only [List.drop_zero, Nat.sub_zero]
  rw [if_neg (by omega)]
  rcases Nat.le_total k.toNat l.length with h1 | h1
  · rw [Nat.min_eq_left h1]
  · rw [Nat.min_eq_right h1, List.take_length, List.take_of_length_le h1]
theorem cutL_from {α : Type} {l : List α} {k : Int} (h : 0 ≤ k) : cutL l (some k) none = l.drop k.toNat := by
  unfold cutL HT.sIx
  simp only
  rw [if_neg (by omega)]
  rcases Nat.le_total k.toNat l.length with h1 | h1
  · rw [Nat.min_eq_left h1, ← List.length_drop, List.take_length]
  · rw [Nat.min_eq_right h1, List.drop_of_length_le h1, List.drop_of_length_le (Nat.le_refl _)]
    simp
@[simp] theorem cutL_toN {α : Type} {l : List α} {k : Nat} : cutL l none (some (k : Int)) = l.take k := by rw [cutL_to (by omega)]; rfl
end
/-! ### places -/
theorem atI_nat {α : Type} {l : List α} {i : Nat} : atI l (i : Int) = l[i]? := by
  unfold atI ixN
  rw [if_pos (by omega)]
  by_cases h : i < l.length
  · rw [if_pos (by omega)]
    simp
  · rw [if_neg (by omega), List.getElem?_eq_none (by omega)]
    rfl
theorem atI_of {α : Type} {l : List α} {i : Int} (h0 : 0 ≤ i) : atI l i = l[i.toNat]? := by
  obtain ⟨n, rfl⟩ := Int.eq_ofNat_of_zero_le h0
  rw [atI_nat]
  rfl
@[simp] theorem atI_0 {α : Type} {x : α} {l : List α} : atI (x :: l) 0 = some x := by
  have := atI_nat (l := x :: l) (i := 0)
  simpa using this
@[simp] theorem atI_1 {α : Type} {x y : α} {l : List α} : atI (x :: y :: l) 1 = some y := by
  have := atI_nat (l := x :: y :: l) (i := 1)
  simpa using this

/-! ### loops -/
theorem forL_ix {g : Val → En → Option En} {b : XS} (Inv : Nat → En → Prop) : ∀ (ds : List D) (i : Nat) (env : En), Inv i env →
    (∀ j d env, ds[j]? = some d → Inv (i + j) env → ∃ o env', (g (fz d) env).bind b = some (o, env') ∧ (o = .nx ∨ o = .ct) ∧ Inv (i + j + 1) env') → ∃ env', forL g b ds env = some (.nx, env') ∧ Inv (i + ds.length) env'
  | [], i, env, h, _ => ⟨env, rfl, h⟩
  | d :: ds, i, env, h, hs => by
    obtain ⟨o, env1, e1, ho, h1⟩ := hs 0 d env rfl h
    obtain ⟨env2, e2, h2⟩ := forL_ix (g := g) (b := b) Inv ds (i + 1) env1 h1 fun j d' env' hd hI => by
      have e : i + 1 + j = i + (j + 1) := by omega
      rw [e] at hI ⊢
      exact hs (j + 1) d' env' (by simpa using hd) hI
    refine ⟨env2, ?_, by have e : i + (d :: ds).length = i + 1 + ds.length := by rw [List.length_cons]; omega
                         rw [e]; exact h2⟩
    unfold forL
    cases e3 : g (fz d) env with
    | none => rw [e3] at e1; cases e1
    | some en =>
      rw [e3] at e1
      simp only [Option.bind_some] at e1 ⊢
      rw [e1]
      rcases ho with rfl | rfl <;> exact e2
theorem forL_inv {g : Val → En → Option En} {b : XS} (Inv : En → Prop) {ds : List D} {env : En} (h : Inv env)
    (hs : ∀ d ∈ ds, ∀ env, Inv env → ∃ o env', (g (fz d) env).bind b = some (o, env') ∧ (o = .nx ∨ o = .ct) ∧ Inv env') : ∃ env', forL g b ds env = some (.nx, env') ∧ Inv env' :=
  forL_ix (fun _ => Inv) ds 0 env h fun _ d env hd hI => hs d (List.mem_of_getElem? hd) env hI
/-- a turn of a comprehension -/
def lcS (g : Val → En → Option En) (t : XT) (f : XE) (own : List Nat) (d : D) (env : En) : Option (Option D × En) := (g (fz d) env).bind fun e1 => (t e1).bind fun p => if p.1 = true then
  (f p.2).bind fun q => some (some q.1.d, wipeE q.2 own) else some (none, wipeE p.2 own)
theorem lcL_step {g : Val → En → Option En} {t : XT} {f : XE} {own : List Nat} {d : D} {ds : List D} {env env' : En} {o : Option D} (h : lcS g t f own d env = some (o, env')) :
    lcL g t f own (d :: ds) env = (lcL g t f own ds env').bind fun r => some (o.toList ++ r.1, r.2) := by
  unfold lcS at h
  have e0 : lcL g t f own (d :: ds) env = (g (fz d) env).bind fun e1 => (t e1).bind fun p => if p.1 = true then
      (f p.2).bind fun q => (lcL g t f own ds (wipeE q.2 own)).bind fun r => some (q.1.d :: r.1, r.2)
    else lcL g t f own ds (wipeE p.2 own) := id rfl
  rw [e0]
  cases e1 : g (fz d) env with
  | none => rw [e1] at h; cases h
  | some env1 =>
    rw [e1] at h
    simp only [Option.bind_some] at h ⊢
    cases e2 : t env1 with
    | none => rw [e2] at h; cases h
    | some p =>
      rw [e2] at h
      simp only [Option.bind_some] at h ⊢
      split at h
      · rename_i hp
        rw [if_pos hp]
        cases e3 : f p.2 with
        | none => rw [e3] at h; cases h
        | some q =>
          rw [e3] at h
          simp only [Option.bind_some] at h ⊢
          injection h with h; injection h with h1 h2
          subst h1 h2
          rfl
      · rename_i hp
        rw [if_neg hp]
        injection h with h; injection h with h1 h2
        subst h1 h2
        cases lcL g t f own ds (wipeE p.2 own) <;> rfl
/-- nothing changes: what is kept, made over -/
theorem lcL_pure {g : Val → En → Option En} {t : XT} {f : XE} {own : List Nat} {env : En} (φ : D → Option D) : ∀ {ds : List D}, (∀ d ∈ ds, lcS g t f own d env = some (φ d, env)) → lcL g t f own ds env = some (ds.filterMap φ, env)
  | [], _ => rfl
  | d :: ds, h => by
    rw [lcL_step (h d List.mem_cons_self), lcL_pure φ fun d' hd => h d' (List.mem_cons_of_mem _ hd)]
    simp only [Option.bind_some, List.filterMap_cons]
    cases φ d <;> rfl
/-- two lists, item by item -/
inductive All2 {α β : Type} (R : α → β → Prop) : List α → List β → Prop
  | nil : All2 R [] []
  | cons {a : α} {b : β} {as : List α} {bs : List β} : R a b → All2 R as bs → All2 R (a :: as) (b :: bs)
/-- every item gives one -/
theorem lcL_all {g : Val → En → Option En} {t : XT} {f : XE} {own : List Nat} (Inv : En → Prop) (R : D → D → Prop) : ∀ {ds : List D} {env : En}, Inv env →
    (∀ d ∈ ds, ∀ env, Inv env → ∃ x env', lcS g t f own d env = some (some x, env') ∧ R d x ∧ Inv env') → ∃ out env', lcL g t f own ds env = some (out, env') ∧ All2 R ds out ∧ Inv env'
  | [], env, h, _ => ⟨[], env, rfl, .nil, h⟩
  | d :: ds, env, h, hs => by
    obtain ⟨x, env1, e1, r1, h1⟩ := hs d List.mem_cons_self env h
    obtain ⟨out, env2, e2, r2, h2⟩ := lcL_all Inv R h1 fun d' hd => hs d' (List.mem_cons_of_mem _ hd)
    refine ⟨x :: out, env2, ?_, .cons r1 r2, h2⟩
    rw [lcL_step e1, e2]
    rfl
/-- some items give one -/
theorem lcL_some {g : Val → En → Option En} {t : XT} {f : XE} {own : List Nat} (Inv : En → Prop) (R : D → Prop) : ∀ {ds : List D} {env : En}, Inv env →
    (∀ d ∈ ds, ∀ env, Inv env → ∃ o env', lcS g t f own d env = some (o, env') ∧ (∀ x, o = some x → R x) ∧ Inv env') → ∃ out env', lcL g t f own ds env = some (out, env') ∧ (∀ x ∈ out, R x) ∧ out.length ≤ ds.length ∧ Inv env'
  | [], env, h, _ => ⟨[], env, rfl, fun x h => by (cases h), Nat.le_refl _, h⟩
  | d :: ds, env, h, hs => by
    obtain ⟨o, env1, e1, r1, h1⟩ := hs d List.mem_cons_self env h
    obtain ⟨out, env2, e2, r2, hl, h2⟩ := lcL_some Inv R h1 fun d' hd => hs d' (List.mem_cons_of_mem _ hd)
    refine ⟨o.toList ++ out, env2, by rw [lcL_step e1, e2]; rfl, fun x hx => ?_, ?_, h2⟩
    · rcases List.mem_append.mp hx with hx | hx
      · exact r1 x (by cases o <;> simp at hx; rw [hx])
      · exact r2 x hx
    · cases o <;> simp <;> omega
theorem All2.length {α β : Type} {R : α → β → Prop} : ∀ {as : List α} {bs : List β}, All2 R as bs → as.length = bs.length
  | _, _, .nil => rfl
  | _, _, .cons _ t => congrArg (· + 1) (All2.length t)
/-! ### data in rows -/
abbrev nums (ns : List Int) : D := .lst (ns.map D.int)
abbrev txtL (l : List (List Nat)) : List D := l.map D.str
theorem intsFrom_len (lo : Int) (n : Nat) : (intsFrom lo n).length = n := by simp [intsFrom]
theorem intsFrom_get {lo : Int} {n j : Nat} {d : D} (h : (intsFrom lo n)[j]? = some d) : j < n ∧ d = .int (lo + j) := by
  unfold intsFrom at h
  rw [List.getElem?_map] at h
  obtain ⟨k, hk, e⟩ := Option.map_eq_some_iff.mp h
  obtain ⟨h1, h2⟩ := List.getElem?_eq_some_iff.mp hk
  simp at h1 h2
  subst h2
  exact ⟨h1, e.symm⟩
theorem intsFrom_mem {lo : Int} {n : Nat} {d : D} (h : d ∈ intsFrom lo n) : ∃ j : Nat, j < n ∧ d = .int (lo + j) := by
  obtain ⟨j, hj⟩ := List.getElem?_of_mem h
  exact ⟨j, intsFrom_get hj⟩
theorem dataL_strs (l : List (List Nat)) : dataL (txtL l) = true := by
  induction l with
  | nil => rfl
  | cons x l ih => simp [dataL, dataD, ih]
theorem depL_strs (l : List (List Nat)) : depL (txtL l) = 0 := by
  induction l with
  | nil => rfl
  | cons x l ih => simp [depL, depD, ih]
@[simp] theorem inOk_strs (s : List Nat) (l : List (List Nat)) : inOk (.str s) (txtL l) = true := by
  unfold inOk
  rw [dataL_strs, depL_strs]
  simp [dataD, depD]
@[simp] theorem memB_strs (s : List Nat) (l : List (List Nat)) : memB (.str s) (txtL l) = decide (s ∈ l) := by
  induction l with
  | nil => rfl
  | cons x l ih =>
    unfold memB at ih ⊢
    simp only [List.map_cons, List.any_cons, deq_str]
    rw [ih]
    by_cases h : x = s
    · subst h; simp
    · have h' : ¬ s = x := fun e => h e.symm
      simp [h, h']
theorem strsD_strs (l : List (List Nat)) : strsD (txtL l) = some l := by
  induction l with
  | nil => rfl
  | cons x l ih =>
    show (strsD (txtL l)).map (x :: ·) = _
    rw [ih]
    rfl

/-- a loop, as it stands in a goal -/
theorem forL_of {g : Val → En → Option En} {b : XS} {ds : List D} {env : En} {G : Option (Out × En)} (hG : forL g b ds env = G) (Inv : Nat → En → Prop) (h : Inv 0 env)
    (hs : ∀ j d env, ds[j]? = some d → Inv j env → ∃ o env', (g (fz d) env).bind b = some (o, env') ∧ (o = .nx ∨ o = .ct) ∧ Inv (j + 1) env') : ∃ env', G = some (.nx, env') ∧ Inv ds.length env' := by
  obtain ⟨env', e, hI⟩ := forL_ix Inv ds 0 env h fun j d env hd hI => by
    rw [Nat.zero_add] at hI ⊢
    exact hs j d env hd hI
  rw [Nat.zero_add] at hI
  exact ⟨env', by rw [← hG, e], hI⟩
theorem lcL_pure_of {g : Val → En → Option En} {t : XT} {f : XE} {own : List Nat} {env : En} {ds : List D} {G : Option (List D × En)} (hG : lcL g t f own ds env = G) (φ : D → Option D) (h : ∀ d ∈ ds, lcS g t f own d env = some (φ d, env)) : G = some (ds.filterMap φ, env) := by
  rw [← hG]; exact lcL_pure φ h
theorem lcL_all_of {g : Val → En → Option En} {t : XT} {f : XE} {own : List Nat} {ds : List D} {env : En} {G : Option (List D × En)} (hG : lcL g t f own ds env = G) (Inv : En → Prop) (R : D → D → Prop) (h : Inv env)
    (hs : ∀ d ∈ ds, ∀ env, Inv env → ∃ x env', lcS g t f own d env = some (some x, env') ∧ R d x ∧ Inv env') : ∃ out env', G = some (out, env') ∧ All2 R ds out ∧ Inv env' := by
  rw [← hG]; exact lcL_all Inv R h hs
theorem lcL_some_of {g : Val → En → Option En} {t : XT} {f : XE} {own : List Nat} {ds : List D} {env : En} {G : Option (List D × En)} (hG : lcL g t f own ds env = G) (Inv : En → Prop) (R : D → Prop) (h : Inv env)
    (hs : ∀ d ∈ ds, ∀ env, Inv env → ∃ o env', lcS g t f own d env = some (o, env') ∧ (∀ x, o = some x → R x) ∧ Inv env') : ∃ out env', G = some (out, env') ∧ (∀ x ∈ out, R x) ∧ out.length ≤ ds.length ∧ Inv env' := by
  rw [← hG]; exact lcL_some Inv R h hs
@[simp] theorem lcS_ev {g : Val → En → Option En} {t : XT} {f : XE} {own : List Nat} {d : D} {env : En} : lcS g t f own d env = (g (fz d) env).bind fun e1 => (t e1).bind fun p => if p.1 = true then
  (f p.2).bind fun q => some (some q.1.d, wipeE q.2 own) else some (none, wipeE p.2 own) := id rfl

theorem lcL_mapA {α : Type} {g : Val → En → Option En} {t : XT} {f : XE} {own : List Nat} {env : En} {enc : α → D} {l : List α} {G : Option (List D × En)} (hG : lcL g t f own (l.map enc) env = G) (φ : α → D)
    (h : ∀ a ∈ l, lcS g t f own (enc a) env = some (some (φ a), env)) : G = some (l.map φ, env) := by
  rw [← hG]
  clear hG
  induction l with
  | nil => rfl
  | cons a l ih =>
    rw [List.map_cons, lcL_step (h a List.mem_cons_self), ih fun b hb => h b (List.mem_cons_of_mem _ hb)]
    rfl
theorem lcL_filA {α : Type} {g : Val → En → Option En} {t : XT} {f : XE} {own : List Nat} {env : En} {enc : α → D} {l : List α} {G : Option (List D × En)} (hG : lcL g t f own (l.map enc) env = G) (p : α → Bool) (φ : α → D)
    (h : ∀ a ∈ l, lcS g t f own (enc a) env = some (if p a = true then some (φ a) else none, env)) : G = some ((l.filter p).map φ, env) := by
  rw [← hG]
  clear hG
  induction l with
  | nil => rfl
  | cons a l ih =>
    rw [List.map_cons, lcL_step (h a List.mem_cons_self), ih fun b hb => h b (List.mem_cons_of_mem _ hb), List.filter_cons]
    by_cases hp : p a = true
    · simp [hp]
    · simp [hp]
end Wk
end

section
/-! W30: set comprehensions of two clauses, of texts. -/
namespace Wk
open PySem PySem.Spec PyProof.Rows L2
abbrev scE (e : Expr) (a i b j : Expr) (f g : List Expr) (sc : Scope) (p : Pos) : Expr := .SetComp e [⟨a, i, f, 0⟩, ⟨b, j, g, 0⟩] sc p
theorem sc2_turn0 (e a i b j : Expr) (f g : List Expr) (sc : Scope) (p : Pos) (it acc : Value) (env : Env) :
    compTurn (scE e a i b j f g sc p) 0 it acc env = standAt i.pos >>= fun _ => pyNext it >>= fun r => match r with
      | none => pure (.done .next)
      | some v => letOwnedTupleGo a it v >>= fun _ => assign a env v >>= fun _ => testsOf f env >>= fun ok =>
        if ok = true then eval j env >>= fun x => standAt j.pos >>= fun _ => foldedSetIterable j env x >>= fun y => holding [y] (pyIter y) >>= fun z =>
            runOwn (.compStart (scE e a i b j f g sc p) 1 z acc env) env >>= fun _ => again (.compLoop (scE e a i b j f g sc p) 0 it acc env)
        else again (.compLoop (scE e a i b j f g sc p) 0 it acc env) := by rfl
theorem sc2_turn1 (e a i b j : Expr) (f g : List Expr) (sc : Scope) (p : Pos) (it acc : Value) (env : Env) :
    compTurn (scE e a i b j f g sc p) 1 it acc env = standAt j.pos >>= fun _ => pyNext it >>= fun r => match r with
      | none => pure (.done .next)
      | some v => letOwnedTupleGo b it v >>= fun _ => assign b env v >>= fun _ => testsOf g env >>= fun ok =>
        if ok = true then (eval e env >>= fun x => standAt e.pos >>= fun _ => call (.builtin "set.add") [acc, x] >>= fun _ => pure ()) >>= fun _ => again (.compLoop (scE e a i b j f g sc p) 1 it acc env)
        else again (.compLoop (scE e a i b j f g sc p) 1 it acc env) := by rfl
section
variable {prog : Program} {w : World} {A : Around} {R : Result → Shared → Prop} {s : Shared} {e a i b j : Expr} {f g : List Expr} {sc : Scope} {p : Pos} {it acc : Value} {env : Env}
abbrev noE : Value → Shared → Prop := fun _ _ => False
/-- one turn of a clause: what comes, goes to its target, is tested; then k -/
def oneT (prog : Program) (w : World) (A : Around) (R : Result → Shared → Prop) (tg : Expr) (ifs : List Expr) (it : Value) (env : Env) (stop : Shared → Prop) (k : Bool → Shared → Prop) (s : Shared) : Prop :=
  wpAny (model prog w) A (pyNext it) (fun r s1 => match r with
    | none => stop s1
    | some v => wpAny (model prog w) A (letOwnedTupleGo tg it v) (fun _ s2 => wpAny (model prog w) A (assign tg env v) (fun _ s3 => wpAny (model prog w) A (testsOf ifs env) k noE s3) noE s2) noE s1) noE s
theorem noE_to {α : Type} {M : Model} {t : Sem α} {Q Q' : α → Shared → Prop} {E : Value → Shared → Prop} {s : Shared} (h : wpAny M A t Q noE s) (i : ∀ x s, Q x s → Q' x s) : wpAny M A t Q' E s :=
  wpAny_mono h i fun _ _ z => z.elim
theorem sc2_loop1 (I : Nat → Shared → Prop)
    (turn : ∀ n s, I n s → oneT prog w A R b g it env (fun s1 => R (.ok .next) s1) (fun ok s1 => if ok = true then wpAny (model prog w) A (eval e env) (fun x s2 => wpAny (model prog w) A (call (.builtin "set.add") [acc, x]) (fun _ s3 => ∃ m, m < n ∧ I m s3) noE s2) noE s1
      else ∃ m, m < n ∧ I m s1) s) (n : Nat) (h : I n s) : codeAny (model prog w) A (.compLoop (scE e a i b j f g sc p) 1 it acc env) R s := by
  refine codeAny_loop rfl I (fun n s ht => ?_) n h
  show wpAny _ A ((compTurn (scE e a i b j f g sc p) 1 it acc env).onRaise fun x => noteFrame x env >>= fun _ => theTreesLotGoes x) _ _ s
  refine wpAny_noted ?_
  rw [sc2_turn1]
  refine wpAny_bind (wpAny_standAt (wpAny_bind (noE_to (turn n s ht) fun r s1 h1 => ?_)))
  cases r with
  | none => exact wpAny_pure h1
  | some v =>
    refine wpAny_bind (noE_to h1 fun _ s2 h2 => wpAny_bind (noE_to h2 fun _ s3 h3 => wpAny_bind (noE_to h3 fun ok s4 h4 => ?_)))
    cases ok with
    | false => exact wpAny_pure ⟨rfl, h4⟩
    | true => exact wpAny_bind (wpAny_bind (noE_to h4 fun x s5 h5 => wpAny_bind (wpAny_standAt (wpAny_bind (noE_to h5 fun _ s6 h6 => wpAny_pure (wpAny_pure ⟨rfl, h6⟩))))))
theorem sc2_loop0 (hs : ∀ x, foldedSetIterable j env x = pure x) (I : Nat → Shared → Prop)
    (turn : ∀ n s, I n s → oneT prog w A R a f it env (fun s1 => R (.ok .next) s1) (fun ok s1 => if ok = true then wpAny (model prog w) A (eval j env) (fun x s2 => wpAny (model prog w) A (pyIter x) (fun it1 s3 =>
        codeAny (model prog w) A (.compStart (scE e a i b j f g sc p) 1 it1 acc env) (fun r s' => match r with
          | .ok _ => (∃ m, m < n ∧ I m s')
          | .error _ => False) s3) noE s2) noE s1
      else ∃ m, m < n ∧ I m s1) s) (n : Nat) (h : I n s) : codeAny (model prog w) A (.compLoop (scE e a i b j f g sc p) 0 it acc env) R s := by
  refine codeAny_loop rfl I (fun n s ht => ?_) n h
  show wpAny _ A ((compTurn (scE e a i b j f g sc p) 0 it acc env).onRaise fun x => noteFrame x env >>= fun _ => theTreesLotGoes x) _ _ s
  refine wpAny_noted ?_
  rw [sc2_turn0]
  refine wpAny_bind (wpAny_standAt (wpAny_bind (noE_to (turn n s ht) fun r s1 h1 => ?_)))
  cases r with
  | none => exact wpAny_pure h1
  | some v =>
    refine wpAny_bind (noE_to h1 fun _ s2 h2 => wpAny_bind (noE_to h2 fun _ s3 h3 => wpAny_bind (noE_to h3 fun ok s4 h4 => ?_)))
    cases ok with
    | false => exact wpAny_pure ⟨rfl, h4⟩
    | true =>
      refine wpAny_bind (noE_to h4 fun x s5 h5 => wpAny_bind (wpAny_standAt (wpAny_bind (wpAny_of_eq (hs x) (wpAny_bind (wpAny_holding (noE_to h5 fun it1 s6 h6 => ?_)))))))
      refine wpAny_bind (wpAny_runOwn ?_); rw [Around.mark_none]
      refine codeAny_mono h6 fun r s' hr => ?_
      cases r with
      | error e => exact hr.elim
      | ok _ => first | exact wpAny_pure ⟨rfl, hr⟩ | exact wpAny_bind (wpAny_pure (wpAny_pure ⟨rfl, hr⟩))
theorem sc2_start1 (h0 : codeAny (model prog w) A (.compLoop (scE e a i b j f g sc p) 1 it acc env) R s)
    (h : wpAny (model prog w) A (pyIter it) (fun it' s' => codeAny (model prog w) A (.compLoop (scE e a i b j f g sc p) 1 it' acc env) R s') noE s) :
    codeAny (model prog w) A (.compStart (scE e a i b j f g sc p) 1 it acc env) R s := by
  refine codeAny_of_tree ?_
  show wpAny _ _ ((compStart (scE e a i b j f g sc p) 1 it acc env).onRaise fun x => noteFrame x env >>= fun _ => standAt theWindowsPlace) _ _ s
  refine wpAny_notedAt ?_
  unfold compStart; show wpAny _ _ (ask >>= _) _ _ s
  refine wpAny_bind (wpAny_askSetting (wpAny_ite ?_)); split
  · first | exact wpAny_bind (wpAny_pure (wpAny_pure ⟨rfl, h0⟩)) | exact wpAny_pure ⟨rfl, h0⟩
  · refine (wpAny_bind (wpAny_rule ?_))
    first | exact wpAny_bind (wpAny_standAt (wpAny_bind (noE_to h fun it' s' h' => wpAny_pure ⟨rfl, h'⟩))) | exact wpAny_bind (wpAny_bind (wpAny_standAt (noE_to h fun it' s' h' => wpAny_pure ⟨rfl, h'⟩)))
end
end Wk
end

section
/-! W31: sets of texts that can be walked. -/
namespace Wk
open PySem PySem.Spec PyProof.Rows L2 PySem.Froz
/-- the set at a holds the texts l; its table rises and is led -/
def SetS (P : Program) (w : World) (h : Heap) (a : Addr) (l : List Str) : Prop :=
  ∃ D : SD, h.get? a = some (sObj "set" D) ∧ TxOk P w D l ∧ l.Nodup ∧ l.length < scanBound ∧ Ris D.2.2.place.toList ∧ (w.params.followText "set-order" = true ∨ D.2.2.led = true)
section
variable {P : Program} {w : World} {A : Around} {E : Value → Shared → Prop} {s : Shared} {a : Addr} {l : List Str}
theorem tail_ris {ep : Nat} {es : Array (Int × Value)} {t : SetTable} {wd : Bool} (r : Ris t.place.toList) : Ris (tailTx ep es t wd).2.2.place.toList ∧ (tailTx ep es t wd).2.2.led = t.led := by
  unfold tailTx
  by_cases c : (!wd && t.tooFull) = true
  · rw [if_pos c]; exact ⟨relayAll_ris _ _ _, relayAll_led _ _ _⟩
  · rw [if_neg c]; exact ⟨r, rfl⟩
theorem addTx_ris {h : Int} {v : Value} {D : SD} (r : Ris D.2.2.place.toList) : Ris (addTx h v D).2.2.place.toList ∧ (addTx h v D).2.2.led = D.2.2.led := by
  have r1 := layNew_ris D.2.2 D.1 h v r
  have l1 := layNew_led D.2.2 D.1 h v
  unfold addTx
  by_cases c : (layNew D.2.2 D.1 h v).2.1.plain = true
  · rw [if_pos c]
    obtain ⟨q1, q2⟩ := tail_ris (ep := D.2.1) (es := (layNew D.2.2 D.1 h v).1) (t := { (layNew D.2.2 D.1 h v).2.1 with plain := false }) (wd := (layNew D.2.2 D.1 h v).2.2.1) r1
    exact ⟨q1, q2.trans l1⟩
  · rw [if_neg c]
    obtain ⟨q1, q2⟩ := tail_ris (ep := D.2.1) (es := (layNew D.2.2 D.1 h v).1) (t := (layNew D.2.2 D.1 h v).2.1) (wd := (layNew D.2.2 D.1 h v).2.2.1) r1
    exact ⟨q1, q2.trans l1⟩
theorem SetS.fresh {h : Heap} (w : World) : SetS P w (h.push { cls := .type "set", dict := none, data := .set #[] 0 (.fresh 0 0 (!w.params.followText "set-order")) }) h.objs.size [] :=
  ⟨(#[], 0, .fresh 0 0 (!w.params.followText "set-order")), Heap.get?_push_size _ rfl, .nil rfl, List.nodup_nil, by decide, List.Pairwise.nil, by
    cases hb : w.params.followText "set-order"
    · exact .inr rfl
    · exact .inl rfl⟩
theorem SetS.at {h h' : Heap} (R : SetS P w h a l) (k : ∀ o, h.get? a = some o → h'.get? a = some o) : SetS P w h' a l := by
  obtain ⟨D, ho, r⟩ := R
  exact ⟨D, k _ ho, r⟩
theorem add_had {D : SD} {k : Str} {u : Tok} {Q : Bool → Shared → Prop} (ho : s.heap.get? a = some (sObj "set" D)) (F : TxOk P w D l) (hk : k ∈ l) (hb : l.length < scanBound) (h : Q false s) :
    wpAny (model P w) A (setAddHashed a (.str k u) (hashStr w k)) Q E s := by
  obtain ⟨es, ep, t⟩ := D
  have hz : es.size = l.length := F.sz
  have h1 : es.size < scanBound := hz ▸ hb
  have h2 : (strKind P w).is k (.str k u) = true := is_str k u
  have h3 : (sObj "set" (es, ep, t)).data = .set es ep t := rfl
  have h4 : t.fits es.size = true := F.fit
  have h5 : ElemsOf (strKind P w) es.toList := F.el
  obtain ⟨x, hx, px⟩ := (F.mem k).mp hk
  have hx : x ∈ es.toList := hx
  unfold setAddHashed setAddHashedIn; refine wpAny_holding (wpAny_bind (wpAny_setState_of ho h3 h4 ?_))
  dsimp only
  rw [byScan_of (show (Value.str k u).scannable = true from rfl) h1 h5]
  simp only [↓reduceIte]
  unfold setAddByScan
  refine wpAny_bind (wpAny_bind (wpAny_rule (wpAny_bind (wpAny_setScan_of h2 ho h3 h4 h5 ?_))))
  cases hf : List.findIdx? (fun e => (strKind P w).is k e.2) es.toList with
  | none =>
    have := List.findIdx?_eq_none_iff.mp hf x hx
    rw [px] at this
    cases this
  | some j => exact wpAny_pure (wpAny_pure h)
theorem setS_add {k : Str} {u : Tok} {Q : Value → Shared → Prop} (R : SetS P w s.heap a l) (room : l.length + 1 < scanBound)
    (h : ∀ h', Heap.SameBut a s.heap h' → SetS P w h' a (if k ∈ l then l else k :: l) → Q .none { s with heap := h', toks := s.toks + 1 }) : wpAny (model P w) A (call (.builtin "set.add") [.ref a, .str k u]) Q E s := by
  obtain ⟨D, ho, F, nd, hb, r, hl⟩ := R
  have hT : s.TypeIs (.ref a) "set" := ⟨_, ho, rfl⟩
  refine wpAny_call_entry PySem.F.slot_set_add hT PySem.F.entry_set_add ?_ (PySem.F.args_set_add_2 _ _)
  unfold Builtin.«set.add» Builtin.Frozenset.oneOther; simp only [List.isEmpty_nil, bind_assoc]
  unfold Builtin.Frozenset.addrOf setAdd; refine wpAny_bind (wpAny_pure (wpAny_bind (wpAny_pure ?_)))
  refine wpAny_bind (wpAny_holding (wpAny_bind ((strKind P w).pyHash (is_str k u) ?_)))
  have old : SetS P w s.heap a l := ⟨D, ho, F, nd, hb, r, hl⟩
  by_cases hk : k ∈ l
  · refine add_had (s := { s with toks := s.toks + 1 }) ho F hk hb ?_
    have q := h s.heap (Heap.SameBut.refl a s.heap) (by rw [if_pos hk]; exact old)
    exact wpAny_pure ⟨_, rfl, q⟩
  · refine add_x (s := { s with toks := s.toks + 1 }) ho F hk room ?_
    have hx := get_upd (sObj "set" (addTx (hashStr w k) (.str k u) D)) ho rfl
    obtain ⟨r2, l2⟩ := addTx_ris (h := hashStr w k) (v := .str k u) r
    have q := h (s.heap.update a fun _ => sObj "set" (addTx (hashStr w k) (.str k u) D)) (Heap.SameBut.update s.heap a _) (by
      rw [if_neg hk]
      exact ⟨_, hx, add_ok u F, List.nodup_cons.mpr ⟨hk, nd⟩, room, r2, hl.imp id fun z => l2.trans z⟩)
    exact wpAny_pure ⟨_, rfl, q⟩
end
/-- such a set as a tracked thing -/
def SetSO (P : Program) (w : World) (a : Addr) (l : List Str) : HO := .ext fun h => SetS P w h a l
theorem setSO_new {w : World} {P : Program} {H : Hp} {h : Heap} {a : Addr} {l : List Str} (R : SetS P w h a l) : ObjOk P w H h a (SetSO P w a l) :=
  ⟨R, let ⟨_, ho, _⟩ := R; ⟨_, ho⟩, fun _ _ p k => SetS.at p k⟩
section
variable {X : Cx} {H : Hp} {s : Shared} {σ : L2.St} {pins : List (Addr × Obj)}
theorem setSO_get {a : Addr} {l : List Str} (I : Inv X pins σ H s) (ha : H a = some (SetSO X.prog X.w a l)) : SetS X.prog X.w s.heap a l := (I.hok a _ ha).1
theorem addS_ok {E : Value → Shared → Prop} {a : Addr} {l : List Str} {k : Str} {u : Tok} {Q : Value → Shared → Prop} (I : Inv X pins σ H s) (hD : H a = some (SetSO X.prog X.w a l)) (room : l.length + 1 < scanBound)
    (h : ∀ s', Inv X pins σ (upd H a (SetSO X.prog X.w a (if k ∈ l then l else k :: l))) s' → Q .none s') : wpAny (model X.prog X.w) X.A (call (.builtin "set.add") [.ref a, .str k u]) Q E s := by
  refine setS_add (setSO_get I hD) room fun h' sb new => ?_
  have he : ∃ o, h'.get? a = some o := let ⟨_, ho, _⟩ := new; ⟨_, ho⟩
  exact h _ (I.write (e := a) (t' := s.toks + 1) (by rw [hD]; trivial) (.inl rfl) (fun b o hb hu => (sb.2 b hb).trans hu) he (setSO_new new))
end
theorem newSet_at {P : Program} {w : World} {A : Around} {E : Value → Shared → Prop} {s : Shared} {Q : Value → Shared → Prop}
    (h : Q (.ref s.heap.objs.size) { s with heap := s.heap.push { cls := .type "set", dict := none, data := .set #[] 0 (.fresh 0 0 (!w.params.followText "set-order")) } }) : wpAny (model P w) A (newSet (.type "set")) Q E s := by
  unfold newSet
  refine wpAny_bind (wpAny_byText ?_); dsimp only
  simp only [newObj]; exact wpAny_bind (wpAny_alloc (wpAny_pure h))
end Wk
end

section
/-! W32: the set of texts that a comprehension of two clauses makes. -/
namespace Wk
open PySem PySem.Spec PyProof.Rows L2
section
variable {X : Cx}
/-- the second clause's turns, from Nx1 to Nx1; Nx: what the first clause's turn leaves -/
def inT (X : Cx) (D : Addr) (Nx : Hp → Prop) (J : It) (g : TG) (tt : TT) (te : TE) (σ2 : L2.St) (us : List Nat) (H0 : Hp) : Prop :=
  ∃ V : Nat → Nat → Hp → Prop, (∃ m, V 0 m H0) ∧ ∀ j k H, V j k H → (J.stop j H ∧ Nx H) ∨
    (J.go j H ∧ ∃ N1 : Hp → Prop, (∀ H', N1 H' → ∃ k', k' < k ∧ V (j + 1) k' H') ∧ ∀ x H', J.yld j H x H' →
      g x (wipe σ2 us) H' fun σ3 H5 => wipe σ3 us = wipe σ2 us ∧ tt σ3 H5 fun c H6 =>
        if c = true then te σ3 H6 fun y H7 => ∃ (t : Str) (l : List Str), y = .str t ∧ H7 D = some (SetSO X.prog X.w D l) ∧ l.length + 1 < scanBound ∧ N1 (upd H7 D (SetSO X.prog X.w D (if t ∈ l then l else t :: l)))
        else N1 H6)
def tSc2 (X : Cx) (wi : TI) (g : TG) (tt : TT) (wi1 : TI) (g1 : TG) (tt1 : TT) (te : TE) (vs us : List Nat) : TE := fun σ H Q =>
  wi σ H fun J H1 => ∀ D, H1 D = none → ∃ W : Nat → Nat → Hp → Prop, (∃ m, W 0 m (upd H1 D (SetSO X.prog X.w D []))) ∧ ∀ i m H, W i m H → (J.stop i H ∧ Q (.ref D) H) ∨
    (J.go i H ∧ ∃ Nx : Hp → Prop, (∀ H', Nx H' → ∃ m', m' < m ∧ W (i + 1) m' H') ∧ ∀ x H', J.yld i H x H' →
      g x (wipe σ vs) H' fun σ2 H2 => wipe σ2 vs = wipe σ vs ∧ tt σ2 H2 fun c H3 =>
        if c = true then wi1 σ2 H3 fun J1 H4 => inT X D Nx J1 g1 tt1 te σ2 us H4
        else Nx H3)
theorem sc2_core {pins : List (Addr × Obj)} {s : Shared} {σ : L2.St} {H : Hp} {Q : VK} {e a i b j : Expr} {f g : List Expr} {sc : Scope} {own : List (Str × Nat)} {us : List Nat} {p p' : Pos} {wi wi1 : TI} {tg tg1 : TG} {tt tt1 : TT} {te : TE} {use : Option (Value → Sem Unit)} {Qf : Value → Shared → Prop}
    (hc : X.calm = true) (hN : X.N.Nodup) (I : Inv X pins σ H s) (hi : PI X a i wi) (ok : BlkOk X.N X.env.scope sc own) (hv : ∀ n ∈ us, n ∈ own.map (·.2))
    (kg : ∀ (s : Shared) (H : Hp) (C : Addr) (cl : List (Str × Addr)) (fp : List Addr), PG (X.blk s H sc (compEnvC sc cl C X.env) fp) a tg)
    (kt : ∀ (s : Shared) (H : Hp) (C : Addr) (cl : List (Str × Addr)) (fp : List Addr), PTs (X.blk s H sc (compEnvC sc cl C X.env) fp) f tt)
    (ke : ∀ (s : Shared) (H : Hp) (C : Addr) (cl : List (Str × Addr)) (fp : List Addr), PE (X.blk s H sc (compEnvC sc cl C X.env) fp) e te)
    (ki : ∀ (s : Shared) (H : Hp) (C : Addr) (cl : List (Str × Addr)) (fp : List Addr), PI (X.blk s H sc (compEnvC sc cl C X.env) fp) b j wi1)
    (kg1 : ∀ (s : Shared) (H : Hp) (C : Addr) (cl : List (Str × Addr)) (fp : List Addr), PG (X.blk s H sc (compEnvC sc cl C X.env) fp) b tg1)
    (kt1 : ∀ (s : Shared) (H : Hp) (C : Addr) (cl : List (Str × Addr)) (fp : List Addr), PTs (X.blk s H sc (compEnvC sc cl C X.env) fp) g tt1)
    (hs : ∀ x, foldedSetIterable i X.env x = pure x) (hs1 : ∀ env x, foldedSetIterable j env x = pure x) (h : tSc2 X wi tg tt wi1 tg1 tt1 te (own.map (·.2)) us σ H Q)
    (back : ∀ D C s' m H', Inv X pins σ H' s' → Q (.ref D) H' → s'.heap.Ns C m → FpOk X pins H' C → compPost (model X.prog X.w) X.A X.xe use Qf (.ref D) C (.ok .next) s') :
    wpAny (model X.prog X.w) X.A (comprehension (scE e a i b j f g sc p) sc X.env p' (newSet (.type "set")) false (eval i X.env) use) Qf X.xe s := by
  have hfr : ∀ y ∈ sc.names, y.2 = .free → ∃ c, X.env.cells.lookup y.1 = some c := fun y hy q => (ok.free y hy q).elim (fun k => I.ok.has _ (.inl k)) fun k => I.ok.has _ (.inr k)
  refine wpAny_comprehension_free (use := use) rfl hs (closure_ok hfr) ok.kind (fun y hy q => by rw [ok.uniq y hy, q]) (thn (hi.run pins s σ H _ I h) fun xv s1 hx => thn hx fun itv s2 h2 => ?_)
  obtain ⟨it, fp, tn, J, H2, rfl, I2, T, st2, f2, q⟩ := h2
  refine newSet_at (newEnv_comp ?_)
  generalize hZ : s2.heap.objs.size = D
  obtain ⟨W, ⟨m0, w0⟩, turn⟩ := q D (I2.hok.fresh (Nat.le_of_eq hZ))
  generalize hs3 : (({ s2 with heap := s2.heap.push { cls := .type "set", dict := none, data := .set #[] 0 (.fresh 0 0 (!X.w.params.followText "set-order")) } } : Shared)) = s3
  generalize hH3 : upd H2 D (SetSO X.prog X.w D []) = H3 at w0
  have I3 : Inv X pins σ H3 s3 := by
    rw [← hs3, ← hH3]
    refine I2.laid (t' := s2.toks) (fun c o q => Heap.get?_push_of_some _ q) (Nat.le_of_eq hZ) ?_
    rw [← hZ]
    exact setSO_new (.fresh X.w)
  have h3 : ∀ c o, s2.heap.get? c = some o → s3.heap.get? c = some o := fun c o q => by rw [← hs3]; exact Heap.get?_push_of_some _ q
  have z3 : s3.heap.objs.size = D + 1 := by rw [← hs3, ← hZ]; exact Heap.size_push _ _
  have f3 : ∀ c ∈ fp, FpOk X pins H3 c ∧ c < s3.heap.objs.size := fun c hc' => by
    obtain ⟨o, q, _⟩ := T.obj _ _ st2 c hc'
    have lt := Heap.lt_size q
    rw [hZ] at lt
    refine ⟨⟨?_, (f2 c hc').2⟩, by rw [z3]; exact Nat.lt_succ_of_lt lt⟩
    rw [← hH3, upd_ne (Nat.ne_of_lt lt)]
    exact (f2 c hc').1
  have I4 := block_start I3 ok hN (f3)
  generalize hcl : cellsFrom (s3.heap.objs.size + 1) sc.names (cloFrom X.env.cells sc.names []) = cl at I4 ⊢
  have pg := kg s3 H3 s3.heap.objs.size cl fp
  have pt := kt s3 H3 s3.heap.objs.size cl fp
  have pe := ke s3 H3 s3.heap.objs.size cl fp
  have pi := ki s3 H3 s3.heap.objs.size cl fp
  have pg1 := kg1 s3 H3 s3.heap.objs.size cl fp
  have pt1 := kt1 s3 H3 s3.heap.objs.size cl fp
  have st3 : tn 0 s3.heap := T.keep _ _ _ st2 fun c _ o q => h3 c o q
  show codeAny _ _ (.compStart (scE e a i b j f g sc p) 0 (.ref it) (.ref D) (compEnvC sc cl s3.heap.objs.size X.env)) _ _
  generalize hce : compEnvC sc cl s3.heap.objs.size X.env = ce at I4 pg pt pe pi pg1 pt1 ⊢
  have cL : ce.locals = s3.heap.objs.size := by rw [← hce]; rfl
  generalize hs4 : ({ s3 with heap := pushCells (s3.heap.push { cls := .type "dict", data := .dict #[] }) sc.names } : Shared) = s4 at I4 ⊢
  have st4 : tn 0 s4.heap := T.keep _ _ _ st3 fun c _ o q => by rw [← hs4]; exact pushCells_keeps _ _ _ _ (Heap.get?_push_of_some _ q)
  have okf : ∀ {σ' : L2.St} {H' : Hp} {s' : Shared}, Inv (X.blk s3 H3 sc ce fp) [] σ' H' s' → (∀ c ∈ fp, H' c = none) → ∀ c ∈ fp, FpOk (X.blk s3 H3 sc ce fp) [] H' c := fun I' hn c hc' =>
    ⟨hn c hc', (I'.ok.exf c hc').1, I'.ok.exfs c hc', .inl hc', fun x d q => (I'.ok.exf c hc').2 x d q, fun r hr => by simp at hr⟩
  let OI : Nat → Shared → Prop := fun n s' => ∃ m Hh, Inv (X.blk s3 H3 sc ce fp) [] (wipe σ (own.map (·.2))) Hh s' ∧ tn m s'.heap ∧ (∀ c ∈ fp, Hh c = none) ∧ W m n Hh
  have loop : codeAny (model X.prog X.w) X.A (.compLoop (scE e a i b j f g sc p) 0 (.ref it) (.ref D) ce) (compPost (model X.prog X.w) X.A X.xe use Qf (.ref D) s3.heap.objs.size) s4 := by
    refine sc2_loop0 (hs1 ce) OI ?_ m0 ⟨0, H3, I4, st4, fun c hc' => (f3 c hc').1.1, w0⟩
    rintro n s5 ⟨m, H5, I5, st5, n5, w5⟩
    rcases turn m n H5 w5 with ⟨stop, fin0⟩ | ⟨go, Nx, hNx, step⟩
    · refine noE_to (T.done (X.blk s3 H3 sc ce fp) rfl rfl rfl hc m [] s5 _ H5 noE I5 (okf I5 n5) st5 stop) fun r s6 ⟨hr, I6⟩ => ?_
      subst hr
      have I7 : Inv X pins σ H5 s6 := I3.call' (ch := fp) I6.os I6.base I6.hok I6.bare fun c hc' => let z := (f3 c hc').1; ⟨z.2.2.2.1, z.2.1, z.2.2.2.2.1, z.2.2.2.2.2⟩
      have nC : H5 s3.heap.objs.size = none := cL ▸ (show H5 ce.locals = none from I6.free)
      obtain ⟨k, hk, _⟩ := I6.loc
      have hk : s6.heap.Ns s3.heap.objs.size k := cL ▸ (show s6.heap.Ns ce.locals k from hk)
      exact back D s3.heap.objs.size s6 k H5 I7 fin0 hk (I3.fpOk (Nat.le_refl _) nC)
    · refine noE_to (T.item (X.blk s3 H3 sc ce fp) rfl rfl rfl hc m [] s5 _ H5 noE I5 (okf I5 n5) st5 go) fun r s6 ⟨u, hr, h6⟩ => ?_
      subst hr
      refine noE_to h6 fun _ s7 ⟨x, H7, I7, r7, y7, st7, n7⟩ => ?_
      refine noE_to (pg.run _ s7 _ H7 x u _ (I7.pinned (okf I7 n7) (T.obj _ _ st7)) r7 (step x H7 y7)) fun _ s8 ⟨σ8, H8, I8, hw8, q8⟩ => ?_
      refine noE_to (pt.run _ s8 σ8 H8 _ I8 q8) fun c s9 ⟨H9, I9, q9⟩ => ?_
      have leave : ∀ {σ9 : L2.St} {s' : Shared} {H' : Hp}, Inv (X.blk s3 H3 sc ce fp) ([] ++ pinsAt fp s7.heap) σ9 H' s' → (wipe σ (own.map (·.2))).length = σ9.length →
          (∀ (k : Nat) v, (wipe σ (own.map (·.2)))[k]? = some (some v) → σ9[k]? = some (some v)) → Nx H' → ∃ n', n' < n ∧ OI n' s' := fun {σ9 s' H'} I' hl hk nx => by
        obtain ⟨n', hn', w'⟩ := hNx H' nx
        have pin : ∀ c ∈ fp, ∀ o, s7.heap.get? c = some o → s'.heap.get? c = some o ∧ H' c = none := fun c hc' o q =>
          let z := I'.pin (c, o) (List.mem_append_right _ (List.mem_append_right _ (mem_pinsAt hc' q)))
          ⟨z.1, z.2.1⟩
        refine ⟨n', hn', m + 1, H', (I'.unpinned (pins := [])).weak hl hk, T.keep _ _ _ st7 fun c hc' o q => (pin c hc' o q).1, fun c hc' => ?_, w'⟩
        obtain ⟨o, q, _⟩ := T.obj _ _ st7 c hc'
        exact (pin c hc' o q).2
      have hl8 : (wipe σ (own.map (·.2))).length = σ8.length := by (rw [← hw8, wipe_length])
      have hk8 : ∀ (k : Nat) v, (wipe σ (own.map (·.2)))[k]? = some (some v) → σ8[k]? = some (some v) ∧ k ∉ own.map (·.2) := fun k v q => wipe_some (hw8 ▸ q)
      cases c with
      | false =>
        simp only [if_false, Bool.false_eq_true] at q9 ⊢
        exact leave I9 hl8 (fun k v q => (hk8 k v q).1) q9
      | true =>
        simp only [if_true] at q9 ⊢
        refine noE_to (pi.run _ s9 σ8 H9 _ I9 q9) fun xv s10 hx => noE_to hx fun itv s11 h11 => ?_
        obtain ⟨it1, fp1, tn1, J1, H11, rfl, I11, T1, st11, f11, V, ⟨k0, v0⟩, turn1⟩ := h11
        have okf1 : ∀ {H' : Hp}, (∀ c ∈ fp1, H' c = none) → ∀ c ∈ fp1, FpOk (X.blk s3 H3 sc ce fp) ([] ++ pinsAt fp s7.heap) H' c := fun hn c hc' => ⟨hn c hc', (f11 c hc').2⟩
        let II1 : Nat → Shared → Prop := fun k s' => ∃ l Hh, Inv (X.blk s3 H3 sc ce fp) ([] ++ pinsAt fp s7.heap) (wipe σ8 us) Hh s' ∧ tn1 l s'.heap ∧ (∀ c ∈ fp1, Hh c = none) ∧ V l k Hh
        have inner : codeAny (model X.prog X.w) X.A (.compLoop (scE e a i b j f g sc p) 1 (.ref it1) (.ref D) ce) (fun r s' => match r with
            | .ok _ => ∃ n', n' < n ∧ OI n' s'
            | .error _ => (False)) s11 := by
          refine sc2_loop1 II1 ?_ k0 ⟨0, H11, I11.weak (wipe_length _ _) (fun k v q => (wipe_some q).1), st11, fun c hc' => (f11 c hc').1, v0⟩
          rintro k s12 ⟨l, H12, I12, st12, n12, w12⟩
          rcases turn1 l k H12 w12 with ⟨stop1, nx1⟩ | ⟨go1, N1, hN1, step1⟩
          · refine noE_to (T1.done (X.blk s3 H3 sc ce fp) rfl rfl rfl hc l _ s12 (wipe σ8 us) H12 noE I12 (okf1 n12) st12 stop1) fun r s13 ⟨hr, I13⟩ => ?_
            subst hr
            exact leave I13 (hl8.trans (wipe_length σ8 us).symm) (fun k v q => by rw [wipe_out fun z => (hk8 k v q).2 (hv k z)]; exact (hk8 k v q).1) nx1
          · refine noE_to (T1.item (X.blk s3 H3 sc ce fp) rfl rfl rfl hc l _ s12 (wipe σ8 us) H12 noE I12 (okf1 n12) st12 go1) fun r s13 ⟨u1, hr, h13⟩ => ?_
            subst hr
            refine noE_to h13 fun _ s14 ⟨x1, H14, I14, r14, y14, st14, n14⟩ => ?_
            refine noE_to (pg1.run _ s14 (wipe σ8 us) H14 x1 u1 _ (I14.pinned (okf1 n14) (T1.obj _ _ st14)) r14 (step1 x1 H14 y14)) fun _ s15 ⟨σ15, H15, I15, hw15, q15⟩ => ?_
            refine noE_to (pt1.run _ s15 σ15 H15 _ I15 q15) fun c1 s16 ⟨H16, I16, q16⟩ => ?_
            have leave1 : ∀ {s' : Shared} {H' : Hp}, Inv (X.blk s3 H3 sc ce fp) (([] ++ pinsAt fp s7.heap) ++ pinsAt fp1 s14.heap) σ15 H' s' → N1 H' → ∃ k', k' < k ∧ II1 k' s' := fun {s' H'} I' nx => by
              obtain ⟨k', hk', w'⟩ := hN1 H' nx
              have pin : ∀ c ∈ fp1, ∀ o, s14.heap.get? c = some o → s'.heap.get? c = some o ∧ H' c = none := fun c hc' o q =>
                let z := I'.pin (c, o) (List.mem_append_right _ (List.mem_append_right _ (mem_pinsAt hc' q)))
                ⟨z.1, z.2.1⟩
              refine ⟨k', hk', l + 1, H', I'.unpinned.weak (by rw [← hw15, wipe_length]) (fun k v q => (wipe_some (hw15 ▸ q)).1), T1.keep _ _ _ st14 fun c hc' o q => (pin c hc' o q).1, fun c hc' => ?_, w'⟩
              obtain ⟨o, q, _⟩ := T1.obj _ _ st14 c hc'
              exact (pin c hc' o q).2
            cases c1 with
            | false =>
              simp only [if_false, Bool.false_eq_true] at q16 ⊢
              exact leave1 I16 q16
            | true =>
              simp only [if_true] at q16 ⊢
              refine noE_to (pe.run _ s16 σ15 H16 _ I16 q16) fun z s17 ⟨yv, H17, I17, r17, t, l0, ey, hD17, hz17, nx⟩ => ?_
              subst ey
              obtain ⟨tk, rfl⟩ := r17
              exact addS_ok (X := X.blk s3 H3 sc ce fp) I17 hD17 hz17 fun s18 I18 => leave1 I18 nx
        exact sc2_start1 inner (T1.self X.A 0 _ _ _ st11 inner)
  exact PySem.codeAny_compStart_set loop (T.self X.A 0 _ _ _ st4 loop)
/-- as a value -/
theorem pe_sc2 {e a i b j : Expr} {f g : List Expr} {sc : Scope} {own : List (Str × Nat)} {us : List Nat} {p : Pos} {wi wi1 : TI} {tg tg1 : TG} {tt tt1 : TT} {te : TE}
    (hc : X.calm = true) (hN : X.N.Nodup) (hi : PI X a i wi) (ok : BlkOk X.N X.env.scope sc own) (hv : ∀ n ∈ us, n ∈ own.map (·.2))
    (kg : ∀ (s : Shared) (H : Hp) (C : Addr) (cl : List (Str × Addr)) (fp : List Addr), PG (X.blk s H sc (compEnvC sc cl C X.env) fp) a tg)
    (kt : ∀ (s : Shared) (H : Hp) (C : Addr) (cl : List (Str × Addr)) (fp : List Addr), PTs (X.blk s H sc (compEnvC sc cl C X.env) fp) f tt)
    (ke : ∀ (s : Shared) (H : Hp) (C : Addr) (cl : List (Str × Addr)) (fp : List Addr), PE (X.blk s H sc (compEnvC sc cl C X.env) fp) e te)
    (ki : ∀ (s : Shared) (H : Hp) (C : Addr) (cl : List (Str × Addr)) (fp : List Addr), PI (X.blk s H sc (compEnvC sc cl C X.env) fp) b j wi1)
    (kg1 : ∀ (s : Shared) (H : Hp) (C : Addr) (cl : List (Str × Addr)) (fp : List Addr), PG (X.blk s H sc (compEnvC sc cl C X.env) fp) b tg1)
    (kt1 : ∀ (s : Shared) (H : Hp) (C : Addr) (cl : List (Str × Addr)) (fp : List Addr), PTs (X.blk s H sc (compEnvC sc cl C X.env) fp) g tt1)
    (hs : ∀ x, foldedSetIterable i X.env x = pure x := by intro _; rfl) (hs1 : ∀ env x, foldedSetIterable j env x = pure x := by intro _ _; rfl) : PE X (scE e a i b j f g sc p) (tSc2 X wi tg tt wi1 tg1 tt1 te (own.map (·.2)) us) := by
  refine ⟨fun pins s σ H Q I h => ?_⟩; rw [PpSet.eval_SetComp]
  refine sc2_core hc hN I hi ok hv kg kt ke ki kg1 kt1 hs hs1 h fun D C s' m H' I' q hn z => ⟨m, hn, fun h'' sb => ?_⟩
  obtain ⟨z0, z1, z2, z3, z4, z5⟩ := z
  exact ⟨.ref D, H', I'.turned (t' := s'.toks) (fun b o hb e => (sb.2 b hb).trans e) z0 z1 z3 z4 z5, rfl, q⟩
end
end Wk
end

section
/-! W33: sorted of a set of texts. -/
namespace Wk
open PySem PySem.Spec PyProof.Rows L2 PySem.Froz
theorem sort_goP {X : Cx} {pins : List (Addr × Obj)} {σ : L2.St} {H F : Hp} {s : Shared} (Good : List V → List D → Prop) (hu : X.A.units + 128 < cLine) (sF : Same F H) (hG : ∀ vs ds, Good vs ds → Reps X.K F vs ds ∧ sortOk ds = true) {x : Value} {Q : VK} {E : Value → Shared → Prop}
    (hcol : ∀ (E' : Value → Shared → Prop) (Q' : List Value → Shared → Prop), (∀ us s1 vs ds, Inv X pins σ H s1 → Vals vs us → Good vs ds → Q' us s1) → wpAny (model X.prog X.w) X.A.in1 (collect x) Q' E' s)
    (q : ∀ vs ds, Good vs ds → ∀ z F' H', Stp X.K [] F H [(ow (.lst (ds.mergeSort leB)), z)] F' H' → Q z H') :
    wpAny (model X.prog X.w) X.A (call (.builtin "sorted") [x]) (fun u s' => EP X pins σ Q u s') E s := by
  refine sorted_any (fun us s1 => ∃ vs ds, Inv X pins σ H s1 ∧ Vals vs us ∧ Good vs ds) (fun E' Q' h => hcol E' Q' fun us s1 vs ds I1 rv g => h us s1 ⟨vs, ds, I1, rv, g⟩) ?_
  rintro us s1 ⟨vs, ds, I1, rv, g⟩
  obtain ⟨rp, hok⟩ := hG vs ds g
  replace q := q vs ds g
  have hlen := rp.length
  have hzip : (ds.zip vs).map (·.1) = ds := zip_fst hlen.symm
  have hok2 : sortOk ((ds.zip vs).map (·.1)) = true := by rw [hzip]; exact hok
  obtain ⟨a1, a2, a3, a4, a5⟩ := sortOk_use (k := fun p : D × V => p.1) hok2
  rw [hzip] at a5
  have hL : us.length ≤ sizeLine := by
    have h1 := rv.length
    have h2 : vs.length = (ds.zip vs).length := by rw [List.length_zip]; omega
    omega
  obtain ⟨e1, e2⟩ := reps_zip (K := X.K) I1 sF rp rv a5
  have ho : (s1.heap.push (seqObj "list" us.toArray 0)).get? s1.heap.objs.size = some (seqObj "list" us.toArray 0) := Heap.get?_push_size _ rfl
  have old : ∀ b o, s1.heap.get? b = some o → (PySem.W.sortingHeap (s1.heap.push (seqObj "list" us.toArray 0)) s1.heap.objs.size us).get? b = some o := fun b o e =>
    PySem.W.sortingHeap_old (Nat.ne_of_lt (Heap.lt_size e)) (Heap.get?_push_of_some _ e)
  have er' : PySem.W.EachIs (fun u (p : D × V) => ∃ as, Reads (PySem.W.sortingHeap (s1.heap.push (seqObj "list" us.toArray 0)) s1.heap.objs.size us) u (py p.1) as) us (ds.zip vs) :=
    e2.mono fun _ _ ⟨as, r⟩ => ⟨as, PyProof.Rows.Reads.keeps old r⟩
  refine ⟨hL, _, PySem.W.SortsAt.data (ds := (ds.zip vs).map fun p => py p.1) (s := { s1 with heap := PySem.W.sortingHeap (s1.heap.push (seqObj "list" us.toArray 0)) s1.heap.objs.size us }) (PySem.W.each_map (R := fun v d => ∃ as, Reads (PySem.W.sortingHeap (s1.heap.push (seqObj "list" us.toArray 0)) s1.heap.objs.size us) v d as) (fun p : D × V => py p.1) er') a1 a2 (fun d hd => ?_), ?_⟩
  · obtain ⟨b, hb, rfl⟩ := List.mem_map.mp hd
    have := a4 b hb
    show X.A.units + 2 + (py b.1).depth < cLine
    omega
  have eo := PySem.W.sortVals_data (h' := PySem.W.sortingHeap (s1.heap.push (seqObj "list" us.toArray 0)) s1.heap.objs.size us) (R := fun u (p : D × V) => RelV p.2 u ∧ Rep X.K F p.2 p.1) (enc := fun p : D × V => py p.1) false e1 er' a1
  have hol := PySem.W.sortVals_length (κ := PySem.W.dataKind (PySem.W.sortingHeap (s1.heap.push (seqObj "list" us.toArray 0)) s1.heap.objs.size us) ((ds.zip vs).map fun p => py p.1)) (vs := us) (ks := us) false rfl
  generalize PySem.W.sortVals _ false us us = out at eo hol ⊢
  obtain ⟨v1, v2⟩ := each_back eo
  have hsrt : ((ds.zip vs).mergeSort (PySem.W.dataLe false fun p : D × V => py p.1)).map (·.1) = ds.mergeSort leB := by
    have := sort_fst leB (ds.zip vs)
    rw [hzip] at this
    exact this
  rw [hsrt] at v2
  obtain ⟨c, hc⟩ := sortedHeap_at (vs := us) (out := out.toArray) ho
  have I2 := I1.laid (t' := s1.toks) (h' := sortedHeap (s1.heap.push (seqObj "list" us.toArray 0)) s1.heap.objs.size us out.toArray) (a := s1.heap.objs.size) (o := .lst _)
    (fun b o e => by
      have hb : b < s1.heap.objs.size := Heap.lt_size e
      rw [sortedHeap_old (Nat.ne_of_lt hb) (by rw [size_push']; exact Nat.lt_succ_of_lt hb)]
      exact Heap.get?_push_of_some _ e) (Nat.le_refl _)
    (show ObjOk X.prog X.w _ _ _ (.lst _) from ⟨by rw [v1.length, hol]; exact hL, out, c, v1, hc⟩)
  exact ⟨.ref _, _, I2, rfl, new_lst sF q (I1.hok.fresh (Nat.le_refl _)) v2⟩

/-- the texts of a set, in some order -/
def txG (l : List Str) (vs : List V) (ds : List D) : Prop := ∃ m : List Str, m.Perm l ∧ vs = m.map V.str ∧ ds = m.map fun t => D.str t.cps.toList

theorem perm_of_sub {α : Type} [DecidableEq α] : ∀ {l m : List α}, l.Nodup → (∀ x ∈ l, x ∈ m) → m.length ≤ l.length → m.Perm l
  | [], m, _, _, h => by
    have : m = [] := List.eq_nil_of_length_eq_zero (Nat.le_zero.mp h)
    rw [this]
  | a :: l, m, nd, hs, h => by
    obtain ⟨n1, n2⟩ := List.nodup_cons.mp nd
    have p := List.perm_cons_erase (hs a List.mem_cons_self)
    have hl := p.length_eq
    rw [List.length_cons] at hl h
    refine p.trans ((perm_of_sub n2 (fun x hx => ?_) (by omega)).cons a)
    have hne : x ≠ a := fun e => n1 (e ▸ hx)
    exact (List.mem_erase_of_ne hne).mpr (hs x (List.mem_cons_of_mem _ hx))
def keyS : Value → Str
  | .str k _ => k
  | _ => ⟨#[]⟩
theorem isStr_shape {P : Program} {w : World} {k : Str} {v : Value} (h : (strKind P w).is k v = true) : ∃ u, v = .str k u := by
  have h : Value.isStrOf k v = true := h
  cases v with
  | str x u =>
    have : x = k := by simpa [Value.isStrOf] using h
    exact ⟨u, by rw [this]⟩
  | _ => simp [Value.isStrOf] at h
theorem vals_str : ∀ (out : List Value), (∀ v ∈ out, ∃ k u, v = Value.str k u) → Vals ((out.map keyS).map V.str) out
  | [], _ => .nil
  | v :: out, h => by
    obtain ⟨k, u, rfl⟩ := h v List.mem_cons_self
    exact .cons ⟨u, rfl⟩ (vals_str out fun v hv => h v (List.mem_cons_of_mem _ hv))
/-- the members of such a set, in some order -/
theorem txOk_out {P : Program} {w : World} {D : SD} {l : List Str} {out : List Value} (F : TxOk P w D l) (nd : l.Nodup) (hp : out.Perm (D.1.toList.map (·.2))) : (out.map keyS).Perm l ∧ Vals ((out.map keyS).map V.str) out := by
  have sh : ∀ e ∈ D.1.toList, ∃ k u, e.2 = Value.str k u := fun e he => by
    obtain ⟨⟨k, hk, _⟩, _⟩ := F.el e he
    obtain ⟨u, hu⟩ := isStr_shape hk
    exact ⟨k, u, hu⟩
  refine ⟨(hp.map keyS).trans (perm_of_sub nd (fun k hk => ?_) ?_), vals_str out fun v hv => ?_⟩
  · obtain ⟨e, he, pe⟩ := (F.mem k).mp hk
    obtain ⟨u, hu⟩ := isStr_shape pe
    exact List.mem_map.mpr ⟨e.2, List.mem_map.mpr ⟨e, he, rfl⟩, by rw [hu]; rfl⟩
  · rw [List.length_map, List.length_map, Array.length_toList]
    exact Nat.le_of_eq F.sz
  · obtain ⟨e, he, rfl⟩ := List.mem_map.mp (hp.mem_iff.mp hv)
    exact sh e he
theorem reps_tx {K : PySem.W.Frag} {F : Hp} : ∀ (m : List Str), (∀ t ∈ m, strG t.cps.toList = true) → Reps K F (m.map V.str) (m.map fun t => D.str t.cps.toList)
  | [], _ => .nil
  | t :: m, h => .cons (.str t.cps.toList (h t List.mem_cons_self)) (reps_tx m fun x hx => h x (List.mem_cons_of_mem _ hx))
theorem sortOk_tx (m : List Str) (h : m.length ≤ sizeLine) : sortOk (m.map fun t => D.str t.cps.toList) = true := by
  have e : (m.map fun t => D.str t.cps.toList) = txtL (m.map fun t => t.cps.toList) := by simp
  unfold sortOk
  rw [e, dataL_strs, depL_strs]
  have hlen : (m.map fun t => t.cps.toList).length ≤ sizeLine := by rw [List.length_map]; exact h
  generalize (m.map fun t => t.cps.toList) = l at *
  have h1 : ((txtL l).all fun a => (txtL l).all fun b => alikeD a b) = true := by
    refine List.all_eq_true.mpr fun a ha => List.all_eq_true.mpr fun b hb => ?_
    obtain ⟨x, _, rfl⟩ := List.mem_map.mp ha
    obtain ⟨y, _, rfl⟩ := List.mem_map.mp hb
    simp [alikeD, py, PySem.W.alike]
  have h2 : (txtL l).all isOtherB = true := List.all_eq_true.mpr fun a ha => by
    obtain ⟨x, _, rfl⟩ := List.mem_map.mp ha
    rfl
  rw [h1, h2]
  simpa using hlen
theorem cs_sortS {X : Cx} (hc : X.calm = true) (hu : X.A.units + 128 < cLine) : CallR X (.builtin "sorted") (fun xs H Q => ∃ a l F, xs = [V.ref a] ∧ H a = some (SetSO X.prog X.w a l) ∧ Same F H ∧ (∀ t ∈ l, strG t.cps.toList = true) ∧
    ∀ ds, (∃ m : List Str, m.Perm l ∧ ds = m.map fun t => D.str t.cps.toList) → ∀ z F' H', Stp X.K [] F H [(ow (.lst (ds.mergeSort leB)), z)] F' H' → Q z H') := by
  rintro pins s σ H xs us Q I r ⟨a, l, F, rfl, hD, sF, hg, q⟩
  obtain ⟨u, rfl, rx⟩ := vals1 r
  obtain rfl : u = Value.ref a := rx
  obtain ⟨D', ho, T, nd, hb, rs, hl⟩ := setSO_get I hD
  have hz : l.length ≤ sizeLine := by
    have := fits_of_scanBound (n := l.length) hb
    exact this
  refine sort_goP (txG l) hu sF (fun vs ds ⟨m, hm, e1, e2⟩ => ?_) (fun E' Q' h => ?_) (fun vs ds ⟨m, hm, e1, e2⟩ => q ds ⟨m, hm, e2⟩)
  · subst e1 e2
    exact ⟨reps_tx m fun t ht => hg t (hm.mem_iff.mp ht), sortOk_tx m (by rw [hm.length_eq]; exact hz)⟩
  · refine collect_set (A := X.A.in1) (I.ok.hd hc) ⟨_, ho, rfl, rfl⟩ T.fit (by rw [T.sz]; exact hb) rs hl fun s' out k1 k2 k3 k4 hp => ?_
    obtain ⟨p1, p2⟩ := txOk_out T nd hp
    have Jn : Inv X pins σ H { s with heap := s'.heap, gens := s'.gens, drawn := s'.drawn, toks := s'.toks } := I.call (ch := []) (Un.kept k1) (I.hok.kept k1) (by rw [k3]; exact I.bare) fun _ z => nomatch z
    have es : s' = { s with heap := s'.heap, gens := s'.gens, drawn := s'.drawn, toks := s'.toks } := by (obtain ⟨_, _, _, _, _⟩ := s'; obtain ⟨_, _, _, _, _⟩ := s; cases k4; rfl)
    exact h out s' _ _ (es ▸ Jn) p2 ⟨out.map keyS, p1, rfl, rfl⟩
end Wk
end

section
/-! W34: the walk of a set comprehension of two clauses. -/
namespace Wk
open PySem PySem.Spec PyProof.Rows L2 PySem.Froz
/-- a thing that nobody owns is written -/
theorem Stp.put {K : PySem.W.Frag} {F F' H H' : Hp} {L M : LV} {D : Addr} {o : HO} (s : Stp K L F H M F' H') (h0 : H D = none) (hF : F' D = none) (hM : D ∉ ows M) : Stp K L F H M F' (upd H' D o) := by
  refine ⟨⟨fun a z e => ?_, fun p hp => ?_, s.rel.nd⟩, s.mono, fun a z e n => ?_, s.own⟩
  · rw [upd_ne (fun w => by subst w; rw [hF] at e; cases e)]
    exact s.rel.sub a z e
  · refine (s.rel.ok p hp).kept (Same.refl _) fun b z e1 e2 e3 => ⟨?_, fun w => w⟩
    rw [upd_ne]
    · exact e3
    · intro w
      subst w
      obtain ⟨⟨o', d'⟩, x'⟩ := p
      have e2 : o' = true := e2
      have e1 : x' = .ref b := e1
      subst e1 e2
      exact hM (mem_ows.mpr ⟨d', hp⟩)
  · obtain ⟨k1, k2⟩ := s.keep a z e n
    refine ⟨?_, k2⟩
    rw [upd_ne (fun w => by subst w; rw [h0] at e; cases e)]
    exact k1
/-- the items of two clauses, one behind the other; us: the second target's names -/
def lcL2 (own us : List Nat) (g : Val → En → Option En) (t : XT) (it2 : XI) (g2 : Val → En → Option En) (t2 : XT) (f : XE) : List D → En → Option (List D × En)
  | [], env => some ([], env)
  | d :: ds, env => (g (fz d) env).bind fun e1 => (t e1).bind fun p => if p.1 = true then
      (it2 p.2).bind fun q => (lcL g2 t2 f us q.1 (wipeE q.2 us)).bind fun r => (lcL2 own us g t it2 g2 t2 f ds (wipeE r.2 own)).bind fun z => some (r.1 ++ z.1, z.2)
    else lcL2 own us g t it2 g2 t2 f ds (wipeE p.2 own)
def addS1 (l : List (List Nat)) (t : List Nat) : List (List Nat) := if t ∈ l then l else t :: l
/-- sorted({f for g in it if t for g2 in it2 if t2}), of texts -/
def eSortSC (own us : List Nat) (it : XI) (g : Val → En → Option En) (t : XT) (it2 : XI) (g2 : Val → En → Option En) (t2 : XT) (f : XE) : XE := fun env => (it env).bind fun p =>
  (lcL2 own us g t it2 g2 t2 f p.1 (wipeE p.2 own)).bind fun q => (strsD q.1).bind fun ts =>
    if (ts.foldl addS1 []).length + 1 < 4096 then some (ow (.lst (((ts.foldl addS1 []).map D.str).mergeSort leB)), backE p.2 q.2 own) else none

/-! ### the walk -/
theorem wipe_sub {s : L2.St} {own us : List Nat} (h : ∀ n ∈ us, n ∈ own) : L2.wipe (L2.wipe s us) own = L2.wipe s own := by
  apply List.ext_getElem?
  intro i
  by_cases hm : i ∈ own
  · by_cases hi : i < s.length
    · rw [wipe_in hm (by rw [wipe_length]; exact hi), wipe_in hm hi]
    · rw [List.getElem?_eq_none (by rw [wipe_length, wipe_length]; omega), List.getElem?_eq_none (by rw [wipe_length]; omega)]
  · rw [wipe_get hm, wipe_get hm, wipe_get fun w => hm (h i w)]
def toS (t : List Nat) : Str := ⟨t.toArray⟩
theorem toS_inj {a b : List Nat} (h : toS a = toS b) : a = b := by
  unfold toS at h
  injection h with h
  simpa using h
theorem addS1_toS {l : List (List Nat)} {t : List Nat} : (if toS t ∈ l.map toS then l.map toS else toS t :: l.map toS) = (addS1 l t).map toS := by
  have e : toS t ∈ l.map toS ↔ t ∈ l := ⟨fun h => by
    obtain ⟨x, hx, he⟩ := List.mem_map.mp h
    rw [← toS_inj he]; exact hx, fun h => List.mem_map.mpr ⟨t, h, rfl⟩⟩
  unfold addS1
  by_cases h : t ∈ l
  · rw [if_pos h, if_pos (e.mpr h)]
  · rw [if_neg h, if_neg fun w => h (e.mp w), List.map_cons]
theorem addS1_len {l : List (List Nat)} {t : List Nat} : l.length ≤ (addS1 l t).length := by
  unfold addS1
  split
  · exact Nat.le_refl _
  · exact Nat.le_succ _
theorem foldS_len : ∀ {ts l : List (List Nat)}, l.length ≤ (ts.foldl addS1 l).length
  | [], _ => Nat.le_refl _
  | t :: ts, l => Nat.le_trans addS1_len (foldS_len (ts := ts) (l := addS1 l t))
/-- a thing of nobody's, beside what is tracked -/
structure Sid (D : Addr) (o : HO) (L : LV) (F H : Hp) : Prop where
  here : H D = some o
  free : F D = none
  out : D ∉ ows L
section
variable {K : PySem.W.Frag} {L L' M : LV} {F F' H H' : Hp} {D : Addr} {o : HO}
theorem Sid.stp (h : Sid D o L F H) (s : Stp K L F H L' F' H') : Sid D o L' F' H' :=
  ⟨(s.keep D o h.here h.out).1, (s.keep D o h.here h.out).2 h.free, fun w => (s.own D w).elim h.out fun q => by rw [h.here] at q; cases q⟩
theorem Sid.perm (h : Sid D o L F H) (p : L.Perm M) : Sid D o M F H := ⟨h.here, h.free, fun w => h.out ((ows_perm p).mem_iff.mpr w)⟩
theorem Sid.less (h : Sid D o L F H) (p : M.Sublist L) : Sid D o M F H := ⟨h.here, h.free, fun w => h.out ((ows_sub p).subset w)⟩
end
/-- the set at D, beside what is tracked since L1 F1 H1 -/
structure InS (X : Cx) (D : Addr) (L1 : LV) (F1 H1 : Hp) (M : LV) (F H : Hp) (l : List (List Nat)) : Prop where
  s : Stp X.K L1 F1 H1 M F H
  d : Sid D (SetSO X.prog X.w D (l.map toS)) M F H
  new : H1 D = none
  good : ∀ t ∈ l, strG t = true
section
variable {X : Cx} {Dn : Addr} {L1 M N : LV} {F1 H1 F H F' H' : Hp} {l : List (List Nat)}
theorem InS.go (i : InS X Dn L1 F1 H1 M F H l) (s : Stp X.K M F H N F' H') : InS X Dn L1 F1 H1 N F' H' l := ⟨i.s.trans s, i.d.stp s, i.new, i.good⟩
theorem InS.perm (i : InS X Dn L1 F1 H1 M F H l) (p : M.Perm N) : InS X Dn L1 F1 H1 N F H l := ⟨i.s.perm p, i.d.perm p, i.new, i.good⟩
theorem InS.less (i : InS X Dn L1 F1 H1 M F H l) (p : N.Sublist M) : InS X Dn L1 F1 H1 N F H l := ⟨i.s.less p, i.d.less p, i.new, i.good⟩
theorem InS.put {t : List Nat} (i : InS X Dn L1 F1 H1 M F H l) (ht : strG t = true) : InS X Dn L1 F1 H1 M F (upd H Dn (SetSO X.prog X.w Dn ((addS1 l t).map toS))) (addS1 l t) := by
  refine ⟨i.s.put i.new i.d.free i.d.out, ⟨upd_same, i.d.free, i.d.out⟩, i.new, fun x hx => ?_⟩
  unfold addS1 at hx
  split at hx
  · exact i.good x hx
  · rcases List.mem_cons.mp hx with e | e
    · rw [e]; exact ht
    · exact i.good x e
variable {own us : List Nat} {g g2 : Val → En → Option En} {t t2 : XT} {f : XE} {it it2 : XI}
theorem inT_of {n : Nat} {T Lb : LV} {σ2 : _root_.L2.St} {env2 env9 : En} {F2 H2 : Hp} {J : It} {ds2 : List D} {Nx : Hp → Prop} {l ts : List (List Nat)} (hn : n = σ2.length)
    (z2 : Zip env2 σ2 Lb) (in2 : InS X Dn L1 F1 H1 (T ++ Lb) F2 H2 l) (w : Walk X.K J ds2 F2) (e : lcL g2 t2 f us ds2 (wipeE env2 us) = some (ts.map D.str, env9)) (hb : (ts.foldl addS1 l).length + 1 < 4096)
    (q : ∀ L9 F9 H9, Zip env9 (wipe σ2 us) L9 → InS X Dn L1 F1 H1 (T ++ L9) F9 H9 (ts.foldl addS1 l) → Nx H9) :
    inT X Dn Nx J (tG X.K (compl n us) g2) (tT X.K t2) (tE X.K f) σ2 us H2 := by
  obtain ⟨Lw, zw, hw⟩ := z2.wipe us
  refine ⟨fun j k H => j + k = ds2.length ∧ ∃ (env3 : En) (L3 : LV) (F3 : Hp) (l3 rest : List (List Nat)), Zip env3 (wipe σ2 us) L3 ∧ InS X Dn L1 F1 H1 (T ++ L3) F3 H l3 ∧ Same F2 F3 ∧ lcL g2 t2 f us (ds2.drop j) env3 = some (rest.map D.str, env9) ∧ rest.foldl addS1 l3 = ts.foldl addS1 l,
    ⟨ds2.length, Nat.zero_add _, wipeE env2 us, Lw, F2, l, ts, zw, in2.less ((List.Sublist.refl T).append hw), Same.refl _, e, rfl⟩, ?_⟩
  rintro j k H ⟨hjk, env3, L3, F3, l3, rest, z3, i3, m3, e5, ef⟩
  have hl3 : env3.length = σ2.length := by rw [z3.len, wipe_length]
  obtain ⟨w1, w2⟩ := w F3 H j m3 i3.s.rel.sub
  by_cases hlt : j < ds2.length
  · have hd : ds2[j]? = some ds2[j] := List.getElem?_eq_getElem hlt
    obtain ⟨go, yl⟩ := w1 _ hd
    rw [List.drop_eq_getElem_cons hlt] at e5
    unfold lcL at e5
    cases e6 : g2 (fz ds2[j]) env3 with
    | none => rw [e6] at e5; cases e5
    | some env4 =>
      rw [e6] at e5
      simp only [Option.bind_some] at e5
      cases e7 : t2 env4 with
      | none => rw [e7] at e5; cases e5
      | some r7 =>
        obtain ⟨b7, env5⟩ := r7
        rw [e7] at e5
        simp only [Option.bind_some] at e5
        refine .inr ⟨go, fun H' => ∃ (env3 : En) (L3 : LV) (F3 : Hp) (l3 rest : List (List Nat)), Zip env3 (wipe σ2 us) L3 ∧ InS X Dn L1 F1 H1 (T ++ L3) F3 H' l3 ∧ Same F2 F3 ∧ lcL g2 t2 f us (ds2.drop (j + 1)) env3 = some (rest.map D.str, env9) ∧ rest.foldl addS1 l3 = ts.foldl addS1 l,
          fun H' hx => ⟨k - 1, by omega, by omega, hx⟩, fun x H3 hy => ?_⟩
        obtain ⟨F4, s6⟩ := yl x H3 hy
        have s7 := (s6.frame (L := []) (T := T ++ L3) i3.s.rel).perm (List.perm_middle (a := (fz ds2[j], x)) (l₁ := T) (l₂ := L3)).symm
        have i7 := i3.go s7
        refine ⟨env3, L3, F4, fz ds2[j], env4, z3, s7.rel.right, e6, fun σ4 L4 F5 H4 z4 hn4 hr4 s8 => ?_⟩
        have s9 := s8.frameL (T := T) s7.rel
        have i9 := i7.go s9
        have hw4 : wipe σ4 us = wipe σ2 us := (wipe_eq (s := wipe σ2 us) hn4 (by rw [wipe_length, ← hn]; exact hr4)).trans wipe_wipe
        refine ⟨hw4, env4, L4, F5, b7, env5, z4, s8.rel, e7, fun L5 F6 H5 z5 s10 => ?_⟩
        have s11 := s10.frameL (T := T) s9.rel
        have i11 := i9.go s11
        have m11 : Same F2 F6 := ((m3.trans s7.mono).trans s9.mono).trans s11.mono
        have fin : ∀ (e : En) (Lx : LV), Zip e σ4 Lx → ∃ Ly, Zip (wipeE e us) (wipe σ2 us) Ly ∧ Ly.Sublist Lx := fun e Lx zx => by
          obtain ⟨Ly, zy, hy⟩ := zx.wipe us
          rw [hw4] at zy
          exact ⟨Ly, zy, hy⟩
        cases b7 with
        | false =>
          rw [if_neg (by decide)] at e5
          refine iteF ?_
          obtain ⟨Ly, zy, hy⟩ := fin env5 L5 z5
          exact ⟨wipeE env5 us, Ly, F6, l3, rest, zy, i11.less ((List.Sublist.refl T).append hy), m11, e5, ef⟩
        | true =>
          rw [if_pos rfl] at e5
          refine iteT ?_
          cases e8 : f env5 with
          | none => rw [e8] at e5; cases e5
          | some r8 =>
            obtain ⟨⟨o8, d8⟩, env6⟩ := r8
            rw [e8] at e5
            simp only [Option.bind_some] at e5
            cases e9 : lcL g2 t2 f us (ds2.drop (j + 1)) (wipeE env6 us) with
            | none => rw [e9] at e5; cases e5
            | some r9 =>
              obtain ⟨rest9, env9'⟩ := r9
              rw [e9] at e5
              injection e5 with e5; injection e5 with ea eb
              subst eb
              cases rest with
              | nil => cases ea
              | cons t8 rest =>
                rw [List.map_cons] at ea
                injection ea with ea1 ea2
                have ea1 : d8 = .str t8 := ea1
                subst ea1 ea2
                refine ⟨env5, L5, F6, ⟨o8, .str t8⟩, env6, z5, s10.rel, e8, fun y L6 F7 H6 z6 s12 => ?_⟩
                have s13 := (s12.frameL (T := T) s11.rel).perm (List.perm_middle (a := ((⟨o8, .str t8⟩ : Val), y)) (l₁ := T) (l₂ := L6))
                obtain ⟨F8, s14, ry, _⟩ := Stp.freeze s13.rel
                have s15 := (s13.trans s14).tail
                have i15 := i11.go s15
                cases ry with
                | str _ hg =>
                  have hb3 : l3.length + 1 < scanBound := by
                    have h1 : l3.length ≤ ((t8 :: rest).foldl addS1 l3).length := foldS_len
                    rw [ef] at h1
                    show l3.length + 1 < 4096
                    omega
                  refine ⟨toS t8, l3.map toS, rfl, i15.d.here, by rw [List.length_map]; exact hb3, ?_⟩
                  rw [addS1_toS]
                  obtain ⟨Ly, zy, hy⟩ := fin env6 L6 z6
                  exact ⟨wipeE env6 us, Ly, F8, addS1 l3 t8, rest, zy, (i15.put hg).less ((List.Sublist.refl T).append hy), m11.trans s15.mono, e9, ef⟩
  · have ed : ds2.drop j = [] := List.drop_eq_nil_iff.mpr (by omega)
    rw [ed] at e5
    injection e5 with e5; injection e5 with ea eb
    subst eb
    cases rest with
    | cons _ _ => cases ea
    | nil =>
      refine .inl ⟨w2 (by omega), q L3 F3 H z3 ?_⟩
      rw [← ef]
      exact i3
end
end Wk
end

section
/-! W35: sorted of a set comprehension of two clauses. -/
namespace Wk
open PySem PySem.Spec PyProof.Rows L2 PySem.Froz
/-- texts in order do not depend on how they came -/
theorem sortS_perm {m l : List (List Nat)} (h : m.Perm l) : (m.map D.str).mergeSort leB = (l.map D.str).mergeSort leB := by
  have hr : ∀ a b : List Nat, leB (.str a) (.str b) = !decide (b < a) := fun a b => by unfold leB; rw [ltB_str]
  have le : ∀ a b : List Nat, (!decide (b < a)) = true ↔ a ≤ b := fun a b => by rw [Bool.not_eq_true', decide_eq_false_iff_not, List.not_lt]
  rw [← PySem.W.sort_maps D.str (l := m) (r := fun a b => !decide (b < a)) (s := leB) fun a _ b _ => (hr a b).symm,
    ← PySem.W.sort_maps D.str (l := l) (r := fun a b => !decide (b < a)) (s := leB) fun a _ b _ => (hr a b).symm]
  have pw : ∀ z : List (List Nat), (z.mergeSort fun a b => !decide (b < a)).Pairwise fun a b => a ≤ b := fun z =>
    (List.pairwise_mergeSort (le := fun a b => !decide (b < a)) (fun a b c h1 h2 => (le a c).mpr (List.le_trans ((le a b).mp h1) ((le b c).mp h2)))
      (fun a b => by rw [Bool.or_eq_true, le, le]; exact List.le_total a b) z).imp fun {a b} h => (le a b).mp h
  refine congrArg _ (List.Perm.eq_of_pairwise (fun x y _ _ h1 h2 => List.le_antisymm h1 h2) (pw m) (pw l) ?_)
  exact ((List.mergeSort_perm m _).trans h).trans (List.mergeSort_perm l _).symm
section
variable {X : Cx} {own us : List Nat} {g g2 : Val → En → Option En} {t t2 : XT} {f : XE} {it it2 : XI}
/-- what sorted wants of the set -/
def wantS (X : Cx) (Q : VK) : VK := fun x H => ∃ a l F, [x] = [V.ref a] ∧ H a = some (SetSO X.prog X.w a l) ∧ Same F H ∧ (∀ t ∈ l, strG t.cps.toList = true) ∧
    ∀ ds, (∃ m : List Str, m.Perm l ∧ ds = m.map fun t => Wk.D.str t.cps.toList) → ∀ z F' H', Stp X.K [] F H [(ow (.lst (ds.mergeSort leB)), z)] F' H' → Q z H'
theorem sc2_of {n : Nat} {σ : L2.St} {H : Hp} {Q : VK} (hn : n = σ.length) (hu : ∀ i ∈ us, i ∈ own) (h : tE X.K (eSortSC own us it g t it2 g2 t2 f) σ H Q) :
    tSc2 X (tI X.K it) (tG X.K (compl n own) g) (tT X.K t) (tI X.K it2) (tG X.K (compl n us) g2) (tT X.K t2) (tE X.K f) own us σ H (wantS X Q) := by
  obtain ⟨env, L, F, v, env', z, rel, e, q⟩ := h
  unfold eSortSC at e
  cases e1 : it env with
  | none => rw [e1] at e; cases e
  | some r =>
    obtain ⟨ds, env1⟩ := r
    rw [e1] at e
    simp only [Option.bind_some] at e
    cases e2 : lcL2 own us g t it2 g2 t2 f ds (wipeE env1 own) with
    | none => rw [e2] at e; cases e
    | some r2 =>
      obtain ⟨out, env2⟩ := r2
      rw [e2] at e
      simp only [Option.bind_some] at e
      cases e3 : strsD out with
      | none => rw [e3] at e; cases e
      | some ts =>
        have eo := strsD_eq e3
        subst eo
        rw [e3] at e
        simp only [Option.bind_some] at e
        split at e
        · rename_i hz
          injection e with e; injection e with e4 e5
          subst e4 e5
          refine ⟨env, L, F, ds, env1, z, rel, e1, fun J L1 F1 H1 z1 s1 w D hD => ?_⟩
          obtain ⟨Lo, Lw, pm, zA, zB⟩ := z1.part fun i => decide (i ∈ own)
          have zw : Zip (wipeE env1 own) (wipe σ own) Lw := zA _ _ (wipeE_length _ _) (wipe_length _ _) (fun i hi hl => wipeE_in (of_decide_eq_true hi) hl) fun i hi => ⟨wipeE_get (of_decide_eq_false hi), wipe_get (of_decide_eq_false hi)⟩
          have fD : F1 D = none := by
            cases q : F1 D with
            | none => rfl
            | some z => rw [s1.rel.sub D z q] at hD; cases hD
          have oD : D ∉ ows L1 := fun w => by
            obtain ⟨_, o, ho⟩ := s1.rel.ow_at w
            rw [hD] at ho; cases ho
          have i0 : InS X D L1 F1 H1 (Lo ++ Lw) F1 (upd H1 D (SetSO X.prog X.w D [])) [] :=
            InS.perm ⟨(Stp.refl s1.rel).put hD fD oD, ⟨upd_same, fD, oD⟩, hD, fun t ht => nomatch ht⟩ pm
          have hle : env1.length = σ.length := z1.len
          refine ⟨fun i m H => i + m = ds.length ∧ ∃ (env3 : En) (L3 : LV) (F3 : Hp) (l3 rest : List (List Nat)), Zip env3 (wipe σ own) L3 ∧ InS X D L1 F1 H1 (Lo ++ L3) F3 H l3 ∧ lcL2 own us g t it2 g2 t2 f (ds.drop i) env3 = some (rest.map Wk.D.str, env2) ∧ rest.foldl addS1 l3 = ts.foldl addS1 [] ∧
              (∀ i, i ∈ own → i < env1.length → env3[i]? = some none), ⟨ds.length, Nat.zero_add _, wipeE env1 own, Lw, F1, [], ts, zw, i0, e2, rfl, fun i hi hl => wipeE_in hi hl⟩, ?_⟩
          rintro i m H2 ⟨him, env3, L3, F3, l3, rest, z3, i3, e5, ef, hown⟩
          have hl3 : env3.length = σ.length := by rw [z3.len, wipe_length]
          obtain ⟨w1, w2⟩ := w F3 H2 i i3.s.mono i3.s.rel.sub
          by_cases hlt : i < ds.length
          · have hd : ds[i]? = some ds[i] := List.getElem?_eq_getElem hlt
            obtain ⟨go, yl⟩ := w1 _ hd
            rw [List.drop_eq_getElem_cons hlt] at e5
            unfold lcL2 at e5
            cases e6 : g (fz ds[i]) env3 with
            | none => rw [e6] at e5; cases e5
            | some env4 =>
              rw [e6] at e5
              simp only [Option.bind_some] at e5
              cases e7 : t env4 with
              | none => rw [e7] at e5; cases e5
              | some r7 =>
                obtain ⟨b7, env5⟩ := r7
                rw [e7] at e5
                simp only [Option.bind_some] at e5
                refine .inr ⟨go, fun H' => ∃ (env3 : En) (L3 : LV) (F3 : Hp) (l3 rest : List (List Nat)), Zip env3 (wipe σ own) L3 ∧ InS X D L1 F1 H1 (Lo ++ L3) F3 H' l3 ∧ lcL2 own us g t it2 g2 t2 f (ds.drop (i + 1)) env3 = some (rest.map Wk.D.str, env2) ∧ rest.foldl addS1 l3 = ts.foldl addS1 [] ∧
                  (∀ i, i ∈ own → i < env1.length → env3[i]? = some none), fun H' hx => ⟨m - 1, by omega, by omega, hx⟩, fun x H3 hy => ?_⟩
                obtain ⟨F4, s6⟩ := yl x H3 hy
                have s7 := (s6.frame (L := []) (T := Lo ++ L3) i3.s.rel).perm (List.perm_middle (a := (fz ds[i], x)) (l₁ := Lo) (l₂ := L3)).symm
                have i7 := i3.go s7
                refine ⟨env3, L3, F4, fz ds[i], env4, z3, s7.rel.right, e6, fun σ4 L4 F5 H4 z4 hn4 hr4 s8 => ?_⟩
                have s9 := s8.frameL (T := Lo) s7.rel
                have i9 := i7.go s9
                have hw4 : wipe σ4 own = wipe σ own := (wipe_eq (s := wipe σ own) hn4 (by rw [wipe_length, ← hn]; exact hr4)).trans wipe_wipe
                have hl4 : n = σ4.length := by rw [hn4, wipe_length, hn]
                refine ⟨hw4, env4, L4, F5, b7, env5, z4, s8.rel, e7, fun L5 F6 H5 z5 s10 => ?_⟩
                have s11 := s10.frameL (T := Lo) s9.rel
                have i11 := i9.go s11
                cases b7 with
                | false =>
                  rw [if_neg (by decide)] at e5
                  refine iteF ?_
                  obtain ⟨Ly, zy, hy⟩ := z5.wipe own
                  rw [hw4] at zy
                  exact ⟨wipeE env5 own, Ly, F6, l3, rest, zy, i11.less ((List.Sublist.refl Lo).append hy), e5, ef, fun i hi hl => wipeE_in hi (by rw [z5.len, ← hl4, hn, ← hle]; exact hl)⟩
                | true =>
                  rw [if_pos rfl] at e5
                  refine iteT ?_
                  cases e8 : it2 env5 with
                  | none => rw [e8] at e5; cases e5
                  | some r8 =>
                    obtain ⟨ds2, env6⟩ := r8
                    rw [e8] at e5
                    simp only [Option.bind_some] at e5
                    cases e9 : lcL g2 t2 f us ds2 (wipeE env6 us) with
                    | none => rw [e9] at e5; cases e5
                    | some r9 =>
                      obtain ⟨out2, env7⟩ := r9
                      rw [e9] at e5
                      simp only [Option.bind_some] at e5
                      cases e10 : lcL2 own us g t it2 g2 t2 f (ds.drop (i + 1)) (wipeE env7 own) with
                      | none => rw [e10] at e5; cases e5
                      | some r10 =>
                        obtain ⟨out3, env8⟩ := r10
                        rw [e10] at e5
                        injection e5 with e5; injection e5 with ea eb
                        subst eb
                        obtain ⟨ts2, ts3, rfl, rfl, rfl⟩ := List.append_eq_map_iff.mp ea
                        refine ⟨env5, L5, F6, ds2, env6, z5, s10.rel, e8, fun J1 L6 F7 H6 z6 s12 w6 => ?_⟩
                        have s13 := s12.frameL (T := Lo) s11.rel
                        have i13 := i11.go s13
                        rw [List.foldl_append] at ef
                        refine inT_of hl4 z6 i13 w6 e9 ?_ fun L9 F9 H9 z9 i14 => ?_
                        · have h1 : (ts2.foldl addS1 l3).length ≤ (ts3.foldl addS1 (ts2.foldl addS1 l3)).length := foldS_len
                          rw [ef] at h1
                          omega
                        · obtain ⟨Ly, zy, hy⟩ := z9.wipe own
                          rw [wipe_sub hu, hw4] at zy
                          exact ⟨wipeE env7 own, Ly, F9, ts2.foldl addS1 l3, ts3, zy, i14.less ((List.Sublist.refl Lo).append hy), e10, ef, fun i hi hl => wipeE_in hi (by rw [z9.len, wipe_length, ← hl4, hn, ← hle]; exact hl)⟩
          · have ed : ds.drop i = [] := List.drop_eq_nil_iff.mpr (by omega)
            rw [ed] at e5
            injection e5 with e5; injection e5 with ea eb
            subst eb
            cases rest with
            | cons _ _ => cases ea
            | nil =>
              refine .inl ⟨w2 (by omega), ?_⟩
              obtain ⟨L', z', p'⟩ := zB env3 (backE env1 env3 own) (wipe σ own) L3 z3 (by omega) (wipe_length _ _) (fun i hi hl => hown i (of_decide_eq_true hi) hl) (fun i hi => wipe_get (of_decide_eq_false hi))
                (by rw [backE_length]; omega) (fun i hi => backE_in (by omega) (of_decide_eq_true hi)) fun i hi => backE_get (of_decide_eq_false hi)
              have ef : l3 = ts.foldl addS1 [] := ef
              have back : ∀ x : List Nat, (toS x).cps.toList = x := fun x => by simp [toS]
              refine ⟨D, l3.map toS, F3, rfl, i3.d.here, i3.s.rel.sub, fun t ht => ?_, ?_⟩
              · obtain ⟨x, hx, rfl⟩ := List.mem_map.mp ht
                rw [back]
                exact i3.good x hx
              · rintro ds' ⟨ms, hp, rfl⟩ z F' H' st
                have hp2 : (ms.map fun t : Str => t.cps.toList).Perm l3 := by
                  have := hp.map fun t : Str => t.cps.toList
                  rw [List.map_map] at this
                  have e : l3.map ((fun t : Str => t.cps.toList) ∘ toS) = l3 := by
                    rw [show ((fun t : Str => t.cps.toList) ∘ toS) = id from funext back, List.map_id]
                  rw [e] at this
                  exact this
                have es := sortS_perm hp2
                rw [List.map_map] at es
                have es : (ms.map fun t : Str => Wk.D.str t.cps.toList).mergeSort leB = (l3.map Wk.D.str).mergeSort leB := es
                rw [es, ef] at st
                have s20 := (s1.trans i3.s).perm p'.symm
                exact q z L' F' H' z' (s20.trans (st.frame (T := L') s20.rel))
        · cases e
end
section
variable {X : Cx} {e a i b j : Expr} {fs gs : List Expr} {sc : Scope} {own : List (Str × Nat)} {us : List Nat} {p pos ppos : Pos} {it it2 : XI} {g g2 : Val → En → Option En} {t t2 : XT} {f : XE}
theorem ie_sortSC (hc : X.calm = true) (hu : X.A.units + 128 < cLine) (hN : X.N.Nodup) (hgl : Gl X "sorted") (hm : X.mg "sorted" = none) (hi : II X a i it) (ok : BlkOk X.N X.env.scope sc own) (hv : ∀ n ∈ us, n ∈ own.map (·.2))
    (kg : ∀ (s : Shared) (H : Hp) (C : Addr) (cl : List (Str × Addr)) (fp : List Addr), IG (X.blk s H sc (compEnvC sc cl C X.env) fp) (compl X.N.length (own.map (·.2))) a g)
    (kt : ∀ (s : Shared) (H : Hp) (C : Addr) (cl : List (Str × Addr)) (fp : List Addr), ITs (X.blk s H sc (compEnvC sc cl C X.env) fp) fs t)
    (ki : ∀ (s : Shared) (H : Hp) (C : Addr) (cl : List (Str × Addr)) (fp : List Addr), II (X.blk s H sc (compEnvC sc cl C X.env) fp) b j it2)
    (kg1 : ∀ (s : Shared) (H : Hp) (C : Addr) (cl : List (Str × Addr)) (fp : List Addr), IG (X.blk s H sc (compEnvC sc cl C X.env) fp) (compl X.N.length us) b g2)
    (kt1 : ∀ (s : Shared) (H : Hp) (C : Addr) (cl : List (Str × Addr)) (fp : List Addr), ITs (X.blk s H sc (compEnvC sc cl C X.env) fp) gs t2)
    (ke : ∀ (s : Shared) (H : Hp) (C : Addr) (cl : List (Str × Addr)) (fp : List Addr), IE (X.blk s H sc (compEnvC sc cl C X.env) fp) e f)
    (hs : ∀ x, foldedSetIterable i X.env x = pure x := by intro _; rfl) (hs1 : ∀ env x, foldedSetIterable j env x = pure x := by intro _ _; rfl) :
    IE X (.Call (.Name "sorted" ppos) [scE e a i b j fs gs sc p] [] pos) (eSortSC (own.map (·.2)) us it g t it2 g2 t2 f) :=
  ⟨fun pins s σ H Q I q => (pe_callB (cs_sortS hc hu) hgl hm bt_sorted (pa_cons (pe_sc2 (wi := tI X.K it) (tg := tG X.K (compl X.N.length (own.map fun p : Str × Nat => p.2)) g) (tt := tT X.K t) (wi1 := tI X.K it2) (tg1 := tG X.K (compl X.N.length us) g2) (tt1 := tT X.K t2) (te := tE X.K f) hc hN hi ok hv kg kt ke ki kg1 kt1 hs hs1) pa_nil)).run pins s σ H Q I (sc2_of I.len.symm hv q)⟩
end
end Wk
end

section
/-! W36: max and min of a list or a tuple of data. -/
namespace Wk
open PySem PySem.Spec PyProof.Rows L2
mutual
theorem py_inj : ∀ {a b : D}, dataD a = true → dataD b = true → py a = py b → a = b
  | .non, b, _, hb, e => by cases b <;> simp [py, dataD] at e hb ⊢
  | .bl x, b, _, hb, e => by cases b <;> simp [py, dataD] at e hb ⊢; exact e
  | .int x, b, _, hb, e => by cases b <;> simp [py, dataD] at e hb ⊢; exact e
  | .str x, b, _, hb, e => by cases b <;> simp [py, dataD] at e hb ⊢; exact e
  | .tup xs, b, ha, hb, e => by
    cases b with
    | tup ys => simp [py, dataD] at e ha hb; rw [pyL_inj ha hb e]
    | _ => simp [py] at e
  | .lst xs, b, ha, hb, e => by
    cases b with
    | lst ys => simp [py, dataD] at e ha hb; rw [pyL_inj ha hb e]
    | _ => simp [py] at e
  | .scr _, _, ha, _, _ => by simp [dataD] at ha
  | .dct _ _, _, ha, _, _ => by simp [dataD] at ha
  | .obj _ _ _, _, ha, _, _ => by simp [dataD] at ha
theorem pyL_inj : ∀ {a b : List D}, dataL a = true → dataL b = true → pyL a = pyL b → a = b
  | [], [], _, _, _ => rfl
  | [], _ :: _, _, _, e => by simp [pyL] at e
  | _ :: _, [], _, _, e => by simp [pyL] at e
  | x :: xs, y :: ys, ha, hb, e => by
    simp [pyL, dataL] at e ha hb
    rw [py_inj ha.1 hb.1 e.1, pyL_inj ha.2 hb.2 e.2]
end
def mostIt : D → Option (List D)
  | .lst xs => some xs
  | .tup xs => some xs
  | _ => none
def maxL (x : D) (xs : List D) : D := xs.foldl (fun a y => if ltB a y = true then y else a) x
def minL (x : D) (xs : List D) : D := xs.foldl (fun a y => if ltB y a = true then y else a) x
def mostD (f : D → List D → D) (d : D) : Option Val := (mostIt d).bind fun l => match l with
  | [] => none
  | x :: xs => if sortOk (x :: xs) = true then some (fz (f x xs)) else none
def maxD1 : D → Option Val := mostD maxL
def minD1 : D → Option Val := mostD minL
theorem py_maxL : ∀ (xs : List D) (x : D), py (maxL x xs) = PySem.W.maxD (py x) (pyL xs) ∧ maxL x xs ∈ x :: xs
  | [], x => ⟨rfl, List.mem_cons_self⟩
  | y :: ys, x => by
    have h := py_maxL ys (if ltB x y = true then y else x)
    refine ⟨h.1.trans ?_, ?_⟩
    · unfold PySem.W.maxD
      rw [pyL, List.foldl_cons]
      congr 1
      unfold ltB
      split <;> rfl
    · have e : maxL x (y :: ys) = maxL (if ltB x y = true then y else x) ys := rfl
      rw [e]
      rcases List.mem_cons.mp h.2 with q | q
      · rw [q]; split
        · exact List.mem_cons_of_mem _ List.mem_cons_self
        · exact List.mem_cons_self
      · exact List.mem_cons_of_mem _ (List.mem_cons_of_mem _ q)
theorem py_minL : ∀ (xs : List D) (x : D), py (minL x xs) = PySem.W.minD (py x) (pyL xs) ∧ minL x xs ∈ x :: xs
  | [], x => ⟨rfl, List.mem_cons_self⟩
  | y :: ys, x => by
    have h := py_minL ys (if ltB y x = true then y else x)
    refine ⟨h.1.trans ?_, ?_⟩
    · unfold PySem.W.minD
      rw [pyL, List.foldl_cons]
      congr 1
      unfold ltB
      split <;> rfl
    · have e : minL x (y :: ys) = minL (if ltB y x = true then y else x) ys := rfl
      rw [e]
      rcases List.mem_cons.mp h.2 with q | q
      · rw [q]; split
        · exact List.mem_cons_of_mem _ List.mem_cons_self
        · exact List.mem_cons_self
      · exact List.mem_cons_of_mem _ (List.mem_cons_of_mem _ q)
theorem alikeAll_of {xs : List D} (h : sortOk xs = true) : PySem.W.AlikeAll (pyL xs) ∧ PyData.depthAll (pyL xs) ≤ 64 ∧ dataL xs = true := by
  obtain ⟨a1, a2, a3, a4, a5⟩ := sortOk_use (bs := xs) (k := id) (by rw [List.map_id]; exact h)
  rw [List.map_id] at a5
  have e : pyL xs = xs.map fun b => py (id b) := pyL_map xs
  refine ⟨⟨fun x hx y hy => a1 x (e ▸ hx) y (e ▸ hy), fun x hx w => ?_⟩, ?_, a5⟩
  · rcases a2 with q | q
    · obtain ⟨_, _, z⟩ := q x (e ▸ hx)
      rw [w] at z; cases z
    · exact (q x (e ▸ hx)).1 w
  · have h7 := pyL_depth xs
    unfold sortOk at h
    simp only [Bool.and_eq_true, decide_eq_true_eq] at h
    exact Nat.le_trans h7 h.1.2
section
variable {X : Cx}
theorem readsAll_get {h : Heap} : ∀ {us : List Value} {ds : List PyData} {as : List Addr} {i : Nat} {u : Value}, ReadsAll h us ds as → us[i]? = some u → ∃ d bs, ds[i]? = some d ∧ Reads h u d bs
  | _, _, _, _, _, .nil, e => by simp at e
  | _, _, _, 0, _, .cons r _, e => by simp at e; subst e; exact ⟨_, _, rfl, r⟩
  | _, _, _, i + 1, u, .cons _ t, e => readsAll_get (i := i) (u := u) t (by simpa using e)
/-- what the item that is told is worth -/
theorem most_at {pins : List (Addr × Obj)} {σ : L2.St} {H F : Hp} {s : Shared} {vs : List V} {ds : List D} {us : List Value} {Q : VK} {m : D} {i : Nat} {v : Value} {h' : Heap} {tk : Nat} {bs : List Addr} (I : Inv X pins σ H s) (sF : Same F H)
    (rp : Reps X.K F vs ds) (rv : Vals vs us) (hd : dataL ds = true) (hm : m ∈ ds) (hv : us[i]? = some v) (hr : Reads h' v (py m) bs) (hk : ∀ b o, s.heap.get? b = some o → h'.get? b = some o)
    (q : ∀ z F' H', Stp X.K [] F H [(fz m, z)] F' H' → Q z H') : EP X pins σ Q v { s with heap := h', toks := tk } := by
  have hi : i < vs.length := by
    have := (List.getElem?_eq_some_iff.mp hv).1
    rw [rv.length]; exact this
  obtain ⟨u, hu, r1⟩ := rv.get (List.getElem?_eq_getElem hi)
  rw [hv] at hu
  injection hu with hu
  subst hu
  obtain ⟨d, hdi, r2⟩ := rp.get' (List.getElem?_eq_getElem hi)
  have hdd : dataD d = true := dataL_mem hd d (List.mem_of_getElem? hdi)
  obtain ⟨c1, c2⟩ := Rep.dp sF r2 hdd
  obtain ⟨as, rr⟩ := c1.reads I _ _ _ r1
  have e := SeqAt.Reads.unique _ _ _ _ _ c2 (PySem.W.reads_keeps hk rr) hr
  have e2 := py_inj hdd (dataL_mem hd m hm) e
  subst e2
  exact ⟨_, H, I.kept hk, r1, old_fz sF q r2⟩
theorem cg_most {id : String} {f : D → List D → D} {b : PyData → List PyData → PyData} (hf : ∀ xs x, py (f x xs) = b (py x) (pyL xs) ∧ f x xs ∈ x :: xs) (hc : X.calm = true) (hu : X.A.units + 128 < cLine)
    (hl : ∀ {s : Shared} {l : Addr} {vs : Array Value} {x : PyData} {xs : List PyData} {as : List Addr} {Q : Value → Shared → Prop} {E : Value → Shared → Prop}, X.A.handled = none → s.heap.IsList l vs → ReadsAll s.heap vs.toList (x :: xs) as → PySem.W.AlikeAll (x :: xs) → X.A.units + 1 + PyData.depthAll (x :: xs) < cLine →
      (∀ (i : Nat) v h' tk bs, vs[i]? = some v → Reads h' v (b x xs) bs → (∀ b o, s.heap.get? b = some o → h'.get? b = some o) → Q v { s with heap := h', toks := tk }) → wpAny (model X.prog X.w) X.A (call (.builtin id) [.ref l]) Q E s)
    (ht : ∀ {s : Shared} {l : Addr} {vs : Array Value} {x : PyData} {xs : List PyData} {as : List Addr} {Q : Value → Shared → Prop} {E : Value → Shared → Prop}, X.A.handled = none → s.heap.IsTuple l vs → ReadsAll s.heap vs.toList (x :: xs) as → PySem.W.AlikeAll (x :: xs) → X.A.units + 1 + PyData.depthAll (x :: xs) < cLine →
      (∀ (i : Nat) v h' tk bs, vs[i]? = some v → Reads h' v (b x xs) bs → (∀ b o, s.heap.get? b = some o → h'.get? b = some o) → Q v { s with heap := h', toks := tk }) → wpAny (model X.prog X.w) X.A (call (.builtin id) [.ref l]) Q E s) : CallG X (.builtin id) (g1 (mostD f)) := by
  rintro pins s σ H xs us Q I r ⟨F, vs, w, sF, hvs, e0, q⟩
  obtain ⟨⟨ao, ad⟩, rfl, e⟩ := g1_inv e0
  clear e0
  obtain ⟨x, rfl, hx⟩ := hvs.one
  change mostD f ad = some w at e
  unfold mostD at e
  cases hit : mostIt ad with
  | none => rw [hit] at e; cases e
  | some l =>
    rw [hit] at e
    simp only [Option.bind_some] at e
    cases l with
    | nil => cases e
    | cons d0 ds =>
      simp only at e
      split at e
      · rename_i hok
        injection e with e; subst e
        obtain ⟨h1, h2, h3⟩ := alikeAll_of hok
        have hroom : X.A.units + 1 + PyData.depthAll (pyL (d0 :: ds)) < cLine := by omega
        obtain ⟨f1, f2⟩ := hf ds d0
        cases ad with
        | lst xs =>
          injection hit with hit; subst hit
          obtain ⟨a, ws, rfl, hH, rp⟩ := hx.lst sF
          obtain ⟨its, rv, hpl, _⟩ := I.list (X := X) (.of hH)
          rw [Vals.ref1 r]
          obtain ⟨dp, _⟩ := Reps.dp sF rp h3
          obtain ⟨as, ra⟩ := Dp.readsAll I _ _ its dp rv
          refine hl (x := py d0) (xs := pyL ds) (I.ok.hd hc) hpl.isList ra h1 hroom fun i v h' tk bs hv hr hk => ?_
          rw [← f1] at hr
          exact most_at I sF rp rv h3 f2 (by simpa using hv) hr hk q
        | tup xs =>
          injection hit with hit; subst hit
          obtain ⟨a, ws, rfl, hF, hH, rp⟩ := hx.tup sF
          obtain ⟨its, rv, hpl, _⟩ := I.tuple (X := X) hH
          rw [Vals.ref1 r]
          obtain ⟨dp, _⟩ := Reps.dp sF rp h3
          obtain ⟨as, ra⟩ := Dp.readsAll I _ _ its dp rv
          refine ht (x := py d0) (xs := pyL ds) (I.ok.hd hc) hpl ra h1 hroom fun i v h' tk bs hv hr hk => ?_
          rw [← f1] at hr
          exact most_at I sF rp rv h3 f2 (by simpa using hv) hr hk q
        | _ => cases hit
      · cases e
theorem cg_max1 (hc : X.calm = true) (hu : X.A.units + 128 < cLine) : CallG X (.builtin "max") (g1 maxD1) := cg_most py_maxL hc hu PySem.W.max_list_data PySem.W.max_tuple_data
theorem cg_min1 (hc : X.calm = true) (hu : X.A.units + 128 < cLine) : CallG X (.builtin "min") (g1 minD1) := cg_most py_minL hc hu PySem.W.min_list_data PySem.W.min_tuple_data
end
@[simp] theorem maxD1_lst {x : D} {xs : List D} : maxD1 (.lst (x :: xs)) = if sortOk (x :: xs) = true then some (fz (maxL x xs)) else none := id rfl
@[simp] theorem maxD1_tup {x : D} {xs : List D} : maxD1 (.tup (x :: xs)) = if sortOk (x :: xs) = true then some (fz (maxL x xs)) else none := id rfl
@[simp] theorem minD1_lst {x : D} {xs : List D} : minD1 (.lst (x :: xs)) = if sortOk (x :: xs) = true then some (fz (minL x xs)) else none := id rfl
@[simp] theorem minD1_tup {x : D} {xs : List D} : minD1 (.tup (x :: xs)) = if sortOk (x :: xs) = true then some (fz (minL x xs)) else none := id rfl
end Wk
end

section
/-! the worths of defs, as printed for k67 -/
namespace Wk
open PySem PySem.Spec PyProof.Rows L2
/-- def rank_of(pair): : 0 pair -/
noncomputable def d_rank_of : XS := bCons (sRet (eTup [.e (eApp (g1 negD) [.e (eApp (g2 ixD) [.s 0, .e (eC (.int 1))])]), .e (eApp (g2 ixD) [.s 0, .e (eC (.int 0))])])) (bNil)
noncomputable def s_rank_of : FS := hide (fnSem 1 1 [] d_rank_of)
theorem s_rank_of_eq : s_rank_of = fnSem 1 1 [] d_rank_of := hide_eq _
/-- def best_of(pairs, k): : 0 pairs, 1 k, 2 word, 3 _ -/
noncomputable def d_best_of : XS := bCons (sRet (eApp (g1 tupD) [.e (eLc [2, 3] (xSeq (eApp gSlH [.e (eApp (g1 (sortKD s_rank_of)) [.s 0]), .s 1])) (gT [gN 2, gN 3]) (Wk.tYes) (eV 2))])) (bNil)
noncomputable def s_best_of : FS := hide (fnSem 4 2 [] d_best_of)
theorem s_best_of_eq : s_best_of = fnSem 4 2 [] d_best_of := hide_eq _
/-- def beginning_with(store, text): : 0 store, 1 text, 2 pair -/
noncomputable def d_beginning_with : XS := bCons (sRet (eLc [2] (xSeq (eV 0)) (gN 2) (tOf (eMeth isStrB (g2 startsD) (.e (eApp (g2 ixD) [.s 2, .e (eC (.int 0))])) [.s 1])) (eV 2))) (bNil)
noncomputable def s_beginning_with : FS := hide (fnSem 3 2 [] d_beginning_with)
theorem s_beginning_with_eq : s_beginning_with = fnSem 3 2 [] d_beginning_with := hide_eq _
/-- def row(store, text, k): : 0 store, 1 text, 2 k -/
noncomputable def d_row : XS := bCons (sRet (eCall s_best_of [] [.e (eCall s_beginning_with [] [.s 0, .s 1]), .s 2])) (bNil)
noncomputable def s_row : FS := hide (fnSem 3 3 [] d_row)
theorem s_row_eq : s_row = fnSem 3 3 [] d_row := hide_eq _
/-- def store_without(store, words): : 0 store, 1 words, 2 word, 3 hidden, 4 pair -/
noncomputable def d_store_without : XS := bCons (sSet (gN 3) (eDc [2] (xSeq (eV 1)) (gN 2) (Wk.tYes) (eV 2) (eC (.bl true)))) (bCons (sRet (eApp (g1 tupD) [.e (eLc [4] (xSeq (eV 0)) (gN 4) (tOf (eApp (g2 notInD) [.e (eApp (g2 ixD) [.s 4, .e (eC (.int 0))]), .s 3])) (eV 4))])) (bNil))
noncomputable def s_store_without : FS := hide (fnSem 5 2 [] d_store_without)
theorem s_store_without_eq : s_store_without = fnSem 5 2 [] d_store_without := hide_eq _
/-- def sifted(words, rule): : 0 words, 1 rule, 2 word -/
noncomputable def d_sifted : XS := bCons (sRet (eApp (g1 tupD) [.e (eLc [2] (xSeq (eV 0)) (gN 2) (tOf (eApp (g2 notInD) [.s 2, .s 1])) (eV 2))])) (bNil)
noncomputable def s_sifted : FS := hide (fnSem 3 2 [] d_sifted)
theorem s_sifted_eq : s_sifted = fnSem 3 2 [] d_sifted := hide_eq _
/-- def clean_row(store, rule, text, k): : 0 store, 1 rule, 2 text, 3 k -/
noncomputable def d_clean_row : XS := bCons (sRet (eCall s_row [] [.e (eCall s_store_without [] [.s 0, .s 1]), .s 2, .s 3])) (bNil)
noncomputable def s_clean_row : FS := hide (fnSem 4 4 [] d_clean_row)
theorem s_clean_row_eq : s_clean_row = fnSem 4 4 [] d_clean_row := hide_eq _
/-- def sifted_row(store, rule, text, k): : 0 store, 1 rule, 2 text, 3 k -/
noncomputable def d_sifted_row : XS := bCons (sRet (eCall s_sifted [] [.e (eCall s_row [] [.s 0, .s 2, .s 3]), .s 1])) (bNil)
noncomputable def s_sifted_row : FS := hide (fnSem 4 4 [] d_sifted_row)
theorem s_sifted_row_eq : s_sifted_row = fnSem 4 4 [] d_sifted_row := hide_eq _
/-- def _law_draws(script, many): : 0 script, 1 many, 2 cell, 3 cells, 4 left, 5 draws, 6 k, 7 place, 8 mixed -/
noncomputable def d__law_draws : XS := bCons (sSet (gN 3) (eLc [2] (xSeq (eApp gSlH [.s 0, .e (eC (.int 63))])) (gN 2) (Wk.tYes) (eApp (g2 modD) [.e (eApp (g1 intD) [.s 2]), .e (eApp (g2 shlD) [.e (eC (.int 1)), .e (eC (.int 7200))])]))) (bCons (sIf (tOf (eApp gEq [.e (eApp (g1 lenD) [.s 3]), .e (eC (.int 0))])) (bCons (sDrop (eMut 3 isLstB muApp [.e (eC (.int 0))])) (bNil)) (bNil)) (bCons (sSet (gN 4) (eApp (g1 listD) [.s 3])) (bCons (sSet (gN 5) (eLst [])) (bCons (sFor (xArgs kRange1 [.s 1]) (gN 6) (bCons (sSet (gN 7) (eApp (g2 modD) [.e (eApp (g1 intD) [.s 6]), .e (eApp (g1 lenD) [.s 3])])) (bCons (sIf (Wk.tAnd (tOf (eApp (g2 geD) [.e (eApp (g2 ixD) [.s 3, .s 7]), .e (eApp (g2 powD) [.e (eC (.int 10)), .e (eC (.int 18))])])) (tOf (eApp (g2 gtD) [.e (eApp (g2 ixD) [.s 4, .s 7]), .e (eC (.int 0))]))) (bCons (sDrop (eMut 5 isLstB muApp [.e (eFz (eApp (g2 modD) [.e (eApp (g1 intD) [.e (eApp (g2 ixD) [.s 4, .s 7])]), .e (eC (.int 1000))]))])) (bCons (sSet (gS 4 (eV 7)) (eFz (eApp (g2 fdivD) [.e (eApp (g2 ixD) [.s 4, .s 7]), .e (eC (.int 1000))]))) (bNil))) (bCons (sSet (gN 8) (eApp (g2 modD) [.e (eApp (g1 intD) [.e (eApp (g2 addD) [.e (eApp (g2 addD) [.e (eApp (g2 mulD) [.e (eApp (g2 ixD) [.s 3, .s 7]), .e (eC (.int 48271))]), .e (eApp (g2 mulD) [.s 6, .e (eC (.int 69621))])]), .e (eC (.int 11))])]), .e (eC (.int 2147483647))])) (bCons (sDrop (eMut 5 isLstB muApp [.e (eFz (eApp (g2 modD) [.e (eApp (g1 intD) [.e (eApp (g2 addD) [.e (eApp (g2 addD) [.e (eApp (g2 mulD) [.s 8, .s 8]), .e (eApp (g2 mulD) [.e (eC (.int 3)), .s 8])]), .s 6])]), .e (eC (.int 1000003))]))])) (bNil)))) (bNil)))) (bCons (sDrop (eMut 5 isLstB muRev [])) (bCons (sRet (eM 5)) (bNil)))))))
noncomputable def s__law_draws : FS := hide (fnSem 9 2 [] d__law_draws)
theorem s__law_draws_eq : s__law_draws = fnSem 9 2 [] d__law_draws := hide_eq _
/-- def _law_take(draws, many): : 0 draws, 1 many -/
noncomputable def d__law_take : XS := bCons (sIf (tOf (eApp gEq [.e (eApp (g1 lenD) [.s 0]), .e (eC (.int 0))])) (bCons (sRet (eC (.int 0))) (bNil)) (bNil)) (bCons (sRet (eApp (g2 modD) [.e (eApp (g1 intD) [.e (eMut 0 isLstB muPop [])]), .s 1])) (bNil))
noncomputable def s__law_take : FS := hide (fnSem 2 2 [0] d__law_take)
theorem s__law_take_eq : s__law_take = fnSem 2 2 [0] d__law_take := hide_eq _
/-- def _law_pick(draws, line): : 0 draws, 1 line -/
noncomputable def d__law_pick : XS := bCons (sRet (eApp (g2 ixD) [.s 1, .e (eCall s__law_take [0] [.s 0, .e (eApp (g1 lenD) [.s 1])])])) (bNil)
noncomputable def s__law_pick : FS := hide (fnSem 2 2 [0] d__law_pick)
theorem s__law_pick_eq : s__law_pick = fnSem 2 2 [0] d__law_pick := hide_eq _
/-- def _law_same(actual, due): : 0 actual, 1 due, 2 k -/
noncomputable def d__law_same (rec : FS) : XS := bCons (sIf (tOf (eApp (g1 (isiD ["tuple", "list"])) [.s 1])) (bCons (sIf (Wk.tOr (tOf (eApp gNe [.e (eApp (g1 (isiD ["tuple"])) [.s 0]), .e (eApp (g1 (isiD ["tuple"])) [.s 1])])) (tOf (eApp gNe [.e (eApp (g1 (isiD ["list"])) [.s 0]), .e (eApp (g1 (isiD ["list"])) [.s 1])]))) (bCons (sRet (eC (.bl false))) (bNil)) (bNil)) (bCons (sIf (tOf (eApp gNe [.e (eApp (g1 lenD) [.s 0]), .e (eApp (g1 lenD) [.s 1])])) (bCons (sRet (eC (.bl false))) (bNil)) (bNil)) (bCons (sRet (eApp (g2 notInD) [.e (eC (.bl false)), .e (eLc [2] (xArgs kRange1 [.e (eApp (g1 lenD) [.s 1])]) (gN 2) (Wk.tYes) (eCall (rec) [] [.e (eApp (g2 ixD) [.s 0, .s 2]), .e (eApp (g2 ixD) [.s 1, .s 2])]))])) (bNil)))) (bNil)) (bCons (sIf (Wk.tOr (tOf (eApp gNe [.e (eApp (g1 (isiD ["bool"])) [.s 0]), .e (eApp (g1 (isiD ["bool"])) [.s 1])])) (tOf (eApp gNe [.e (eApp (g1 (isiD ["int"])) [.s 0]), .e (eApp (g1 (isiD ["int"])) [.s 1])]))) (bCons (sRet (eC (.bl false))) (bNil)) (bNil)) (bCons (sIf (Wk.tOr (tOf (eApp gNe [.e (eApp (g1 (isiD ["str"])) [.s 0]), .e (eApp (g1 (isiD ["str"])) [.s 1])])) (tOf (eApp gNe [.e (eApp (g2 isND) [.s 0, .e (eC .non)]), .e (eApp (g2 isND) [.s 1, .e (eC .non)])]))) (bCons (sRet (eC (.bl false))) (bNil)) (bNil)) (bCons (sRet (eApp gEq [.s 0, .s 1])) (bNil))))
noncomputable def s__law_same : Nat → FS
  | 0 => fun _ => none
  | n + 1 => hide (fnSem 3 2 [] (d__law_same (s__law_same n)))
theorem s__law_same_eq (n : Nat) : s__law_same (n + 1) = fnSem 3 2 [] (d__law_same (s__law_same n)) := hide_eq _
/-- def _law_letters(draws): : 0 draws, 1 every, 2 found, 3 k, 4 letter -/
noncomputable def d__law_letters : XS := bCons (sSet (gN 1) (eApp (g1 listD) [.e (eC (.str [97, 98, 99, 100, 101, 102, 103, 104, 105, 106, 107, 108, 109, 110, 111, 112, 113, 114, 115, 116, 117, 118, 119, 120, 121, 122]))])) (bCons (sIf (tOf (eApp gEq [.e (eCall s__law_take [0] [.s 0, .e (eC (.int 6))]), .e (eC (.int 0))])) (bCons (sRet (eM 1)) (bNil)) (bNil)) (bCons (sSet (gN 2) (eLst [])) (bCons (sFor (xArgs kRange1 [.e (eApp (g2 addD) [.e (eC (.int 2)), .e (eCall s__law_take [0] [.s 0, .e (eC (.int 3))])])]) (gN 3) (bCons (sSet (gN 4) (eCall s__law_pick [0] [.s 0, .s 1])) (bCons (sIf (tOf (eApp (g2 notInD) [.s 4, .s 2])) (bCons (sDrop (eMut 2 isLstB muApp [.e (eV 4)])) (bNil)) (bNil)) (bNil)))) (bCons (sRet (eM 2)) (bNil)))))
noncomputable def s__law_letters : FS := hide (fnSem 5 1 [0] d__law_letters)
theorem s__law_letters_eq : s__law_letters = fnSem 5 1 [0] d__law_letters := hide_eq _
/-- def _law_text_of(draws, letters, most): : 0 draws, 1 letters, 2 most, 3 k -/
noncomputable def d__law_text_of : XS := bCons (sRet (eMeth isStrB (g2 joinD) (.e (eC (.str []))) [.e (eLc [3] (xArgs kRange1 [.e (eCall s__law_take [0] [.s 0, .e (eApp (g2 addD) [.s 2, .e (eC (.int 1))])])]) (gN 3) (Wk.tYes) (eCall s__law_pick [0] [.s 0, .s 1]))])) (bNil)
noncomputable def s__law_text_of : FS := hide (fnSem 4 3 [0] d__law_text_of)
theorem s__law_text_of_eq : s__law_text_of = fnSem 4 3 [0] d__law_text_of := hide_eq _
/-- def _law_word(draws, letters): : 0 draws, 1 letters, 2 size, 3 k -/
noncomputable def d__law_word : XS := bCons (sSet (gN 2) (eApp (g2 addD) [.e (eC (.int 1)), .e (eCall s__law_take [0] [.s 0, .e (eC (.int 4))])])) (bCons (sIf (tOf (eApp gEq [.e (eCall s__law_take [0] [.s 0, .e (eC (.int 10))]), .e (eC (.int 0))])) (bCons (sSet (gN 2) (eApp (g2 addD) [.e (eC (.int 8)), .e (eCall s__law_take [0] [.s 0, .e (eC (.int 11))])])) (bNil)) (bNil)) (bCons (sRet (eMeth isStrB (g2 joinD) (.e (eC (.str []))) [.e (eLc [3] (xArgs kRange1 [.s 2]) (gN 3) (Wk.tYes) (eCall s__law_pick [0] [.s 0, .s 1]))])) (bNil)))
noncomputable def s__law_word : FS := hide (fnSem 4 2 [0] d__law_word)
theorem s__law_word_eq : s__law_word = fnSem 4 2 [0] d__law_word := hide_eq _
/-- def _law_words(draws, letters, many): : 0 draws, 1 letters, 2 many, 3 found, 4 k, 5 way, 6 word -/
noncomputable def d__law_words : XS := bCons (sSet (gN 3) (eLst [])) (bCons (sFor (xArgs kRange1 [.e (eCall s__law_take [0] [.s 0, .e (eApp (g2 addD) [.s 2, .e (eC (.int 1))])])]) (gN 4) (bCons (sSet (gN 5) (eCall s__law_take [0] [.s 0, .e (eC (.int 4))])) (bCons (sSet (gN 6) (eCall s__law_word [0] [.s 0, .s 1])) (bCons (sIf (Wk.tAnd (tOf (eApp (g2 gtD) [.e (eApp (g1 lenD) [.s 3]), .e (eC (.int 0))])) (tOf (eApp gEq [.s 5, .e (eC (.int 0))]))) (bCons (sSet (gN 6) (eApp gSlH [.e (eApp (g2 addD) [.e (eCall s__law_pick [0] [.s 0, .s 3]), .e (eCall s__law_pick [0] [.s 0, .s 1])]), .e (eC (.int 18))])) (bNil)) (bNil)) (bCons (sIf (Wk.tAnd (tOf (eApp (g2 gtD) [.e (eApp (g1 lenD) [.s 3]), .e (eC (.int 0))])) (tOf (eApp gEq [.s 5, .e (eC (.int 1))]))) (bCons (sSet (gN 6) (eCall s__law_pick [0] [.s 0, .s 3])) (bCons (sSet (gN 6) (eApp gSlH [.s 6, .e (eApp (g2 addD) [.e (eC (.int 1)), .e (eCall s__law_take [0] [.s 0, .e (eApp (g1 lenD) [.s 6])])])])) (bNil))) (bNil)) (bCons (sIf (tOf (eApp (g2 notInD) [.s 6, .s 3])) (bCons (sDrop (eMut 3 isLstB muApp [.e (eV 6)])) (bNil)) (bNil)) (bNil))))))) (bCons (sRet (eApp (g1 tupD) [.e (eApp (g1 sortD) [.s 3])])) (bNil)))
noncomputable def s__law_words : FS := hide (fnSem 7 3 [0] d__law_words)
theorem s__law_words_eq : s__law_words = fnSem 7 3 [0] d__law_words := hide_eq _
/-- def _law_worth(draws): : 0 draws, 1 small -/
noncomputable def d__law_worth : XS := bCons (sSet (gN 1) (eApp (g2 subD) [.e (eCall s__law_take [0] [.s 0, .e (eC (.int 8))]), .e (eC (.int 2))])) (bCons (sIf (tOf (eApp (g2 gtD) [.e (eCall s__law_take [0] [.s 0, .e (eC (.int 9))]), .e (eC (.int 0))])) (bCons (sRet (eM 1)) (bNil)) (bNil)) (bCons (sRet (eApp (g2 addD) [.s 1, .e (eCall s__law_pick [0] [.s 0, .e (eLst [.e (eC (.int 60)), .e (eApp (g1 negD) [.e (eC (.int 60))]), .e (eApp (g2 addD) [.e (eApp (g2 powD) [.e (eC (.int 10)), .e (eC (.int 12))]), .e (eC (.int 39))]), .e (eApp (g2 addD) [.e (eApp (g2 powD) [.e (eC (.int 10)), .e (eC (.int 40))]), .e (eC (.int 121))]), .e (eApp (g1 negD) [.e (eApp (g2 powD) [.e (eC (.int 10)), .e (eC (.int 40))])])])])])) (bNil)))
noncomputable def s__law_worth : FS := hide (fnSem 2 1 [0] d__law_worth)
theorem s__law_worth_eq : s__law_worth = fnSem 2 1 [0] d__law_worth := hide_eq _
/-- def _law_store_of(draws, words): : 0 draws, 1 words, 2 worth, 3 word -/
noncomputable def d__law_store_of : XS := bCons (sSet (gN 2) (eCall s__law_worth [0] [.s 0])) (bCons (sIf (tOf (eApp gEq [.e (eCall s__law_take [0] [.s 0, .e (eC (.int 5))]), .e (eC (.int 0))])) (bCons (sRet (eApp (g1 tupD) [.e (eLc [3] (xSeq (eV 1)) (gN 3) (Wk.tYes) (eTup [.e (eV 3), .e (eV 2)]))])) (bNil)) (bNil)) (bCons (sRet (eApp (g1 tupD) [.e (eLc [3] (xSeq (eV 1)) (gN 3) (Wk.tYes) (eTup [.e (eV 3), .e (eCall s__law_worth [0] [.s 0])]))])) (bNil)))
noncomputable def s__law_store_of : FS := hide (fnSem 4 2 [0] d__law_store_of)
theorem s__law_store_of_eq : s__law_store_of = fnSem 4 2 [0] d__law_store_of := hide_eq _
/-- def _law_typed(draws, letters, words): : 0 draws, 1 letters, 2 words, 3 way, 4 word -/
noncomputable def d__law_typed : XS := bCons (sSet (gN 3) (eCall s__law_take [0] [.s 0, .e (eC (.int 6))])) (bCons (sIf (tOf (eApp gEq [.s 3, .e (eC (.int 0))])) (bCons (sRet (eC (.str []))) (bNil)) (bNil)) (bCons (sIf (Wk.tOr (tOf (eApp gEq [.s 3, .e (eC (.int 1))])) (tOf (eApp gEq [.e (eApp (g1 lenD) [.s 2]), .e (eC (.int 0))]))) (bCons (sRet (eCall s__law_text_of [0] [.s 0, .s 1, .e (eC (.int 3))])) (bNil)) (bNil)) (bCons (sSet (gN 4) (eCall s__law_pick [0] [.s 0, .s 2])) (bCons (sIf (tOf (eApp gEq [.s 3, .e (eC (.int 2))])) (bCons (sRet (eM 4)) (bNil)) (bNil)) (bCons (sIf (tOf (eApp gEq [.s 3, .e (eC (.int 3))])) (bCons (sRet (eApp (g2 addD) [.s 4, .e (eCall s__law_pick [0] [.s 0, .s 1])])) (bNil)) (bNil)) (bCons (sRet (eApp gSlH [.s 4, .e (eCall s__law_take [0] [.s 0, .e (eApp (g2 addD) [.e (eApp (g2 min2D) [.e (eApp (g1 lenD) [.s 4]), .e (eC (.int 3))]), .e (eC (.int 1))])])])) (bNil)))))))
noncomputable def s__law_typed : FS := hide (fnSem 5 3 [0] d__law_typed)
theorem s__law_typed_eq : s__law_typed = fnSem 5 3 [0] d__law_typed := hide_eq _
/-- def _law_k(draws): : 0 draws -/
noncomputable def d__law_k : XS := bCons (sRet (eCall s__law_pick [0] [.s 0, .e (eLst [.e (eC (.int 1)), .e (eC (.int 1)), .e (eC (.int 2)), .e (eC (.int 2)), .e (eC (.int 3)), .e (eC (.int 3)), .e (eC (.int 4)), .e (eC (.int 5)), .e (eC (.int 8)), .e (eC (.int 10))])])) (bNil)
noncomputable def s__law_k : FS := hide (fnSem 1 1 [0] d__law_k)
theorem s__law_k_eq : s__law_k = fnSem 1 1 [0] d__law_k := hide_eq _
/-- def _law_behind(store, text): : 0 store, 1 text, 2 pair -/
noncomputable def d__law_behind : XS := bCons (sRet (eLc [2] (xSeq (eV 0)) (gN 2) (tOf (eApp gEq [.e (eApp gSlH [.e (eApp (g2 ixD) [.s 2, .e (eC (.int 0))]), .e (eApp (g1 lenD) [.s 1])]), .s 1])) (eV 2))) (bNil)
noncomputable def s__law_behind : FS := hide (fnSem 3 2 [] d__law_behind)
theorem s__law_behind_eq : s__law_behind = fnSem 3 2 [] d__law_behind := hide_eq _
/-- def _law_best(pairs, k): : 0 pairs, 1 k, 2 pair, 3 order -/
noncomputable def d__law_best : XS := bCons (sSet (gN 3) (eApp (g1 sortD) [.e (eLc [2] (xSeq (eV 0)) (gN 2) (Wk.tYes) (eTup [.e (eApp (g2 subD) [.e (eC (.int 0)), .e (eApp (g2 ixD) [.s 2, .e (eC (.int 1))])]), .e (eApp (g2 ixD) [.s 2, .e (eC (.int 0))])]))])) (bCons (sRet (eApp (g1 tupD) [.e (eLc [2] (xSeq (eApp gSlH [.s 3, .s 1])) (gN 2) (Wk.tYes) (eApp (g2 ixD) [.s 2, .e (eC (.int 1))]))])) (bNil))
noncomputable def s__law_best : FS := hide (fnSem 4 2 [] d__law_best)
theorem s__law_best_eq : s__law_best = fnSem 4 2 [] d__law_best := hide_eq _
/-- def _law_row(store, text, k): : 0 store, 1 text, 2 k -/
noncomputable def d__law_row : XS := bCons (sRet (eCall s__law_best [] [.e (eCall s__law_behind [] [.s 0, .s 1]), .s 2])) (bNil)
noncomputable def s__law_row : FS := hide (fnSem 3 3 [] d__law_row)
theorem s__law_row_eq : s__law_row = fnSem 3 3 [] d__law_row := hide_eq _
/-- def _law_words_of(store): : 0 store, 1 pair -/
noncomputable def d__law_words_of : XS := bCons (sRet (eApp (g1 tupD) [.e (eLc [1] (xSeq (eV 0)) (gN 1) (Wk.tYes) (eApp (g2 ixD) [.s 1, .e (eC (.int 0))]))])) (bNil)
noncomputable def s__law_words_of : FS := hide (fnSem 2 1 [] d__law_words_of)
theorem s__law_words_of_eq : s__law_words_of = fnSem 2 1 [] d__law_words_of := hide_eq _
/-- def _law_without(store, words): : 0 store, 1 words, 2 pair -/
noncomputable def d__law_without : XS := bCons (sRet (eApp (g1 tupD) [.e (eLc [2] (xSeq (eV 0)) (gN 2) (tOf (eApp (g2 notInD) [.e (eApp (g2 ixD) [.s 2, .e (eC (.int 0))]), .s 1])) (eV 2))])) (bNil)
noncomputable def s__law_without : FS := hide (fnSem 3 2 [] d__law_without)
theorem s__law_without_eq : s__law_without = fnSem 3 2 [] d__law_without := hide_eq _
/-- def _law_tree(draws, letters, k): : 0 draws, 1 letters, 2 k, 3 words, 4 turn, 5 begin, 6 j, 7 word -/
noncomputable def d__law_tree : XS := bCons (sSet (gN 3) (eLst [])) (bCons (sFor (xArgs kRange1 [.e (eApp (g2 addD) [.e (eC (.int 1)), .e (eCall s__law_take [0] [.s 0, .e (eC (.int 3))])])]) (gN 4) (bCons (sSet (gN 5) (eCall s__law_text_of [0] [.s 0, .s 1, .e (eC (.int 3))])) (bCons (sFor (xArgs kRange1 [.e (eCall s__law_pick [0] [.s 0, .e (eLst [.e (eC (.int 1)), .e (eApp (g2 min2D) [.s 2, .e (eC (.int 6))]), .e (eApp (g2 min2D) [.s 2, .e (eC (.int 6))]), .e (eApp (g2 min2D) [.e (eApp (g2 addD) [.s 2, .e (eC (.int 1))]), .e (eC (.int 6))])])])]) (gN 6) (bCons (sSet (gN 7) (eApp (g2 addD) [.s 5, .e (eCall s__law_text_of [0] [.s 0, .s 1, .e (eC (.int 3))])])) (bCons (sIf (Wk.tAnd (tOf (eApp gNe [.s 7, .e (eC (.str []))])) (Wk.tAnd (tOf (eApp (g2 notInD) [.s 7, .s 3])) (tOf (eApp (g2 ltD) [.e (eApp (g1 lenD) [.s 3]), .e (eC (.int 12))])))) (bCons (sDrop (eMut 3 isLstB muApp [.e (eV 7)])) (bNil)) (bNil)) (bNil)))) (bNil)))) (bCons (sRet (eCall s__law_store_of [0] [.s 0, .e (eApp (g1 sortD) [.s 3])])) (bNil)))
noncomputable def s__law_tree : FS := hide (fnSem 8 3 [0] d__law_tree)
theorem s__law_tree_eq : s__law_tree = fnSem 8 3 [0] d__law_tree := hide_eq _
/-- def _law_rule(draws, letters, store): : 0 draws, 1 letters, 2 store, 3 pair, 4 found, 5 word -/
noncomputable def d__law_rule : XS := bCons (sSet (gN 4) (eLc [3] (xSeq (eV 2)) (gN 3) (tOf (eApp gEq [.e (eCall s__law_take [0] [.s 0, .e (eC (.int 3))]), .e (eC (.int 0))])) (eApp (g2 ixD) [.s 3, .e (eC (.int 0))]))) (bCons (sFor (xSeq (eCall s__law_words [0] [.s 0, .s 1, .e (eC (.int 3))])) (gN 5) (bCons (sIf (tOf (eApp (g2 notInD) [.s 5, .s 4])) (bCons (sDrop (eMut 4 isLstB muApp [.e (eV 5)])) (bNil)) (bNil)) (bNil))) (bCons (sRet (eApp (g1 tupD) [.e (eApp (g1 sortD) [.s 4])])) (bNil)))
noncomputable def s__law_rule : FS := hide (fnSem 6 3 [0] d__law_rule)
theorem s__law_rule_eq : s__law_rule = fnSem 6 3 [0] d__law_rule := hide_eq _
end Wk
end

section
/-! the worths of defs, as printed for k02 -/
namespace Wk
open PySem PySem.Spec PyProof.Rows L2
/-- def _law_store(draws, letters, many): : 0 draws, 1 letters, 2 many -/
noncomputable def d__law_store : XS := bCons (sRet (eCall s__law_store_of [0] [.s 0, .e (eCall s__law_words [0] [.s 0, .s 1, .s 2])])) (bNil)
noncomputable def s__law_store : FS := hide (fnSem 3 3 [0] d__law_store)
theorem s__law_store_eq : s__law_store = fnSem 3 3 [0] d__law_store := hide_eq _
/-- def _law_begun(text): : 0 text, 1 size -/
noncomputable def d__law_begun : XS := bCons (sRet (eLc [1] (xArgs kRange1 [.e (eApp (g2 addD) [.e (eApp (g1 lenD) [.s 0]), .e (eC (.int 1))])]) (gN 1) (Wk.tYes) (eApp gSlH [.s 0, .s 1]))) (bNil)
noncomputable def s__law_begun : FS := hide (fnSem 2 1 [] d__law_begun)
theorem s__law_begun_eq : s__law_begun = fnSem 2 1 [] d__law_begun := hide_eq _
/-- def _law_nodes(words): : 0 words, 1 found, 2 word, 3 text -/
noncomputable def d__law_nodes : XS := bCons (sSet (gN 1) (eD0)) (bCons (sFor (xSeq (eV 0)) (gN 2) (bCons (sFor (xSeq (eCall s__law_begun [] [.s 2])) (gN 3) (bCons (sSet (gS 1 (eV 3)) (eC (.bl true))) (bNil))) (bNil))) (bCons (sRet (eApp (g1 sortD) [.s 1])) (bNil)))
noncomputable def s__law_nodes : FS := hide (fnSem 4 1 [] d__law_nodes)
theorem s__law_nodes_eq : s__law_nodes = fnSem 4 1 [] d__law_nodes := hide_eq _
/-- def _law_big_store(draws): : 0 draws, 1 head, 2 step, 3 turn, 4 ties, 5 table, 6 k, 7 number, 8 word, 9 j -/
noncomputable def d__law_big_store : XS := bCons (sSet (gN 1) (eCall s__law_text_of [0] [.s 0, .e (eLst [.e (eC (.str [97])), .e (eC (.str [98]))]), .e (eC (.int 12))])) (bCons (sSet (gN 2) (eApp (g2 addD) [.e (eC (.int 1)), .e (eCall s__law_take [0] [.s 0, .e (eC (.int 5))])])) (bCons (sSet (gN 3) (eApp (g2 addD) [.e (eC (.int 1)), .e (eCall s__law_take [0] [.s 0, .e (eC (.int 40))])])) (bCons (sSet (gN 4) (eApp (g2 addD) [.e (eC (.int 1)), .e (eCall s__law_take [0] [.s 0, .e (eC (.int 30))])])) (bCons (sSet (gN 5) (eD0)) (bCons (sFor (xArgs kRange1 [.e (eApp (g2 addD) [.e (eC (.int 61)), .e (eCall s__law_take [0] [.s 0, .e (eC (.int 20))])])]) (gN 6) (bCons (sSet (gN 7) (eApp (g2 mulD) [.e (eApp (g2 addD) [.s 6, .e (eC (.int 1))]), .s 2])) (bCons (sSet (gN 8) (eC (.str []))) (bCons (sFor (xArgs kRange1 [.e (eC (.int 6))]) (gN 9) (bCons (sIf (tOf (eApp (g2 gtD) [.s 7, .e (eC (.int 0))])) (bCons (sSet (gN 8) (eApp (g2 addD) [.e (eApp (g2 ixD) [.e (eC (.str [97, 98, 99])), .e (eApp (g2 modD) [.e (eApp (g1 intD) [.s 7]), .e (eC (.int 3))])]), .s 8])) (bCons (sSet (gN 7) (eApp (g2 fdivD) [.s 7, .e (eC (.int 3))])) (bNil))) (bNil)) (bNil))) (bCons (sIf (tOf (eApp (g2 gtD) [.e (eApp (g2 modD) [.e (eApp (g1 intD) [.s 6]), .e (eC (.int 3))]), .e (eC (.int 0))])) (bCons (sSet (gN 8) (eApp (g2 addD) [.s 1, .s 8])) (bNil)) (bNil)) (bCons (sSet (gS 5 (eV 8)) (eFz (eApp (g2 subD) [.e (eApp (g2 modD) [.e (eApp (g1 intD) [.e (eApp (g2 mulD) [.s 6, .s 3])]), .s 4]), .e (eC (.int 3))]))) (bNil))))))) (bCons (sRet (eApp (g1 tupD) [.e (eLc [8] (xSeq (eApp (g1 sortD) [.s 5])) (gN 8) (Wk.tYes) (eTup [.e (eV 8), .e (eApp (g2 ixD) [.s 5, .s 8])]))])) (bNil)))))))
noncomputable def s__law_big_store : FS := hide (fnSem 10 1 [0] d__law_big_store)
theorem s__law_big_store_eq : s__law_big_store = fnSem 10 1 [0] d__law_big_store := hide_eq _
/-- def _law_goes(draws, store, letters): : 0 draws, 1 store, 2 letters, 3 words, 4 turn, 5 text, 6 k -/
noncomputable def d__law_goes : XS := bCons (sSet (gN 3) (eCall s__law_words_of [] [.s 1])) (bCons (sFor (xArgs kRange1 [.e (eC (.int 5))]) (gN 4) (bCons (sSet (gN 5) (eCall s__law_typed [0] [.s 0, .s 2, .s 3])) (bCons (sFor (xSeq (eLst [.e (eC (.int 1)), .e (eC (.int 2)), .e (eC (.int 10)), .e (eCall s__law_k [0] [.s 0])])) (gN 6) (bCons (sIf (Wk.tNot (tOf (eCall (s__law_same 8) [] [.e (eCall s_row [] [.s 1, .s 5, .s 6]), .e (eCall s__law_row [] [.s 1, .s 5, .s 6])]))) (bCons (sRet (eC (.bl false))) (bNil)) (bNil)) (bNil))) (bNil)))) (bCons (sSet (gN 5) (eCall s__law_pick [0] [.s 0, .e (eApp (g2 addD) [.e (eCall s__law_nodes [] [.s 3]), .e (eLst [.e (eC (.str []))])])])) (bCons (sRet (eApp (g2 notInD) [.e (eC (.bl false)), .e (eLc [6] (xArgs kRange2 [.e (eC (.int 1)), .e (eC (.int 11))]) (gN 6) (Wk.tYes) (eCall (s__law_same 8) [] [.e (eCall s_row [] [.s 1, .s 5, .s 6]), .e (eCall s__law_row [] [.s 1, .s 5, .s 6])]))])) (bNil))))
noncomputable def s__law_goes : FS := hide (fnSem 7 3 [0] d__law_goes)
theorem s__law_goes_eq : s__law_goes = fnSem 7 3 [0] d__law_goes := hide_eq _
end Wk
end

section
/-! the worths of defs, as printed for k99 -/
namespace Wk
open PySem PySem.Spec PyProof.Rows L2
/-- def worth_of(store, word): : 0 store, 1 word, 2 known, 3 worth -/
noncomputable def d_worth_of : XS := bCons (sFor (xSeq (eV 0)) (gT [gN 2, gN 3]) (bCons (sIf (tOf (eApp gEq [.s 2, .s 1])) (bCons (sRet (eM 3)) (bNil)) (bNil)) (bNil))) (bCons (sRet (eC .non)) (bNil))
noncomputable def s_worth_of : FS := hide (fnSem 4 2 [] d_worth_of)
theorem s_worth_of_eq : s_worth_of = fnSem 4 2 [] d_worth_of := hide_eq _
/-- def better_ones(store, word, text): : 0 store, 1 word, 2 text, 3 rank, 4 pair, 5 better -/
noncomputable def d_better_ones : XS := bCons (sSet (gN 3) (eCall s_rank_of [] [.e (eTup [.e (eV 1), .e (eCall s_worth_of [] [.s 0, .s 1])])])) (bCons (sSet (gN 5) (eLc [4] (xSeq (eCall s_beginning_with [] [.s 0, .s 2])) (gN 4) (tOf (eApp (g2 ltD) [.e (eCall s_rank_of [] [.s 4]), .s 3])) (eV 4))) (bCons (sRet (eCall s_best_of [] [.s 5, .e (eApp (g1 lenD) [.s 5])])) (bNil)))
noncomputable def s_better_ones : FS := hide (fnSem 6 3 [] d_better_ones)
theorem s_better_ones_eq : s_better_ones = fnSem 6 3 [] d_better_ones := hide_eq _
/-- def places_by_length(store, word): : 0 store, 1 word, 2 many -/
noncomputable def d_places_by_length : XS := bCons (sRet (eApp (g1 tupD) [.e (eLc [2] (xArgs kRange1 [.e (eApp (g2 addD) [.e (eApp (g1 lenD) [.s 1]), .e (eC (.int 1))])]) (gN 2) (Wk.tYes) (eApp (g1 lenD) [.e (eCall s_better_ones [] [.s 0, .s 1, .e (eApp gSlH [.s 1, .s 2])])]))])) (bNil)
noncomputable def s_places_by_length : FS := hide (fnSem 3 2 [] d_places_by_length)
theorem s_places_by_length_eq : s_places_by_length = fnSem 3 2 [] d_places_by_length := hide_eq _
/-- def least_k(store, word): : 0 store, 1 word -/
noncomputable def d_least_k : XS := bCons (sRet (eApp (g2 addD) [.e (eApp (g2 ixD) [.e (eCall s_places_by_length [] [.s 0, .s 1]), .e (eApp (g1 negD) [.e (eC (.int 1))])]), .e (eC (.int 1))])) (bNil)
noncomputable def s_least_k : FS := hide (fnSem 2 2 [] d_least_k)
theorem s_least_k_eq : s_least_k = fnSem 2 2 [] d_least_k := hide_eq _
/-- def reached_words(store, k): : 0 store, 1 k, 2 word, 3 _ -/
noncomputable def d_reached_words : XS := bCons (sRet (eApp (g1 lenD) [.e (eLc [2, 3] (xSeq (eV 0)) (gT [gN 2, gN 3]) (tOf (eApp (g2 leD) [.e (eCall s_least_k [] [.s 0, .s 2]), .s 1])) (eV 2))])) (bNil)
noncomputable def s_reached_words : FS := hide (fnSem 4 2 [] d_reached_words)
theorem s_reached_words_eq : s_reached_words = fnSem 4 2 [] d_reached_words := hide_eq _
/-- def overtaken(store, word): : 0 store, 1 word, 2 passed, 3 many, 4 kept, 5 other -/
noncomputable def d_overtaken : XS := bCons (sSet (gN 2) (eLst [])) (bCons (sFor (xArgs kRange1 [.e (eApp (g1 lenD) [.s 1])]) (gN 3) (bCons (sSet (gN 4) (eCall s_better_ones [] [.s 0, .s 1, .e (eApp gSlH [.s 1, .e (eApp (g2 addD) [.s 3, .e (eC (.int 1))])])])) (bCons (sDrop (eMut 2 isLstB muApp [.e (eFz (eApp (g1 tupD) [.e (eLc [5] (xSeq (eCall s_better_ones [] [.s 0, .s 1, .e (eApp gSlH [.s 1, .s 3])])) (gN 5) (tOf (eApp (g2 notInD) [.s 5, .s 4])) (eV 5))]))])) (bNil)))) (bCons (sRet (eApp (g1 tupD) [.s 2])) (bNil)))
noncomputable def s_overtaken : FS := hide (fnSem 6 2 [] d_overtaken)
theorem s_overtaken_eq : s_overtaken = fnSem 6 2 [] d_overtaken := hide_eq _
/-- def _law_better(store, word, text): : 0 store, 1 word, 2 text, 3 line -/
noncomputable def d__law_better : XS := bCons (sSet (gN 3) (eApp (g1 listD) [.e (eCall s__law_row [] [.s 0, .s 2, .e (eApp (g1 lenD) [.s 0])])])) (bCons (sRet (eApp (g1 tupD) [.e (eApp gSlH [.s 3, .e (eMeth isLstB (g2 indexD) (.s 3) [.s 1])])])) (bNil))
noncomputable def s__law_better : FS := hide (fnSem 4 3 [] d__law_better)
theorem s__law_better_eq : s__law_better = fnSem 4 3 [] d__law_better := hide_eq _
/-- def _law_word_goes(store, word, ks): : 0 store, 1 word, 2 ks, 3 many, 4 dues, 5 k, 6 j, 7 one, 8 gone, 9 together, 10 part, 11 due, 12 numbers -/
noncomputable def d__law_word_goes : XS := bCons (sSet (gN 4) (eLc [3] (xArgs kRange1 [.e (eApp (g2 addD) [.e (eApp (g1 lenD) [.s 1]), .e (eC (.int 1))])]) (gN 3) (Wk.tYes) (eCall s__law_better [] [.s 0, .s 1, .e (eApp gSlH [.s 1, .s 3])]))) (bCons (sFor (xArgs kRange1 [.e (eApp (g2 addD) [.e (eApp (g1 lenD) [.s 1]), .e (eC (.int 1))])]) (gN 3) (bCons (sIf (Wk.tNot (tOf (eCall (s__law_same 8) [] [.e (eCall s_better_ones [] [.s 0, .s 1, .e (eApp gSlH [.s 1, .s 3])]), .e (eApp (g2 ixD) [.s 4, .s 3])]))) (bCons (sRet (eC (.bl false))) (bNil)) (bNil)) (bCons (sFor (xSeq (eV 2)) (gN 5) (bCons (sIf (tOf (eApp gNe [.e (eApp (g2 inD) [.s 1, .e (eCall s_row [] [.s 0, .e (eApp gSlH [.s 1, .s 3]), .s 5])]), .e (eApp (g2 ltD) [.e (eApp (g1 lenD) [.e (eApp (g2 ixD) [.s 4, .s 3])]), .s 5])])) (bCons (sRet (eC (.bl false))) (bNil)) (bNil)) (bNil))) (bNil)))) (bCons (sSet (gN 8) (eApp (g1 tupD) [.e (eLc [6] (xArgs kRange1 [.e (eApp (g1 lenD) [.s 1])]) (gN 6) (Wk.tYes) (eApp (g1 tupD) [.e (eLc [7] (xSeq (eApp (g2 ixD) [.s 4, .s 6])) (gN 7) (tOf (eApp (g2 notInD) [.s 7, .e (eApp (g2 ixD) [.s 4, .e (eApp (g2 addD) [.s 6, .e (eC (.int 1))])])])) (eV 7))]))])) (bCons (sIf (Wk.tNot (tOf (eCall (s__law_same 8) [] [.e (eCall s_overtaken [] [.s 0, .s 1]), .s 8]))) (bCons (sRet (eC (.bl false))) (bNil)) (bNil)) (bCons (sSet (gN 9) (eApp (g1 listD) [.e (eApp (g2 ixD) [.s 4, .e (eApp (g1 negD) [.e (eC (.int 1))])])])) (bCons (sFor (xSeq (eV 8)) (gN 10) (bCons (sSet (gN 9) (eApp (g2 addD) [.s 9, .e (eApp (g1 listD) [.s 10])])) (bNil))) (bCons (sIf (tOf (eApp gNe [.e (eApp (g1 sortD) [.s 9]), .e (eApp (g1 sortD) [.e (eApp (g2 ixD) [.s 4, .e (eC (.int 0))])])])) (bCons (sRet (eC (.bl false))) (bNil)) (bNil)) (bCons (sSet (gN 12) (eApp (g1 tupD) [.e (eLc [11] (xSeq (eV 4)) (gN 11) (Wk.tYes) (eApp (g1 lenD) [.s 11]))])) (bCons (sIf (Wk.tNot (tOf (eCall (s__law_same 8) [] [.e (eCall s_places_by_length [] [.s 0, .s 1]), .s 12]))) (bCons (sRet (eC (.bl false))) (bNil)) (bNil)) (bCons (sRet (eCall (s__law_same 8) [] [.e (eCall s_least_k [] [.s 0, .s 1]), .e (eApp (g2 addD) [.e (eApp (g2 ixD) [.s 12, .e (eApp (g1 negD) [.e (eC (.int 1))])]), .e (eC (.int 1))])])) (bNil))))))))))
noncomputable def s__law_word_goes : FS := hide (fnSem 13 3 [] d__law_word_goes)
theorem s__law_word_goes_eq : s__law_word_goes = fnSem 13 3 [] d__law_word_goes := hide_eq _
/-- def _law_store_goes(store, ks): : 0 store, 1 ks, 2 pair, 3 k, 4 due -/
noncomputable def d__law_store_goes : XS := bCons (sFor (xSeq (eV 0)) (gN 2) (bCons (sIf (Wk.tNot (tOf (eCall s__law_word_goes [] [.s 0, .e (eApp (g2 ixD) [.s 2, .e (eC (.int 0))]), .s 1]))) (bCons (sRet (eC (.bl false))) (bNil)) (bNil)) (bNil))) (bCons (sFor (xSeq (eV 1)) (gN 3) (bCons (sSet (gN 4) (eApp (g1 lenD) [.e (eLc [2] (xSeq (eV 0)) (gN 2) (tOf (eApp (g2 ltD) [.e (eApp (g1 lenD) [.e (eCall s__law_better [] [.s 0, .e (eApp (g2 ixD) [.s 2, .e (eC (.int 0))]), .e (eApp (g2 ixD) [.s 2, .e (eC (.int 0))])])]), .s 3])) (eV 2))])) (bCons (sIf (Wk.tNot (tOf (eCall (s__law_same 8) [] [.e (eCall s_reached_words [] [.s 0, .s 3]), .s 4]))) (bCons (sRet (eC (.bl false))) (bNil)) (bNil)) (bNil)))) (bCons (sRet (eC (.bl true))) (bNil)))
noncomputable def s__law_store_goes : FS := hide (fnSem 5 2 [] d__law_store_goes)
theorem s__law_store_goes_eq : s__law_store_goes = fnSem 5 2 [] d__law_store_goes := hide_eq _
/-- def _law_chain_goes(draws, letters): : 0 draws, 1 letters, 2 many, 3 letter, 4 j, 5 store, 6 k -/
noncomputable def d__law_chain_goes : XS := bCons (sSet (gN 2) (eApp (g2 addD) [.e (eC (.int 2)), .e (eCall s__law_take [0] [.s 0, .e (eC (.int 8))])])) (bCons (sSet (gN 3) (eCall s__law_pick [0] [.s 0, .s 1])) (bCons (sSet (gN 5) (eApp (g1 tupD) [.e (eLc [4] (xArgs kRange1 [.s 2]) (gN 4) (Wk.tYes) (eTup [.e (eApp (g2 mulD) [.s 3, .e (eApp (g2 addD) [.s 4, .e (eC (.int 1))])]), .e (eV 4)]))])) (bCons (sIf (Wk.tNot (tOf (eCall (s__law_same 8) [] [.e (eCall s_least_k [] [.s 5, .s 3]), .s 2]))) (bCons (sRet (eC (.bl false))) (bNil)) (bNil)) (bCons (sIf (Wk.tNot (tOf (eCall (s__law_same 8) [] [.e (eCall s_overtaken [] [.s 5, .e (eApp (g2 mulD) [.s 3, .s 2])]), .e (eApp (g2 mulD) [.e (eTup [.e (eTup [])]), .s 2])]))) (bCons (sRet (eC (.bl false))) (bNil)) (bNil)) (bCons (sRet (eCall (s__law_same 8) [] [.e (eLc [6] (xSeq (eLst [.e (eC (.int 1)), .e (eApp (g2 subD) [.s 2, .e (eC (.int 1))]), .e (eV 2)])) (gN 6) (Wk.tYes) (eCall s_reached_words [] [.s 5, .s 6])), .e (eLst [.e (eC (.int 1)), .e (eApp (g2 subD) [.s 2, .e (eC (.int 1))]), .e (eV 2)])])) (bNil))))))
noncomputable def s__law_chain_goes : FS := hide (fnSem 7 2 [0] d__law_chain_goes)
theorem s__law_chain_goes_eq : s__law_chain_goes = fnSem 7 2 [0] d__law_chain_goes := hide_eq _
end Wk
end

section
/-! the worths of defs, as printed for k03 -/
namespace Wk
open PySem PySem.Spec PyProof.Rows L2
/-- def beginnings(word): : 0 word, 1 end -/
noncomputable def d_beginnings : XS := bCons (sRet (eLc [1] (xArgs kRange1 [.e (eApp (g2 addD) [.e (eApp (g1 lenD) [.s 0]), .e (eC (.int 1))])]) (gN 1) (Wk.tYes) (eApp gSlH [.s 0, .s 1]))) (bNil)
noncomputable def s_beginnings : FS := hide (fnSem 2 1 [] d_beginnings)
theorem s_beginnings_eq : s_beginnings = fnSem 2 1 [] d_beginnings := hide_eq _
/-- def store_with(store, word, worth): : 0 store, 1 word, 2 worth -/
noncomputable def d_store_with : XS := bCons (sRet (eApp (g1 tupD) [.e (eApp (g1 sortD) [.e (eLstS [(true, eCall s_store_without [] [.s 0, .e (eTup [.e (eV 1)])]), (false, eTup [.e (eV 1), .e (eV 2)])])])])) (bNil)
noncomputable def s_store_with : FS := hide (fnSem 3 3 [] d_store_with)
theorem s_store_with_eq : s_store_with = fnSem 3 3 [] d_store_with := hide_eq _
/-- def changed_store(store, change): : 0 store, 1 change, 2 word, 3 worth -/
noncomputable def d_changed_store : XS := bCons (sSet (gT [gN 2, gN 3]) (eV 1)) (bCons (sIf (tOf (eApp (g2 isND) [.s 3, .e (eC .non)])) (bCons (sRet (eCall s_store_without [] [.s 0, .e (eTup [.e (eV 2)])])) (bNil)) (bNil)) (bCons (sRet (eCall s_store_with [] [.s 0, .s 2, .s 3])) (bNil)))
noncomputable def s_changed_store : FS := hide (fnSem 4 2 [] d_changed_store)
theorem s_changed_store_eq : s_changed_store = fnSem 4 2 [] d_changed_store := hide_eq _
/-- def changed_beginnings(store, change, k): : 0 store, 1 change, 2 k, 3 behind, 4 text -/
noncomputable def d_changed_beginnings : XS := bCons (sSet (gN 3) (eCall s_changed_store [] [.s 0, .s 1])) (bCons (sRet (eApp (g1 tupD) [.e (eLc [4] (xSeq (eCall s_beginnings [] [.e (eApp (g2 ixD) [.s 1, .e (eC (.int 0))])])) (gN 4) (tOf (eApp gNe [.e (eCall s_row [] [.s 0, .s 4, .s 2]), .e (eCall s_row [] [.s 3, .s 4, .s 2])])) (eV 4))])) (bNil))
noncomputable def s_changed_beginnings : FS := hide (fnSem 5 3 [] d_changed_beginnings)
theorem s_changed_beginnings_eq : s_changed_beginnings = fnSem 5 3 [] d_changed_beginnings := hide_eq _
/-- def _law_worth_in(store, word): : 0 store, 1 word, 2 pair, 3 found -/
noncomputable def d__law_worth_in : XS := bCons (sSet (gN 3) (eLc [2] (xSeq (eV 0)) (gN 2) (tOf (eApp gEq [.e (eApp (g2 ixD) [.s 2, .e (eC (.int 0))]), .s 1])) (eApp (g2 ixD) [.s 2, .e (eC (.int 1))]))) (bCons (sRet (eApp (g2 ixD) [.e (eApp (g2 addD) [.s 3, .e (eLst [.e (eC .non)])]), .e (eC (.int 0))])) (bNil))
noncomputable def s__law_worth_in : FS := hide (fnSem 4 2 [] d__law_worth_in)
theorem s__law_worth_in_eq : s__law_worth_in = fnSem 4 2 [] d__law_worth_in := hide_eq _
/-- def _law_with(store, word, worth): : 0 store, 1 word, 2 worth -/
noncomputable def d__law_with : XS := bCons (sRet (eApp (g1 tupD) [.e (eApp (g1 sortD) [.e (eApp (g2 addD) [.e (eApp (g1 listD) [.e (eCall s__law_without [] [.s 0, .e (eTup [.e (eV 1)])])]), .e (eLst [.e (eTup [.e (eV 1), .e (eV 2)])])])])])) (bNil)
noncomputable def s__law_with : FS := hide (fnSem 3 3 [] d__law_with)
theorem s__law_with_eq : s__law_with = fnSem 3 3 [] d__law_with := hide_eq _
/-- def _law_changed(store, change): : 0 store, 1 change -/
noncomputable def d__law_changed : XS := bCons (sIf (tOf (eApp (g2 isND) [.e (eApp (g2 ixD) [.s 1, .e (eC (.int 1))]), .e (eC .non)])) (bCons (sRet (eCall s__law_without [] [.s 0, .e (eTup [.e (eApp (g2 ixD) [.s 1, .e (eC (.int 0))])])])) (bNil)) (bNil)) (bCons (sRet (eCall s__law_with [] [.s 0, .e (eApp (g2 ixD) [.s 1, .e (eC (.int 0))]), .e (eApp (g2 ixD) [.s 1, .e (eC (.int 1))])])) (bNil))
noncomputable def s__law_changed : FS := hide (fnSem 2 2 [] d__law_changed)
theorem s__law_changed_eq : s__law_changed = fnSem 2 2 [] d__law_changed := hide_eq _
/-- def _law_change(draws, letters, store): : 0 draws, 1 letters, 2 store, 3 word -/
noncomputable def d__law_change : XS := bCons (sSet (gN 3) (eCall s__law_word [0] [.s 0, .s 1])) (bCons (sIf (Wk.tAnd (tOf (eApp (g2 gtD) [.e (eApp (g1 lenD) [.s 2]), .e (eC (.int 0))])) (tOf (eApp (g2 gtD) [.e (eCall s__law_take [0] [.s 0, .e (eC (.int 3))]), .e (eC (.int 0))]))) (bCons (sSet (gN 3) (eApp (g2 ixD) [.e (eCall s__law_pick [0] [.s 0, .s 2]), .e (eC (.int 0))])) (bNil)) (bNil)) (bCons (sIf (tOf (eApp gEq [.e (eCall s__law_take [0] [.s 0, .e (eC (.int 3))]), .e (eC (.int 0))])) (bCons (sRet (eTup [.e (eV 3), .e (eC .non)])) (bNil)) (bNil)) (bCons (sRet (eTup [.e (eV 3), .e (eCall s__law_worth [0] [.s 0])])) (bNil))))
noncomputable def s__law_change : FS := hide (fnSem 4 3 [0] d__law_change)
theorem s__law_change_eq : s__law_change = fnSem 4 3 [0] d__law_change := hide_eq _
/-- def _law_due(store, behind, word, k): : 0 store, 1 behind, 2 word, 3 k, 4 text -/
noncomputable def d__law_due : XS := bCons (sRet (eApp (g1 tupD) [.e (eLc [4] (xSeq (eCall s__law_begun [] [.s 2])) (gN 4) (tOf (eApp gNe [.e (eCall s__law_row [] [.s 0, .s 4, .s 3]), .e (eCall s__law_row [] [.s 1, .s 4, .s 3])])) (eV 4))])) (bNil)
noncomputable def s__law_due : FS := hide (fnSem 5 4 [] d__law_due)
theorem s__law_due_eq : s__law_due = fnSem 5 4 [] d__law_due := hide_eq _
/-- def _law_goes(draws, store, letters, change): : 0 draws, 1 store, 2 letters, 3 change, 4 k, 5 behind, 6 due, 7 turn, 8 text, 9 back -/
noncomputable def d__law_goes_k03 : XS := bCons (sSet (gN 4) (eCall s__law_k [0] [.s 0])) (bCons (sSet (gN 5) (eCall s__law_changed [] [.s 1, .s 3])) (bCons (sIf (Wk.tNot (tOf (eCall (s__law_same 8) [] [.e (eCall s_changed_store [] [.s 1, .s 3]), .s 5]))) (bCons (sRet (eC (.bl false))) (bNil)) (bNil)) (bCons (sSet (gN 6) (eCall s__law_due [] [.s 1, .s 5, .e (eApp (g2 ixD) [.s 3, .e (eC (.int 0))]), .s 4])) (bCons (sIf (Wk.tNot (tOf (eCall (s__law_same 8) [] [.e (eCall s_changed_beginnings [] [.s 1, .s 3, .s 4]), .s 6]))) (bCons (sRet (eC (.bl false))) (bNil)) (bNil)) (bCons (sFor (xArgs kRange1 [.e (eC (.int 4))]) (gN 7) (bCons (sSet (gN 8) (eCall s__law_typed [0] [.s 0, .s 2, .e (eCall s__law_words_of [] [.s 5])])) (bCons (sIf (Wk.tAnd (tOf (eApp (g2 notInD) [.s 8, .s 6])) (Wk.tNot (tOf (eCall (s__law_same 8) [] [.e (eCall s_row [] [.s 5, .s 8, .s 4]), .e (eCall s_row [] [.s 1, .s 8, .s 4])])))) (bCons (sRet (eC (.bl false))) (bNil)) (bNil)) (bCons (sIf (Wk.tNot (tOf (eCall (s__law_same 8) [] [.e (eCall s_row [] [.e (eCall s_changed_store [] [.s 1, .s 3]), .s 8, .s 4]), .e (eCall s__law_row [] [.s 5, .s 8, .s 4])]))) (bCons (sRet (eC (.bl false))) (bNil)) (bNil)) (bNil))))) (bCons (sSet (gN 9) (eTup [.e (eApp (g2 ixD) [.s 3, .e (eC (.int 0))]), .e (eCall s__law_worth_in [] [.s 1, .e (eApp (g2 ixD) [.s 3, .e (eC (.int 0))])])])) (bCons (sRet (eCall (s__law_same 8) [] [.e (eCall s_changed_store [] [.s 5, .s 9]), .s 1])) (bNil))))))))
noncomputable def s__law_goes_k03 : FS := hide (fnSem 10 4 [0] d__law_goes_k03)
theorem s__law_goes_k03_eq : s__law_goes_k03 = fnSem 10 4 [0] d__law_goes_k03 := hide_eq _
end Wk
end

section
/-! the worths of defs, as printed for k37 -/
namespace Wk
open PySem PySem.Spec PyProof.Rows L2
/-- def longest_pair(tongue, text, place): : 0 tongue, 1 text, 2 place, 3 found, 4 pair -/
noncomputable def d_longest_pair : XS := bCons (sSet (gN 3) (eC .non)) (bCons (sFor (xSeq (eV 0)) (gN 4) (bCons (sIf (Wk.tAnd (tOf (eMeth isStrB (g3 startsD3) (.s 1) [.e (eApp (g2 ixD) [.s 4, .e (eC (.int 0))]), .s 2])) (Wk.tOr (tOf (eApp (g2 isND) [.s 3, .e (eC .non)])) (tOf (eApp (g2 gtD) [.e (eApp (g1 lenD) [.e (eApp (g2 ixD) [.s 4, .e (eC (.int 0))])]), .e (eApp (g1 lenD) [.e (eApp (g2 ixD) [.s 3, .e (eC (.int 0))])])])))) (bCons (sSet (gN 3) (eV 4)) (bNil)) (bNil)) (bNil))) (bCons (sRet (eM 3)) (bNil)))
noncomputable def s_longest_pair : FS := hide (fnSem 5 3 [] d_longest_pair)
theorem s_longest_pair_eq : s_longest_pair = fnSem 5 3 [] d_longest_pair := hide_eq _
/-- def taken_at(tongue, text, place): : 0 tongue, 1 text, 2 place, 3 found -/
noncomputable def d_taken_at : XS := bCons (sSet (gN 3) (eCall s_longest_pair [] [.s 0, .s 1, .s 2])) (bCons (sIf (tOf (eApp (g2 isND) [.s 3, .e (eC .non)])) (bCons (sRet (eTup [.e (eApp (g2 ixD) [.s 1, .s 2]), .e (eApp (g2 ixD) [.s 1, .s 2])])) (bNil)) (bNil)) (bCons (sRet (eM 3)) (bNil)))
noncomputable def s_taken_at : FS := hide (fnSem 4 3 [] d_taken_at)
theorem s_taken_at_eq : s_taken_at = fnSem 4 3 [] d_taken_at := hide_eq _
/-- def written(tongue, text): : 0 tongue, 1 text, 2 parts, 3 place, 4 source, 5 made -/
noncomputable def d_written : XS := bCons (sSet (gN 2) (eLst [])) (bCons (sSet (gN 3) (eC (.int 0))) (bCons (sWh (tOf (eApp (g2 ltD) [.s 3, .e (eApp (g1 lenD) [.s 1])])) (bCons (sSet (gT [gN 4, gN 5]) (eCall s_taken_at [] [.s 0, .s 1, .s 3])) (bCons (sDrop (eMut 2 isLstB muApp [.e (eV 5)])) (bCons (sAug 3 augAdd (eApp (g1 lenD) [.s 4])) (bNil))))) (bCons (sRet (eMeth isStrB (g2 joinD) (.e (eC (.str []))) [.s 2])) (bNil))))
noncomputable def s_written : FS := hide (fnSem 6 2 [] d_written)
theorem s_written_eq : s_written = fnSem 6 2 [] d_written := hide_eq _
/-- def may_grow(tongue, left): : 0 tongue, 1 left, 2 pair -/
noncomputable def d_may_grow : XS := bCons (sRet (eApp (g1 anyD) [.e (eLc [2] (xSeq (eV 0)) (gN 2) (Wk.tYes) (eAnd (eApp (g2 gtD) [.e (eApp (g1 lenD) [.e (eApp (g2 ixD) [.s 2, .e (eC (.int 0))])]), .e (eApp (g1 lenD) [.s 1])]) (eMeth isStrB (g2 startsD) (.e (eApp (g2 ixD) [.s 2, .e (eC (.int 0))])) [.s 1])))])) (bNil)
noncomputable def s_may_grow : FS := hide (fnSem 3 2 [] d_may_grow)
theorem s_may_grow_eq : s_may_grow = fnSem 3 2 [] d_may_grow := hide_eq _
/-- def firm_and_rest(tongue, text): : 0 tongue, 1 text, 2 parts, 3 place, 4 source, 5 made -/
noncomputable def d_firm_and_rest : XS := bCons (sSet (gN 2) (eLst [])) (bCons (sSet (gN 3) (eC (.int 0))) (bCons (sWh (Wk.tAnd (tOf (eApp (g2 ltD) [.s 3, .e (eApp (g1 lenD) [.s 1])])) (Wk.tNot (tOf (eCall s_may_grow [] [.s 0, .e (eApp gSlL [.s 1, .s 3])])))) (bCons (sSet (gT [gN 4, gN 5]) (eCall s_taken_at [] [.s 0, .s 1, .s 3])) (bCons (sDrop (eMut 2 isLstB muApp [.e (eV 5)])) (bCons (sAug 3 augAdd (eApp (g1 lenD) [.s 4])) (bNil))))) (bCons (sRet (eTup [.e (eMeth isStrB (g2 joinD) (.e (eC (.str []))) [.s 2]), .e (eApp gSlL [.s 1, .s 3])])) (bNil))))
noncomputable def s_firm_and_rest : FS := hide (fnSem 6 2 [] d_firm_and_rest)
theorem s_firm_and_rest_eq : s_firm_and_rest = fnSem 6 2 [] d_firm_and_rest := hide_eq _
/-- def chain_written(chain, text): : 0 chain, 1 text, 2 made, 3 tongue -/
noncomputable def d_chain_written : XS := bCons (sSet (gN 2) (eV 1)) (bCons (sFor (xSeq (eV 0)) (gN 3) (bCons (sSet (gN 2) (eCall s_written [] [.s 3, .s 2])) (bNil))) (bCons (sRet (eM 2)) (bNil)))
noncomputable def s_chain_written : FS := hide (fnSem 4 2 [] d_chain_written)
theorem s_chain_written_eq : s_chain_written = fnSem 4 2 [] d_chain_written := hide_eq _
/-- def no_rests(chain): : 0 chain -/
noncomputable def d_no_rests : XS := bCons (sRet (eApp (g2 mulD) [.e (eTup [.e (eC (.str []))]), .e (eApp (g1 lenD) [.s 0])])) (bNil)
noncomputable def s_no_rests : FS := hide (fnSem 1 1 [] d_no_rests)
theorem s_no_rests_eq : s_no_rests = fnSem 1 1 [] d_no_rests := hide_eq _
/-- def behind_text(chain, rests, text): : 0 chain, 1 rests, 2 text, 3 firm, 4 found, 5 tongue, 6 rest, 7 left -/
noncomputable def d_behind_text : XS := bCons (sSet (gN 3) (eV 2)) (bCons (sSet (gN 4) (eLst [])) (bCons (sFor (xZip (eV 0) (eV 1)) (gT [gN 5, gN 6]) (bCons (sSet (gT [gN 3, gN 7]) (eCall s_firm_and_rest [] [.s 5, .e (eApp (g2 addD) [.s 6, .s 3])])) (bCons (sDrop (eMut 4 isLstB muApp [.e (eV 7)])) (bNil)))) (bCons (sRet (eTup [.e (eV 3), .e (eApp (g1 tupD) [.s 4])])) (bNil))))
noncomputable def s_behind_text : FS := hide (fnSem 8 3 [] d_behind_text)
theorem s_behind_text_eq : s_behind_text = fnSem 8 3 [] d_behind_text := hide_eq _
/-- def chain_state(chain, text): : 0 chain, 1 text -/
noncomputable def d_chain_state : XS := bCons (sRet (eCall s_behind_text [] [.s 0, .e (eCall s_no_rests [] [.s 0]), .s 1])) (bNil)
noncomputable def s_chain_state : FS := hide (fnSem 2 2 [] d_chain_state)
theorem s_chain_state_eq : s_chain_state = fnSem 2 2 [] d_chain_state := hide_eq _
/-- def end_of_rests(chain, rests): : 0 chain, 1 rests, 2 made, 3 tongue, 4 rest -/
noncomputable def d_end_of_rests : XS := bCons (sSet (gN 2) (eC (.str []))) (bCons (sFor (xZip (eV 0) (eV 1)) (gT [gN 3, gN 4]) (bCons (sSet (gN 2) (eCall s_written [] [.s 3, .e (eApp (g2 addD) [.s 4, .s 2])])) (bNil))) (bCons (sRet (eM 2)) (bNil)))
noncomputable def s_end_of_rests : FS := hide (fnSem 5 2 [] d_end_of_rests)
theorem s_end_of_rests_eq : s_end_of_rests = fnSem 5 2 [] d_end_of_rests := hide_eq _
/-- def _law_tongue(draws, letters, many, most): : 0 draws, 1 letters, 2 many, 3 most, 4 froms, 5 k, 6 j, 7 begin, 8 pairs, 9 to -/
noncomputable def d__law_tongue : XS := bCons (sSet (gN 4) (eLst [])) (bCons (sFor (xArgs kRange1 [.e (eCall s__law_take [0] [.s 0, .e (eApp (g2 addD) [.s 2, .e (eC (.int 1))])])]) (gN 5) (bCons (sSet (gN 7) (eMeth isStrB (g2 joinD) (.e (eC (.str []))) [.e (eLc [6] (xArgs kRange1 [.e (eApp (g2 addD) [.e (eC (.int 1)), .e (eCall s__law_take [0] [.s 0, .s 3])])]) (gN 6) (Wk.tYes) (eCall s__law_pick [0] [.s 0, .s 1]))])) (bCons (sIf (Wk.tAnd (tOf (eApp (g2 gtD) [.e (eApp (g1 lenD) [.s 4]), .e (eC (.int 0))])) (tOf (eApp gEq [.e (eCall s__law_take [0] [.s 0, .e (eC (.int 2))]), .e (eC (.int 0))]))) (bCons (sSet (gN 7) (eApp gSlH [.e (eApp (g2 addD) [.e (eCall s__law_pick [0] [.s 0, .s 4]), .e (eCall s__law_pick [0] [.s 0, .s 1])]), .s 3])) (bNil)) (bNil)) (bCons (sIf (tOf (eApp (g2 notInD) [.s 7, .s 4])) (bCons (sDrop (eMut 4 isLstB muApp [.e (eV 7)])) (bNil)) (bNil)) (bNil))))) (bCons (sSet (gN 8) (eLst [])) (bCons (sFor (xSeq (eV 4)) (gN 7) (bCons (sSet (gN 9) (eCall s__law_text_of [0] [.s 0, .s 1, .s 3])) (bCons (sIf (tOf (eApp gEq [.e (eCall s__law_take [0] [.s 0, .e (eC (.int 3))]), .e (eC (.int 0))])) (bCons (sSet (gN 9) (eCall s__law_pick [0] [.s 0, .e (eApp (g2 addD) [.s 4, .e (eLst [.e (eC (.str []))])])])) (bNil)) (bNil)) (bCons (sDrop (eMut 8 isLstB muApp [.e (eFz (eTup [.e (eV 7), .e (eV 9)]))])) (bNil))))) (bCons (sRet (eApp (g1 tupD) [.s 8])) (bNil)))))
noncomputable def s__law_tongue : FS := hide (fnSem 10 4 [0] d__law_tongue)
theorem s__law_tongue_eq : s__law_tongue = fnSem 10 4 [0] d__law_tongue := hide_eq _
/-- def _law_first_taken(tongue, text): : 0 tongue, 1 text, 2 size, 3 gives, 4 begin, 5 to -/
noncomputable def d__law_first_taken : XS := bCons (sSet (gN 2) (eC (.int 0))) (bCons (sSet (gN 3) (eApp (g2 ixD) [.s 1, .e (eC (.int 0))])) (bCons (sFor (xSeq (eV 0)) (gT [gN 4, gN 5]) (bCons (sIf (Wk.tAnd (tOf (eApp (g2 gtD) [.e (eApp (g1 lenD) [.s 4]), .s 2])) (tOf (eApp gEq [.e (eApp gSlH [.s 1, .e (eApp (g1 lenD) [.s 4])]), .s 4]))) (bCons (sSet (gN 2) (eApp (g1 lenD) [.s 4])) (bCons (sSet (gN 3) (eV 5)) (bNil))) (bNil)) (bNil))) (bCons (sRet (eLst [.e (eApp gSlH [.s 1, .e (eApp (g2 max2D) [.e (eC (.int 1)), .s 2])]), .e (eV 3)])) (bNil))))
noncomputable def s__law_first_taken : FS := hide (fnSem 6 2 [] d__law_first_taken)
theorem s__law_first_taken_eq : s__law_first_taken = fnSem 6 2 [] d__law_first_taken := hide_eq _
/-- def _law_written(tongue, text): : 0 tongue, 1 text, 2 done, 3 left, 4 turn, 5 taken, 6 gives -/
noncomputable def d__law_written : XS := bCons (sSet (gN 2) (eC (.str []))) (bCons (sSet (gN 3) (eV 1)) (bCons (sFor (xArgs kRange1 [.e (eApp (g1 lenD) [.s 1])]) (gN 4) (bCons (sIf (tOf (eApp gEq [.s 3, .e (eC (.str []))])) (bCons (sBk) (bNil)) (bNil)) (bCons (sSet (gT [gN 5, gN 6]) (eCall s__law_first_taken [] [.s 0, .s 3])) (bCons (sSet (gN 2) (eApp (g2 addD) [.s 2, .s 6])) (bCons (sSet (gN 3) (eApp gSlL [.s 3, .e (eApp (g1 lenD) [.s 5])])) (bNil)))))) (bCons (sRet (eM 2)) (bNil))))
noncomputable def s__law_written : FS := hide (fnSem 7 2 [] d__law_written)
theorem s__law_written_eq : s__law_written = fnSem 7 2 [] d__law_written := hide_eq _
/-- def _law_text_by(draws, letters, pieces, most): : 0 draws, 1 letters, 2 pieces, 3 most, 4 text, 5 k -/
noncomputable def d__law_text_by : XS := bCons (sSet (gN 4) (eC (.str []))) (bCons (sFor (xArgs kRange1 [.e (eCall s__law_take [0] [.s 0, .e (eC (.int 7))])]) (gN 5) (bCons (sSet (gN 4) (eApp (g2 addD) [.s 4, .e (eCall s__law_pick [0] [.s 0, .e (eApp (g2 addD) [.e (eApp (g1 listD) [.s 2]), .e (eApp gSlH [.e (eApp (g1 listD) [.s 1]), .e (eC (.int 4))])])])])) (bNil))) (bCons (sRet (eApp gSlH [.s 4, .s 3])) (bNil)))
noncomputable def s__law_text_by : FS := hide (fnSem 6 4 [0] d__law_text_by)
theorem s__law_text_by_eq : s__law_text_by = fnSem 6 4 [0] d__law_text_by := hide_eq _
/-- def _law_froms(tongues): : 0 tongues, 1 done, 2 tongue, 3 pair -/
noncomputable def d__law_froms : XS := bCons (sSet (gN 1) (eLst [])) (bCons (sFor (xSeq (eV 0)) (gN 2) (bCons (sSet (gN 1) (eApp (g2 addD) [.s 1, .e (eLc [3] (xSeq (eV 2)) (gN 3) (Wk.tYes) (eApp (g2 ixD) [.s 3, .e (eC (.int 0))]))])) (bNil))) (bCons (sRet (eM 1)) (bNil)))
noncomputable def s__law_froms : FS := hide (fnSem 4 1 [] d__law_froms)
theorem s__law_froms_eq : s__law_froms = fnSem 4 1 [] d__law_froms := hide_eq _
/-- def _law_firm(tongue, text): : 0 tongue, 1 text, 2 firm, 3 left, 4 turn, 5 pair, 6 waits, 7 taken, 8 gives -/
noncomputable def d__law_firm : XS := bCons (sSet (gN 2) (eC (.str []))) (bCons (sSet (gN 3) (eV 1)) (bCons (sFor (xArgs kRange1 [.e (eApp (g1 lenD) [.s 1])]) (gN 4) (bCons (sSet (gN 6) (eLc [5] (xSeq (eV 0)) (gN 5) (Wk.tYes) (eAnd (eApp (g2 gtD) [.e (eApp (g1 lenD) [.e (eApp (g2 ixD) [.s 5, .e (eC (.int 0))])]), .e (eApp (g1 lenD) [.s 3])]) (eApp gEq [.e (eApp gSlH [.e (eApp (g2 ixD) [.s 5, .e (eC (.int 0))]), .e (eApp (g1 lenD) [.s 3])]), .s 3])))) (bCons (sIf (Wk.tOr (tOf (eApp gEq [.s 3, .e (eC (.str []))])) (tOf (eApp (g2 inD) [.e (eC (.bl true)), .s 6]))) (bCons (sBk) (bNil)) (bNil)) (bCons (sSet (gT [gN 7, gN 8]) (eCall s__law_first_taken [] [.s 0, .s 3])) (bCons (sSet (gN 2) (eApp (g2 addD) [.s 2, .s 8])) (bCons (sSet (gN 3) (eApp gSlL [.s 3, .e (eApp (g1 lenD) [.s 7])])) (bNil))))))) (bCons (sRet (eLst [.e (eV 2), .e (eV 3)])) (bNil))))
noncomputable def s__law_firm : FS := hide (fnSem 9 2 [] d__law_firm)
theorem s__law_firm_eq : s__law_firm = fnSem 9 2 [] d__law_firm := hide_eq _
/-- def _law_chain_written(chain, text): : 0 chain, 1 text, 2 done, 3 tongue -/
noncomputable def d__law_chain_written : XS := bCons (sSet (gN 2) (eV 1)) (bCons (sFor (xSeq (eV 0)) (gN 3) (bCons (sSet (gN 2) (eCall s__law_written [] [.s 3, .s 2])) (bNil))) (bCons (sRet (eM 2)) (bNil)))
noncomputable def s__law_chain_written : FS := hide (fnSem 4 2 [] d__law_chain_written)
theorem s__law_chain_written_eq : s__law_chain_written = fnSem 4 2 [] d__law_chain_written := hide_eq _
/-- def _law_step(chain, rests, text): : 0 chain, 1 rests, 2 text, 3 done, 4 further, 5 k, 6 rest -/
noncomputable def d__law_step : XS := bCons (sSet (gN 3) (eV 2)) (bCons (sSet (gN 4) (eLst [])) (bCons (sFor (xArgs kRange1 [.e (eApp (g1 lenD) [.s 0])]) (gN 5) (bCons (sSet (gT [gN 3, gN 6]) (eCall s__law_firm [] [.e (eApp (g2 ixD) [.s 0, .s 5]), .e (eApp (g2 addD) [.e (eApp (g2 ixD) [.s 1, .s 5]), .s 3])])) (bCons (sDrop (eMut 4 isLstB muApp [.e (eV 6)])) (bNil)))) (bCons (sRet (eLst [.e (eV 3), .e (eApp (g1 tupD) [.s 4])])) (bNil))))
noncomputable def s__law_step : FS := hide (fnSem 7 3 [] d__law_step)
theorem s__law_step_eq : s__law_step = fnSem 7 3 [] d__law_step := hide_eq _
/-- def _law_end(chain, rests): : 0 chain, 1 rests, 2 done, 3 k -/
noncomputable def d__law_end : XS := bCons (sSet (gN 2) (eC (.str []))) (bCons (sFor (xArgs kRange1 [.e (eApp (g1 lenD) [.s 0])]) (gN 3) (bCons (sSet (gN 2) (eCall s__law_written [] [.e (eApp (g2 ixD) [.s 0, .s 3]), .e (eApp (g2 addD) [.e (eApp (g2 ixD) [.s 1, .s 3]), .s 2])])) (bNil))) (bCons (sRet (eM 2)) (bNil)))
noncomputable def s__law_end : FS := hide (fnSem 4 2 [] d__law_end)
theorem s__law_end_eq : s__law_end = fnSem 4 2 [] d__law_end := hide_eq _
/-- def _law_goes(chain, text, whole): : 0 chain, 1 text, 2 whole, 3 firm, 4 rests, 5 end, 6 due, 7 tongue -/
noncomputable def d__law_goes_k37 : XS := bCons (sSet (gT [gN 3, gN 4]) (eCall s__law_step [] [.s 0, .e (eApp (g2 mulD) [.e (eTup [.e (eC (.str []))]), .e (eApp (g1 lenD) [.s 0])]), .s 1])) (bCons (sIf (Wk.tNot (tOf (eCall (s__law_same 8) [] [.e (eCall s_chain_state [] [.s 0, .s 1]), .e (eTup [.e (eV 3), .e (eV 4)])]))) (bCons (sRet (eC (.bl false))) (bNil)) (bNil)) (bCons (sSet (gN 5) (eCall s_end_of_rests [] [.s 0, .s 4])) (bCons (sIf (Wk.tNot (tOf (eCall (s__law_same 8) [] [.s 5, .e (eCall s__law_end [] [.s 0, .s 4])]))) (bCons (sRet (eC (.bl false))) (bNil)) (bNil)) (bCons (sSet (gN 6) (eCall s__law_chain_written [] [.s 0, .s 1])) (bCons (sIf (Wk.tOr (Wk.tNot (tOf (eCall (s__law_same 8) [] [.e (eCall s_chain_written [] [.s 0, .s 1]), .s 6]))) (tOf (eApp gNe [.e (eApp (g2 addD) [.s 3, .s 5]), .s 6]))) (bCons (sRet (eC (.bl false))) (bNil)) (bNil)) (bCons (sIf (tOf (eApp gNe [.e (eApp gSlH [.s 2, .e (eApp (g1 lenD) [.s 3])]), .s 3])) (bCons (sRet (eC (.bl false))) (bNil)) (bNil)) (bCons (sFor (xSeq (eV 0)) (gN 7) (bCons (sIf (Wk.tNot (tOf (eCall (s__law_same 8) [] [.e (eCall s_firm_and_rest [] [.s 7, .s 1]), .e (eApp (g1 tupD) [.e (eCall s__law_firm [] [.s 7, .s 1])])]))) (bCons (sRet (eC (.bl false))) (bNil)) (bNil)) (bNil))) (bCons (sRet (eC (.bl true))) (bNil)))))))))
noncomputable def s__law_goes_k37 : FS := hide (fnSem 8 3 [] d__law_goes_k37)
theorem s__law_goes_k37_eq : s__law_goes_k37 = fnSem 8 3 [] d__law_goes_k37 := hide_eq _
end Wk
end

section
/-! the worths of defs, as printed for k38 -/
namespace Wk
open PySem PySem.Spec PyProof.Rows L2
/-- def tongue_row(store, tongues, text, k): : 0 store, 1 tongues, 2 text, 3 k, 4 tongue, 5 goals, 6 found, 7 pair, 8 goal -/
noncomputable def d_tongue_row : XS := bCons (sSet (gN 5) (eLc [4] (xSeq (eV 1)) (gN 4) (Wk.tYes) (eTup [.e (eV 4), .e (eCall s_written [] [.s 4, .s 2])]))) (bCons (sSet (gN 6) (eLst [])) (bCons (sFor (xSeq (eV 0)) (gN 7) (bCons (sIf (tOf (eApp (g1 anyD) [.e (eLc [4, 8] (xSeq (eV 5)) (gT [gN 4, gN 8]) (Wk.tYes) (eMeth isStrB (g2 startsD) (.e (eCall s_written [] [.s 4, .e (eApp (g2 ixD) [.s 7, .e (eC (.int 0))])])) [.s 8]))])) (bCons (sDrop (eMut 6 isLstB muApp [.e (eV 7)])) (bNil)) (bNil)) (bNil))) (bCons (sRet (eCall s_best_of [] [.s 6, .s 3])) (bNil))))
noncomputable def s_tongue_row : FS := hide (fnSem 9 4 [] d_tongue_row)
theorem s_tongue_row_eq : s_tongue_row = fnSem 9 4 [] d_tongue_row := hide_eq _
/-- def firm_row(store, chain, text, k): : 0 store, 1 chain, 2 text, 3 k, 4 firm, 5 pair -/
noncomputable def d_firm_row : XS := bCons (sSet (gN 4) (eApp (g2 ixD) [.e (eCall s_chain_state [] [.s 1, .s 2]), .e (eC (.int 0))])) (bCons (sRet (eCall s_best_of [] [.e (eLc [5] (xSeq (eV 0)) (gN 5) (tOf (eMeth isStrB (g2 startsD) (.e (eCall s_chain_written [] [.s 1, .e (eApp (g2 ixD) [.s 5, .e (eC (.int 0))])])) [.s 4])) (eV 5)), .s 3])) (bNil))
noncomputable def s_firm_row : FS := hide (fnSem 6 4 [] d_firm_row)
theorem s_firm_row_eq : s_firm_row = fnSem 6 4 [] d_firm_row := hide_eq _
/-- def _law_told_words(draws, letters, pieces, many): : 0 draws, 1 letters, 2 pieces, 3 many, 4 found, 5 k, 6 word -/
noncomputable def d__law_told_words : XS := bCons (sSet (gN 4) (eLst [])) (bCons (sFor (xArgs kRange1 [.e (eApp (g2 addD) [.e (eC (.int 1)), .e (eCall s__law_take [0] [.s 0, .s 3])])]) (gN 5) (bCons (sSet (gN 6) (eApp (g2 addD) [.e (eCall s__law_text_by [0] [.s 0, .s 1, .s 2, .e (eC (.int 20))]), .e (eCall s__law_pick [0] [.s 0, .s 1])])) (bCons (sIf (Wk.tAnd (tOf (eApp (g2 gtD) [.e (eApp (g1 lenD) [.s 4]), .e (eC (.int 0))])) (tOf (eApp gEq [.e (eCall s__law_take [0] [.s 0, .e (eC (.int 3))]), .e (eC (.int 0))]))) (bCons (sSet (gN 6) (eApp (g2 addD) [.e (eCall s__law_pick [0] [.s 0, .s 4]), .e (eCall s__law_pick [0] [.s 0, .s 1])])) (bNil)) (bNil)) (bCons (sSet (gN 6) (eApp gSlH [.s 6, .e (eC (.int 19))])) (bCons (sIf (tOf (eApp (g2 notInD) [.s 6, .s 4])) (bCons (sDrop (eMut 4 isLstB muApp [.e (eV 6)])) (bNil)) (bNil)) (bNil)))))) (bCons (sRet (eApp (g1 tupD) [.e (eApp (g1 sortD) [.s 4])])) (bNil)))
noncomputable def s__law_told_words : FS := hide (fnSem 7 4 [0] d__law_told_words)
theorem s__law_told_words_eq : s__law_told_words = fnSem 7 4 [0] d__law_told_words := hide_eq _
/-- def _law_firm_row(store, chain, text, k): : 0 store, 1 chain, 2 text, 3 k, 4 firm, 5 pair, 6 pairs -/
noncomputable def d__law_firm_row : XS := bCons (sSet (gN 4) (eApp (g2 ixD) [.e (eCall s__law_step [] [.s 1, .e (eApp (g2 mulD) [.e (eTup [.e (eC (.str []))]), .e (eApp (g1 lenD) [.s 1])]), .s 2]), .e (eC (.int 0))])) (bCons (sSet (gN 6) (eLc [5] (xSeq (eV 0)) (gN 5) (tOf (eApp gEq [.e (eApp gSlH [.e (eCall s__law_chain_written [] [.s 1, .e (eApp (g2 ixD) [.s 5, .e (eC (.int 0))])]), .e (eApp (g1 lenD) [.s 4])]), .s 4])) (eV 5))) (bCons (sRet (eCall s__law_best [] [.s 6, .s 3])) (bNil)))
noncomputable def s__law_firm_row : FS := hide (fnSem 7 4 [] d__law_firm_row)
theorem s__law_firm_row_eq : s__law_firm_row = fnSem 7 4 [] d__law_firm_row := hide_eq _
/-- def _law_goes(store, chain, text, k): : 0 store, 1 chain, 2 text, 3 k, 4 due, 5 plain -/
noncomputable def d__law_goes_k38 : XS := bCons (sSet (gN 4) (eCall s__law_firm_row [] [.s 0, .s 1, .s 2, .s 3])) (bCons (sIf (Wk.tNot (tOf (eCall (s__law_same 8) [] [.e (eCall s_firm_row [] [.s 0, .s 1, .s 2, .s 3]), .s 4]))) (bCons (sRet (eC (.bl false))) (bNil)) (bNil)) (bCons (sSet (gN 5) (eCall s__law_row [] [.s 0, .s 2, .s 3])) (bCons (sIf (Wk.tOr (Wk.tNot (tOf (eCall (s__law_same 8) [] [.e (eCall s_firm_row [] [.s 0, .e (eApp (g2 mulD) [.e (eTup [.e (eTup [])]), .e (eApp (g1 lenD) [.s 1])]), .s 2, .s 3]), .s 5]))) (Wk.tNot (tOf (eCall (s__law_same 8) [] [.e (eCall s_row [] [.s 0, .s 2, .s 3]), .s 5])))) (bCons (sRet (eC (.bl false))) (bNil)) (bNil)) (bCons (sIf (Wk.tAnd (tOf (eApp gEq [.e (eApp (g1 lenD) [.s 1]), .e (eC (.int 1))])) (tOf (eApp gEq [.e (eApp (g2 ixD) [.e (eCall s__law_firm [] [.e (eApp (g2 ixD) [.s 1, .e (eC (.int 0))]), .s 2]), .e (eC (.int 1))]), .e (eC (.str []))]))) (bCons (sRet (eCall (s__law_same 8) [] [.e (eCall s_tongue_row [] [.s 0, .s 1, .s 2, .s 3]), .s 4])) (bNil)) (bNil)) (bCons (sRet (eC (.bl true))) (bNil))))))
noncomputable def s__law_goes_k38 : FS := hide (fnSem 6 4 [] d__law_goes_k38)
theorem s__law_goes_k38_eq : s__law_goes_k38 = fnSem 6 4 [] d__law_goes_k38 := hide_eq _
end Wk
end

section
/-! the worths of defs, as printed for k29 -/
namespace Wk
open PySem PySem.Spec PyProof.Rows L2
/-- def unsafe_beginning(store, tongue): : 0 store, 1 tongue, 2 word, 3 _, 4 whole, 5 beginning -/
noncomputable def d_unsafe_beginning : XS := bCons (sFor (xSeq (eV 0)) (gT [gN 2, gN 3]) (bCons (sSet (gN 4) (eCall s_written [] [.s 1, .s 2])) (bCons (sFor (xSeq (eCall s_beginnings [] [.s 2])) (gN 5) (bCons (sIf (Wk.tNot (tOf (eMeth isStrB (g2 startsD) (.s 4) [.e (eCall s_written [] [.s 1, .s 5])]))) (bCons (sRet (eTup [.e (eV 2), .e (eV 5)])) (bNil)) (bNil)) (bNil))) (bNil)))) (bCons (sRet (eC .non)) (bNil))
noncomputable def s_unsafe_beginning : FS := hide (fnSem 6 2 [] d_unsafe_beginning)
theorem s_unsafe_beginning_eq : s_unsafe_beginning = fnSem 6 2 [] d_unsafe_beginning := hide_eq _
/-- def is_safe_tongue(store, tongue): : 0 store, 1 tongue -/
noncomputable def d_is_safe_tongue : XS := bCons (sRet (eApp (g2 isND) [.e (eCall s_unsafe_beginning [] [.s 0, .s 1]), .e (eC .non)])) (bNil)
noncomputable def s_is_safe_tongue : FS := hide (fnSem 2 2 [] d_is_safe_tongue)
theorem s_is_safe_tongue_eq : s_is_safe_tongue = fnSem 2 2 [] d_is_safe_tongue := hide_eq _
/-- def _law_unsafe(words, tongue): : 0 words, 1 tongue, 2 word, 3 whole, 4 begin, 5 part -/
noncomputable def d__law_unsafe : XS := bCons (sFor (xSeq (eV 0)) (gN 2) (bCons (sSet (gN 3) (eCall s__law_written [] [.s 1, .s 2])) (bCons (sFor (xSeq (eCall s__law_begun [] [.s 2])) (gN 4) (bCons (sSet (gN 5) (eCall s__law_written [] [.s 1, .s 4])) (bCons (sIf (tOf (eApp gNe [.e (eApp gSlH [.s 3, .e (eApp (g1 lenD) [.s 5])]), .s 5])) (bCons (sRet (eTup [.e (eV 2), .e (eV 4)])) (bNil)) (bNil)) (bNil)))) (bNil)))) (bCons (sRet (eC .non)) (bNil))
noncomputable def s__law_unsafe : FS := hide (fnSem 6 2 [] d__law_unsafe)
theorem s__law_unsafe_eq : s__law_unsafe = fnSem 6 2 [] d__law_unsafe := hide_eq _
/-- def _law_goes(draws, store, tongue): : 0 draws, 1 store, 2 tongue, 3 due, 4 k, 5 word, 6 words -/
noncomputable def d__law_goes_k29 : XS := bCons (sSet (gN 3) (eCall s__law_unsafe [] [.e (eCall s__law_words_of [] [.s 1]), .s 2])) (bCons (sIf (Wk.tNot (tOf (eCall (s__law_same 8) [] [.e (eCall s_is_safe_tongue [] [.s 1, .s 2]), .e (eApp (g2 isND) [.s 3, .e (eC .non)])]))) (bCons (sRet (eC (.bl false))) (bNil)) (bNil)) (bCons (sIf (Wk.tNot (tOf (eCall (s__law_same 8) [] [.e (eCall s_unsafe_beginning [] [.s 1, .s 2]), .s 3]))) (bCons (sRet (eC (.bl false))) (bNil)) (bNil)) (bCons (sIf (tOf (eApp (g2 notND) [.s 3, .e (eC .non)])) (bCons (sRet (eC (.bl true))) (bNil)) (bNil)) (bCons (sFor (xArgs kRange1 [.e (eC (.int 2))]) (gN 4) (bCons (sSet (gN 5) (eApp (g2 ixD) [.e (eCall s__law_pick [0] [.s 0, .s 1]), .e (eC (.int 0))])) (bCons (sSet (gN 6) (eCall s_tongue_row [] [.s 1, .e (eTup [.e (eV 2)]), .e (eApp gSlH [.s 5, .e (eCall s__law_take [0] [.s 0, .e (eApp (g2 addD) [.e (eApp (g1 lenD) [.s 5]), .e (eC (.int 1))])])]), .e (eC (.int 10))])) (bCons (sIf (Wk.tOr (Wk.tNot (tOf (eApp (g1 (isiD ["tuple"])) [.s 6]))) (tOf (eApp (g2 notInD) [.s 5, .s 6]))) (bCons (sRet (eC (.bl false))) (bNil)) (bNil)) (bNil))))) (bCons (sRet (eC (.bl true))) (bNil))))))
noncomputable def s__law_goes_k29 : FS := hide (fnSem 7 3 [0] d__law_goes_k29)
theorem s__law_goes_k29_eq : s__law_goes_k29 = fnSem 7 3 [0] d__law_goes_k29 := hide_eq _
/-- def _law_first_half(script): : 0 script, 1 draws, 2 turn, 3 letters, 4 tongue, 5 store, 6 letter, 7 single -/
noncomputable def d__law_first_half : XS := bCons (sSet (gN 1) (eCall s__law_draws [] [.s 0, .e (eC (.int 700))])) (bCons (sFor (xArgs kRange1 [.e (eC (.int 3))]) (gN 2) (bCons (sSet (gN 3) (eCall s__law_letters [0] [.s 1])) (bCons (sSet (gN 4) (eCall s__law_tongue [0] [.s 1, .s 3, .e (eC (.int 6)), .e (eC (.int 3))])) (bCons (sSet (gN 5) (eCall s__law_store_of [0] [.s 1, .e (eCall s__law_told_words [0] [.s 1, .s 3, .e (eCall s__law_froms [] [.e (eLst [.e (eV 4)])]), .e (eC (.int 6))])])) (bCons (sIf (Wk.tNot (tOf (eCall s__law_goes_k29 [0] [.s 1, .s 5, .s 4]))) (bCons (sRet (eC (.bl false))) (bNil)) (bNil)) (bCons (sSet (gN 7) (eApp (g1 tupD) [.e (eLc [6] (xSeq (eApp gSlH [.s 3, .e (eC (.int 12))])) (gN 6) (Wk.tYes) (eTup [.e (eV 6), .e (eCall s__law_text_of [0] [.s 1, .s 3, .e (eC (.int 4))])]))])) (bCons (sIf (Wk.tOr (tOf (eApp (g2 notND) [.e (eCall s__law_unsafe [] [.e (eCall s__law_words_of [] [.s 5]), .s 7]), .e (eC .non)])) (Wk.tNot (tOf (eCall s__law_goes_k29 [0] [.s 1, .s 5, .s 7])))) (bCons (sRet (eC (.bl false))) (bNil)) (bNil)) (bNil)))))))) (bCons (sRet (eAnd (eCall (s__law_same 8) [] [.e (eCall s_is_safe_tongue [] [.e (eTup []), .s 4]), .e (eC (.bl true))]) (eApp (g2 isND) [.e (eCall s_unsafe_beginning [] [.e (eTup []), .s 4]), .e (eC .non)]))) (bNil)))
noncomputable def s__law_first_half : FS := hide (fnSem 8 1 [] d__law_first_half)
theorem s__law_first_half_eq : s__law_first_half = fnSem 8 1 [] d__law_first_half := hide_eq _
/-- def _law_shuffled(draws, line): : 0 draws, 1 line, 2 left, 3 done, 4 k -/
noncomputable def d__law_shuffled : XS := bCons (sSet (gN 2) (eApp (g1 listD) [.s 1])) (bCons (sSet (gN 3) (eLst [])) (bCons (sFor (xArgs kRange1 [.e (eApp (g1 lenD) [.s 2])]) (gN 4) (bCons (sDrop (eMut 3 isLstB muApp [.e (eFz (eMut 2 isLstB muPopAt [.e (eFz (eCall s__law_take [0] [.s 0, .e (eApp (g1 lenD) [.s 2])]))]))])) (bNil))) (bCons (sRet (eM 3)) (bNil))))
noncomputable def s__law_shuffled : FS := hide (fnSem 5 2 [0] d__law_shuffled)
theorem s__law_shuffled_eq : s__law_shuffled = fnSem 5 2 [0] d__law_shuffled := hide_eq _
/-- def _law_long_tongue(draws, letters): : 0 draws, 1 letters, 2 pairs, 3 k, 4 begin, 5 pair -/
noncomputable def d__law_long_tongue : XS := bCons (sSet (gN 2) (eApp (g1 listD) [.e (eCall s__law_tongue [0] [.s 0, .s 1, .e (eC (.int 8)), .e (eC (.int 3))])])) (bCons (sFor (xArgs kRange1 [.e (eC (.int 4))]) (gN 3) (bCons (sSet (gN 4) (eApp (g2 addD) [.e (eCall s__law_text_of [0] [.s 0, .s 1, .e (eC (.int 19))]), .e (eCall s__law_pick [0] [.s 0, .s 1])])) (bCons (sIf (tOf (eApp (g2 notInD) [.s 4, .e (eLend 2 [] (eLc [5] (xSeq (eV 2)) (gN 5) (Wk.tYes) (eApp (g2 ixD) [.s 5, .e (eC (.int 0))])))])) (bCons (sDrop (eMut 2 isLstB muApp [.e (eFz (eTup [.e (eV 4), .e (eCall s__law_text_of [0] [.s 0, .s 1, .e (eC (.int 20))])]))])) (bNil)) (bNil)) (bNil)))) (bCons (sRet (eApp (g1 tupD) [.e (eCall s__law_shuffled [0] [.s 0, .s 2])])) (bNil)))
noncomputable def s__law_long_tongue : FS := hide (fnSem 6 2 [0] d__law_long_tongue)
theorem s__law_long_tongue_eq : s__law_long_tongue = fnSem 6 2 [0] d__law_long_tongue := hide_eq _
/-- def _law_goes_too(draws, letters, tongue): : 0 draws, 1 letters, 2 tongue, 3 turned, 4 k, 5 pair, 6 text, 7 due -/
noncomputable def d__law_goes_too : XS := bCons (sSet (gN 3) (eApp (g1 tupD) [.e (eCall s__law_shuffled [0] [.s 0, .e (eApp (g1 listD) [.s 2])])])) (bCons (sFor (xArgs kRange1 [.e (eC (.int 3))]) (gN 4) (bCons (sSet (gN 6) (eCall s__law_text_by [0] [.s 0, .s 1, .e (eLc [5] (xSeq (eV 2)) (gN 5) (Wk.tYes) (eApp (g2 ixD) [.s 5, .e (eC (.int 0))])), .e (eC (.int 20))])) (bCons (sSet (gN 7) (eCall s__law_written [] [.s 2, .s 6])) (bCons (sIf (Wk.tOr (Wk.tNot (tOf (eCall (s__law_same 8) [] [.e (eCall s_written [] [.s 2, .s 6]), .s 7]))) (Wk.tNot (tOf (eCall (s__law_same 8) [] [.e (eCall s_written [] [.s 3, .s 6]), .s 7])))) (bCons (sRet (eC (.bl false))) (bNil)) (bNil)) (bCons (sIf (Wk.tNot (tOf (eCall (s__law_same 8) [] [.e (eCall s_written [] [.e (eTup []), .s 6]), .s 6]))) (bCons (sRet (eC (.bl false))) (bNil)) (bNil)) (bNil)))))) (bCons (sRet (eCall (s__law_same 8) [] [.e (eCall s_written [] [.s 2, .e (eC (.str []))]), .e (eC (.str []))])) (bNil)))
noncomputable def s__law_goes_too : FS := hide (fnSem 8 3 [0] d__law_goes_too)
theorem s__law_goes_too_eq : s__law_goes_too = fnSem 8 3 [0] d__law_goes_too := hide_eq _
/-- def _law_second_half(script): : 0 script, 1 draws, 2 turn, 3 letters -/
noncomputable def d__law_second_half : XS := bCons (sSet (gN 1) (eCall s__law_draws [] [.s 0, .e (eC (.int 700))])) (bCons (sFor (xArgs kRange1 [.e (eC (.int 3))]) (gN 2) (bCons (sSet (gN 3) (eCall s__law_letters [0] [.s 1])) (bCons (sIf (Wk.tNot (tOf (eCall s__law_goes_too [0] [.s 1, .s 3, .e (eCall s__law_tongue [0] [.s 1, .s 3, .e (eApp (g2 addD) [.e (eC (.int 1)), .e (eApp (g2 mulD) [.e (eC (.int 4)), .s 2])]), .e (eApp (g2 addD) [.e (eC (.int 1)), .s 2])])]))) (bCons (sRet (eC (.bl false))) (bNil)) (bNil)) (bNil)))) (bCons (sRet (eCall s__law_goes_too [0] [.s 1, .s 3, .e (eCall s__law_long_tongue [0] [.s 1, .s 3])])) (bNil)))
noncomputable def s__law_second_half : FS := hide (fnSem 4 1 [] d__law_second_half)
theorem s__law_second_half_eq : s__law_second_half = fnSem 4 1 [] d__law_second_half := hide_eq _
end Wk
end

section
/-! the worths of defs, as printed for k64 -/
namespace Wk
open PySem PySem.Spec PyProof.Rows L2
/-- def compare_words(store, one, other): : 0 store, 1 one, 2 other, 3 first, 4 second -/
noncomputable def d_compare_words : XS := bCons (sSet (gN 3) (eCall s_rank_of [] [.e (eTup [.e (eV 1), .e (eCall s_worth_of [] [.s 0, .s 1])])])) (bCons (sSet (gN 4) (eCall s_rank_of [] [.e (eTup [.e (eV 2), .e (eCall s_worth_of [] [.s 0, .s 2])])])) (bCons (sIf (tOf (eApp gEq [.s 3, .s 4])) (bCons (sRet (eC (.int 0))) (bNil)) (bNil)) (bCons (sRet (eIf (tOf (eApp (g2 ltD) [.s 3, .s 4])) (eApp (g1 negD) [.e (eC (.int 1))]) (eC (.int 1)))) (bNil))))
noncomputable def s_compare_words : FS := hide (fnSem 5 3 [] d_compare_words)
theorem s_compare_words_eq : s_compare_words = fnSem 5 3 [] d_compare_words := hide_eq _
/-- def worlds_of(worlds, seen, k): : 0 worlds, 1 seen, 2 k, 3 index, 4 world, 5 text, 6 answer -/
noncomputable def d_worlds_of : XS := bCons (sRet (eApp (g1 tupD) [.e (eLc [3, 4] (xEnum (eV 0)) (gT [gN 3, gN 4]) (tOf (eApp (g1 allD) [.e (eLc [5, 6] (xSeq (eV 1)) (gT [gN 5, gN 6]) (Wk.tYes) (eApp gEq [.e (eCall s_row [] [.s 4, .s 5, .s 2]), .s 6]))])) (eV 3))])) (bNil)
noncomputable def s_worlds_of : FS := hide (fnSem 7 3 [] d_worlds_of)
theorem s_worlds_of_eq : s_worlds_of = fnSem 7 3 [] d_worlds_of := hide_eq _
/-- def says_world(world, k, question): : 0 world, 1 k, 2 question, 3 _, 4 one, 5 other -/
noncomputable def d_says_world : XS := bCons (sIf (tOf (eApp gEq [.e (eApp (g2 ixD) [.s 2, .e (eC (.int 0))]), .e (eC (.str [104, 97, 115]))])) (bCons (sRet (eApp (g2 notND) [.e (eCall s_worth_of [] [.s 0, .e (eApp (g2 ixD) [.s 2, .e (eC (.int 1))])]), .e (eC .non)])) (bNil)) (bNil)) (bCons (sSet (gT [gN 3, gN 4, gN 5]) (eV 2)) (bCons (sIf (tOf (eApp gEq [.e (eApp (g2 ixD) [.s 2, .e (eC (.int 0))]), .e (eC (.str [114, 111, 119]))])) (bCons (sRet (eApp gEq [.e (eCall s_row [] [.s 0, .s 4, .s 1]), .s 5])) (bNil)) (bNil)) (bCons (sIf (Wk.tOr (tOf (eApp (g2 isND) [.e (eCall s_worth_of [] [.s 0, .s 4]), .e (eC .non)])) (tOf (eApp (g2 isND) [.e (eCall s_worth_of [] [.s 0, .s 5]), .e (eC .non)]))) (bCons (sRet (eC (.bl false))) (bNil)) (bNil)) (bCons (sRet (eApp gEq [.e (eCall s_compare_words [] [.s 0, .s 4, .s 5]), .e (eApp (g1 negD) [.e (eC (.int 1))])])) (bNil)))))
noncomputable def s_says_world : FS := hide (fnSem 6 3 [] d_says_world)
theorem s_says_world_eq : s_says_world = fnSem 6 3 [] d_says_world := hide_eq _
/-- def said_by(worlds, seen, k, question): : 0 worlds, 1 seen, 2 k, 3 question, 4 yes, 5 no, 6 index -/
noncomputable def d_said_by : XS := bCons (sSet (gN 4) (eLst [])) (bCons (sSet (gN 5) (eLst [])) (bCons (sFor (xSeq (eCall s_worlds_of [] [.s 0, .s 1, .s 2])) (gN 6) (bCons (sIf (tOf (eCall s_says_world [] [.e (eApp (g2 ixD) [.s 0, .s 6]), .s 2, .s 3])) (bCons (sDrop (eMut 4 isLstB muApp [.e (eV 6)])) (bNil)) (bCons (sDrop (eMut 5 isLstB muApp [.e (eV 6)])) (bNil))) (bNil))) (bCons (sRet (eTup [.e (eV 4), .e (eV 5)])) (bNil))))
noncomputable def s_said_by : FS := hide (fnSem 7 4 [] d_said_by)
theorem s_said_by_eq : s_said_by = fnSem 7 4 [] d_said_by := hide_eq _
/-- def told(worlds, seen, k, question): : 0 worlds, 1 seen, 2 k, 3 question, 4 yes, 5 no -/
noncomputable def d_told : XS := bCons (sSet (gT [gN 4, gN 5]) (eCall s_said_by [] [.s 0, .s 1, .s 2, .s 3])) (bCons (sIf (tOf (eApp gEq [.e (eApp (g1 boolD) [.s 4]), .e (eApp (g1 boolD) [.s 5])])) (bCons (sRet (eC .non)) (bNil)) (bNil)) (bCons (sRet (eApp (g1 boolD) [.s 4])) (bNil)))
noncomputable def s_told : FS := hide (fnSem 6 4 [] d_told)
theorem s_told_eq : s_told = fnSem 6 4 [] d_told := hide_eq _
/-- def twins(worlds, seen, k, question): : 0 worlds, 1 seen, 2 k, 3 question, 4 yes, 5 no -/
noncomputable def d_twins : XS := bCons (sSet (gT [gN 4, gN 5]) (eCall s_said_by [] [.s 0, .s 1, .s 2, .s 3])) (bCons (sIf (Wk.tOr (Wk.tNot (tTru (eV 4))) (Wk.tNot (tTru (eV 5)))) (bCons (sRet (eC .non)) (bNil)) (bNil)) (bCons (sRet (eTup [.e (eApp (g2 ixD) [.s 4, .e (eC (.int 0))]), .e (eApp (g2 ixD) [.s 5, .e (eC (.int 0))])])) (bNil)))
noncomputable def s_twins : FS := hide (fnSem 6 4 [] d_twins)
theorem s_twins_eq : s_twins = fnSem 6 4 [] d_twins := hide_eq _
/-- def _law_wrong_row(draws, store, text, line, k): : 0 draws, 1 store, 2 text, 3 line, 4 k, 5 way, 6 pair -/
noncomputable def d__law_wrong_row : XS := bCons (sSet (gN 5) (eCall s__law_take [0] [.s 0, .e (eC (.int 5))])) (bCons (sIf (tOf (eApp gEq [.s 5, .e (eC (.int 0))])) (bCons (sRet (eCall s__law_row [] [.s 1, .e (eApp gSlH [.s 2, .e (eApp (g2 subD) [.e (eApp (g1 lenD) [.s 2]), .e (eC (.int 1))])]), .s 4])) (bNil)) (bNil)) (bCons (sIf (tOf (eApp gEq [.s 5, .e (eC (.int 1))])) (bCons (sRet (eApp (g1 tupD) [.e (eApp (g1 revD) [.e (eApp (g1 listD) [.s 3])])])) (bNil)) (bNil)) (bCons (sIf (tOf (eApp gEq [.s 5, .e (eC (.int 2))])) (bCons (sRet (eApp gSlH [.s 3, .e (eApp (g2 subD) [.e (eApp (g1 lenD) [.s 3]), .e (eC (.int 1))])])) (bNil)) (bNil)) (bCons (sIf (tOf (eApp gEq [.s 5, .e (eC (.int 3))])) (bCons (sRet (eApp gSlH [.e (eApp (g2 addD) [.s 3, .e (eTup [.e (eApp (g2 addD) [.s 2, .e (eC (.str [113]))])])]), .s 4])) (bNil)) (bNil)) (bCons (sRet (eCall s__law_best [] [.e (eLc [6] (xSeq (eCall s__law_behind [] [.s 1, .s 2])) (gN 6) (Wk.tYes) (eTup [.e (eApp (g2 ixD) [.s 6, .e (eC (.int 0))]), .e (eApp (g2 subD) [.e (eC (.int 0)), .e (eApp (g2 ixD) [.s 6, .e (eC (.int 1))])])])), .s 4])) (bNil))))))
noncomputable def s__law_wrong_row : FS := hide (fnSem 7 5 [0] d__law_wrong_row)
theorem s__law_wrong_row_eq : s__law_wrong_row = fnSem 7 5 [0] d__law_wrong_row := hide_eq _
/-- def _law_worlds(draws, letters, many): : 0 draws, 1 letters, 2 many, 3 found, 4 k, 5 store, 6 turn -/
noncomputable def d__law_worlds : XS := bCons (sSet (gN 3) (eLst [.e (eCall s__law_store [0] [.s 0, .s 1, .e (eC (.int 5))])])) (bCons (sFor (xArgs kRange1 [.e (eCall s__law_take [0] [.s 0, .s 2])]) (gN 4) (bCons (sSet (gN 5) (eCall s__law_pick [0] [.s 0, .s 3])) (bCons (sFor (xArgs kRange1 [.e (eApp (g2 addD) [.e (eC (.int 1)), .e (eCall s__law_take [0] [.s 0, .e (eC (.int 2))])])]) (gN 6) (bCons (sSet (gN 5) (eCall s__law_changed [] [.s 5, .e (eCall s__law_change [0] [.s 0, .s 1, .s 5])])) (bNil))) (bCons (sIf (tOf (eApp (g2 notInD) [.s 5, .s 3])) (bCons (sDrop (eMut 3 isLstB muApp [.e (eV 5)])) (bNil)) (bNil)) (bNil))))) (bCons (sRet (eApp (g1 tupD) [.s 3])) (bNil)))
noncomputable def s__law_worlds : FS := hide (fnSem 7 3 [0] d__law_worlds)
theorem s__law_worlds_eq : s__law_worlds = fnSem 7 3 [0] d__law_worlds := hide_eq _
/-- def _law_seen(draws, letters, worlds, k, wrong): : 0 draws, 1 letters, 2 worlds, 3 k, 4 wrong, 5 store, 6 found, 7 turn, 8 text, 9 line -/
noncomputable def d__law_seen : XS := bCons (sSet (gN 5) (eCall s__law_pick [0] [.s 0, .s 2])) (bCons (sSet (gN 6) (eLst [])) (bCons (sFor (xArgs kRange1 [.e (eCall s__law_take [0] [.s 0, .e (eC (.int 4))])]) (gN 7) (bCons (sSet (gN 8) (eCall s__law_typed [0] [.s 0, .s 1, .e (eCall s__law_words_of [] [.s 5])])) (bCons (sSet (gN 9) (eCall s__law_row [] [.s 5, .s 8, .s 3])) (bCons (sIf (Wk.tAnd (tOf (eApp (g2 gtD) [.s 4, .e (eC (.int 0))])) (tOf (eApp gEq [.e (eCall s__law_take [0] [.s 0, .s 4]), .e (eC (.int 0))]))) (bCons (sSet (gN 9) (eCall s__law_wrong_row [0] [.s 0, .s 5, .s 8, .s 9, .s 3])) (bNil)) (bNil)) (bCons (sDrop (eMut 6 isLstB muApp [.e (eFz (eTup [.e (eV 8), .e (eV 9)]))])) (bNil)))))) (bCons (sRet (eApp (g1 tupD) [.s 6])) (bNil))))
noncomputable def s__law_seen : FS := hide (fnSem 10 5 [0] d__law_seen)
theorem s__law_seen_eq : s__law_seen = fnSem 10 5 [0] d__law_seen := hide_eq _
/-- def _law_shows(store, pairs, k): : 0 store, 1 pairs, 2 k, 3 pair -/
noncomputable def d__law_shows : XS := bCons (sRet (eApp (g2 notInD) [.e (eC (.bl false)), .e (eLc [3] (xSeq (eV 1)) (gN 3) (Wk.tYes) (eCall (s__law_same 8) [] [.e (eCall s__law_row [] [.s 0, .e (eApp (g2 ixD) [.s 3, .e (eC (.int 0))]), .s 2]), .e (eApp (g2 ixD) [.s 3, .e (eC (.int 1))])]))])) (bNil)
noncomputable def s__law_shows : FS := hide (fnSem 4 3 [] d__law_shows)
theorem s__law_shows_eq : s__law_shows = fnSem 4 3 [] d__law_shows := hide_eq _
/-- def _law_says(store, k, question): : 0 store, 1 k, 2 question, 3 one, 4 other -/
noncomputable def d__law_says : XS := bCons (sIf (tOf (eApp gEq [.e (eApp (g2 ixD) [.s 2, .e (eC (.int 0))]), .e (eC (.str [104, 97, 115]))])) (bCons (sRet (eApp (g2 inD) [.e (eApp (g2 ixD) [.s 2, .e (eC (.int 1))]), .e (eCall s__law_words_of [] [.s 0])])) (bNil)) (bNil)) (bCons (sIf (tOf (eApp gEq [.e (eApp (g2 ixD) [.s 2, .e (eC (.int 0))]), .e (eC (.str [114, 111, 119]))])) (bCons (sRet (eApp gEq [.e (eCall s__law_row [] [.s 0, .e (eApp (g2 ixD) [.s 2, .e (eC (.int 1))]), .s 1]), .e (eApp (g2 ixD) [.s 2, .e (eC (.int 2))])])) (bNil)) (bNil)) (bCons (sSet (gN 3) (eCall s__law_worth_in [] [.s 0, .e (eApp (g2 ixD) [.s 2, .e (eC (.int 1))])])) (bCons (sSet (gN 4) (eCall s__law_worth_in [] [.s 0, .e (eApp (g2 ixD) [.s 2, .e (eC (.int 2))])])) (bCons (sIf (Wk.tOr (tOf (eApp (g2 isND) [.s 3, .e (eC .non)])) (tOf (eApp (g2 isND) [.s 4, .e (eC .non)]))) (bCons (sRet (eC (.bl false))) (bNil)) (bNil)) (bCons (sRet (eApp (g2 ltD) [.e (eTup [.e (eApp (g2 subD) [.e (eC (.int 0)), .s 3]), .e (eApp (g2 ixD) [.s 2, .e (eC (.int 1))])]), .e (eTup [.e (eApp (g2 subD) [.e (eC (.int 0)), .s 4]), .e (eApp (g2 ixD) [.s 2, .e (eC (.int 2))])])])) (bNil))))))
noncomputable def s__law_says : FS := hide (fnSem 5 3 [] d__law_says)
theorem s__law_says_eq : s__law_says = fnSem 5 3 [] d__law_says := hide_eq _
/-- def _law_questions(draws, letters, worlds, k): : 0 draws, 1 letters, 2 worlds, 3 k, 4 words, 5 found, 6 turn, 7 one, 8 store, 9 text -/
noncomputable def d__law_questions : XS := bCons (sSet (gN 4) (eApp (g1 listD) [.e (eCall s__law_words_of [] [.e (eApp (g2 addD) [.e (eCall s__law_pick [0] [.s 0, .s 2]), .e (eCall s__law_pick [0] [.s 0, .s 2])])])])) (bCons (sDrop (eMut 4 isLstB muApp [.e (eFz (eCall s__law_word [0] [.s 0, .s 1]))])) (bCons (sSet (gN 5) (eLst [])) (bCons (sFor (xArgs kRange1 [.e (eC (.int 3))]) (gN 6) (bCons (sSet (gN 7) (eCall s__law_pick [0] [.s 0, .s 4])) (bCons (sDrop (eMut 5 isLstB muApp [.e (eFz (eTup [.e (eC (.str [104, 97, 115])), .e (eV 7)]))])) (bCons (sDrop (eMut 5 isLstB muApp [.e (eFz (eTup [.e (eC (.str [98, 101, 116, 116, 101, 114])), .e (eV 7), .e (eCall s__law_pick [0] [.s 0, .s 4])]))])) (bCons (sSet (gN 8) (eCall s__law_pick [0] [.s 0, .s 2])) (bCons (sSet (gN 9) (eCall s__law_typed [0] [.s 0, .s 1, .s 4])) (bCons (sDrop (eMut 5 isLstB muApp [.e (eFz (eTup [.e (eC (.str [114, 111, 119])), .e (eV 9), .e (eCall s__law_row [] [.s 8, .s 9, .e (eCall s__law_pick [0] [.s 0, .e (eLst [.e (eV 3), .e (eV 3), .e (eV 3), .e (eC (.int 1))])])])]))])) (bNil)))))))) (bCons (sRet (eM 5)) (bNil)))))
noncomputable def s__law_questions : FS := hide (fnSem 10 4 [0] d__law_questions)
theorem s__law_questions_eq : s__law_questions = fnSem 10 4 [0] d__law_questions := hide_eq _
/-- def _law_goes(worlds, seen, k, question): : 0 worlds, 1 seen, 2 k, 3 question, 4 n, 5 left, 6 yes, 7 no, 8 due, 9 pair -/
noncomputable def d__law_goes_k64 : XS := bCons (sSet (gN 5) (eLc [4] (xArgs kRange1 [.e (eApp (g1 lenD) [.s 0])]) (gN 4) (tOf (eCall s__law_shows [] [.e (eApp (g2 ixD) [.s 0, .s 4]), .s 1, .s 2])) (eV 4))) (bCons (sSet (gN 6) (eLc [4] (xSeq (eV 5)) (gN 4) (tOf (eCall s__law_says [] [.e (eApp (g2 ixD) [.s 0, .s 4]), .s 2, .s 3])) (eV 4))) (bCons (sSet (gN 7) (eLc [4] (xSeq (eV 5)) (gN 4) (tOf (eApp (g2 notInD) [.s 4, .s 6])) (eV 4))) (bCons (sSet (gN 8) (eC .non)) (bCons (sSet (gN 9) (eC .non)) (bCons (sIf (Wk.tAnd (tOf (eApp (g2 gtD) [.e (eApp (g1 lenD) [.s 6]), .e (eC (.int 0))])) (tOf (eApp (g2 gtD) [.e (eApp (g1 lenD) [.s 7]), .e (eC (.int 0))]))) (bCons (sSet (gN 9) (eTup [.e (eApp (g2 ixD) [.s 6, .e (eC (.int 0))]), .e (eApp (g2 ixD) [.s 7, .e (eC (.int 0))])])) (bNil)) (bCons (sIf (tOf (eApp (g2 gtD) [.e (eApp (g1 lenD) [.s 5]), .e (eC (.int 0))])) (bCons (sSet (gN 8) (eApp (g2 gtD) [.e (eApp (g1 lenD) [.s 6]), .e (eC (.int 0))])) (bNil)) (bNil)) (bNil))) (bCons (sRet (eAnd (eCall (s__law_same 8) [] [.e (eCall s_told [] [.s 0, .s 1, .s 2, .s 3]), .s 8]) (eCall (s__law_same 8) [] [.e (eCall s_twins [] [.s 0, .s 1, .s 2, .s 3]), .s 9]))) (bNil)))))))
noncomputable def s__law_goes_k64 : FS := hide (fnSem 10 4 [] d__law_goes_k64)
theorem s__law_goes_k64_eq : s__law_goes_k64 = fnSem 10 4 [] d__law_goes_k64 := hide_eq _
end Wk
end

section
/-! the worths of defs, as printed for k01 -/
namespace Wk
open PySem PySem.Spec PyProof.Rows L2
/-- def nodes(store): : 0 store, 1 word, 2 _, 3 text -/
noncomputable def d_nodes : XS := bCons (sRet (eApp (g1 tupD) [.e (eSortSC [1, 2, 3] [3] (xSeq (eV 0)) (gT [gN 1, gN 2]) (Wk.tYes) (xSeq (eCall s_beginnings [] [.s 1])) (gN 3) (Wk.tYes) (eV 3))])) (bNil)
noncomputable def s_nodes : FS := hide (fnSem 4 1 [] d_nodes)
theorem s_nodes_eq : s_nodes = fnSem 4 1 [] d_nodes := hide_eq _
/-- def node_worth(store, node): : 0 store, 1 node, 2 _, 3 worth -/
noncomputable def d_node_worth : XS := bCons (sRet (eApp (g1 maxD1) [.e (eLc [2, 3] (xSeq (eCall s_beginning_with [] [.s 0, .s 1])) (gT [gN 2, gN 3]) (Wk.tYes) (eV 3))])) (bNil)
noncomputable def s_node_worth : FS := hide (fnSem 4 2 [] d_node_worth)
theorem s_node_worth_eq : s_node_worth = fnSem 4 2 [] d_node_worth := hide_eq _
/-- def _law_node_worth(store, node): : 0 store, 1 node, 2 pair -/
noncomputable def d__law_node_worth : XS := bCons (sRet (eApp (g1 maxD1) [.e (eLc [2] (xSeq (eCall s__law_behind [] [.s 0, .s 1])) (gN 2) (Wk.tYes) (eApp (g2 ixD) [.s 2, .e (eC (.int 1))]))])) (bNil)
noncomputable def s__law_node_worth : FS := hide (fnSem 3 2 [] d__law_node_worth)
theorem s__law_node_worth_eq : s__law_node_worth = fnSem 3 2 [] d__law_node_worth := hide_eq _
/-- def _law_goes(draws, store, letters): : 0 draws, 1 store, 2 letters, 3 words, 4 every, 5 k, 6 some, 7 node, 8 texts, 9 text, 10 one, 11 other, 12 keys, 13 due -/
noncomputable def d__law_goes_k01 : XS := bCons (sSet (gN 3) (eCall s__law_words_of [] [.s 1])) (bCons (sSet (gN 4) (eCall s__law_nodes [] [.s 3])) (bCons (sIf (Wk.tNot (tOf (eCall (s__law_same 8) [] [.e (eCall s_nodes [] [.s 1]), .e (eApp (g1 tupD) [.s 4])]))) (bCons (sRet (eC (.bl false))) (bNil)) (bNil)) (bCons (sSet (gN 6) (eApp (g2 addD) [.e (eApp gSlH [.s 4, .e (eC (.int 6))]), .e (eLc [5] (xArgs kRange1 [.e (eC (.int 8))]) (gN 5) (Wk.tYes) (eCall s__law_pick [0] [.s 0, .e (eApp (g2 addD) [.s 4, .e (eLst [.e (eC (.str []))])])]))])) (bCons (sIf (Wk.tAnd (tOf (eApp (g2 gtD) [.e (eApp (g1 lenD) [.s 3]), .e (eC (.int 0))])) (tOf (eApp (g2 inD) [.e (eC (.bl false)), .e (eLc [7] (xSeq (eV 6)) (gN 7) (Wk.tYes) (eCall (s__law_same 8) [] [.e (eCall s_node_worth [] [.s 1, .s 7]), .e (eCall s__law_node_worth [] [.s 1, .s 7])]))]))) (bCons (sRet (eC (.bl false))) (bNil)) (bNil)) (bCons (sSet (gN 8) (eApp (g2 addD) [.s 6, .e (eLc [5] (xArgs kRange1 [.e (eC (.int 6))]) (gN 5) (Wk.tYes) (eCall s__law_typed [0] [.s 0, .s 2, .s 3]))])) (bCons (sIf (tOf (eApp (g2 inD) [.e (eC (.bl false)), .e (eLc [9] (xSeq (eV 8)) (gN 9) (Wk.tYes) (eCall (s__law_same 8) [] [.e (eCall s_worth_of [] [.s 1, .s 9]), .e (eCall s__law_worth_in [] [.s 1, .s 9])]))])) (bCons (sRet (eC (.bl false))) (bNil)) (bNil)) (bCons (sFor (xArgs kRange1 [.e (eC (.int 12))]) (gN 5) (bCons (sIf (tOf (eApp (g2 gtD) [.e (eApp (g1 lenD) [.s 3]), .e (eC (.int 0))])) (bCons (sSet (gN 10) (eCall s__law_pick [0] [.s 0, .s 1])) (bCons (sSet (gN 11) (eCall s__law_pick [0] [.s 0, .s 1])) (bCons (sSet (gN 12) (eLst [.e (eTup [.e (eApp (g2 subD) [.e (eC (.int 0)), .e (eApp (g2 ixD) [.s 10, .e (eC (.int 1))])]), .e (eApp (g2 ixD) [.s 10, .e (eC (.int 0))])]), .e (eTup [.e (eApp (g2 subD) [.e (eC (.int 0)), .e (eApp (g2 ixD) [.s 11, .e (eC (.int 1))])]), .e (eApp (g2 ixD) [.s 11, .e (eC (.int 0))])])])) (bCons (sSet (gN 13) (eApp (g2 subD) [.e (eApp (g1 intD) [.e (eApp (g2 gtD) [.e (eApp (g2 ixD) [.s 12, .e (eC (.int 0))]), .e (eApp (g2 ixD) [.s 12, .e (eC (.int 1))])])]), .e (eApp (g1 intD) [.e (eApp (g2 ltD) [.e (eApp (g2 ixD) [.s 12, .e (eC (.int 0))]), .e (eApp (g2 ixD) [.s 12, .e (eC (.int 1))])])])])) (bCons (sIf (Wk.tNot (tOf (eCall (s__law_same 8) [] [.e (eCall s_compare_words [] [.s 1, .e (eApp (g2 ixD) [.s 10, .e (eC (.int 0))]), .e (eApp (g2 ixD) [.s 11, .e (eC (.int 0))])]), .s 13]))) (bCons (sRet (eC (.bl false))) (bNil)) (bNil)) (bNil)))))) (bNil)) (bNil))) (bCons (sRet (eC (.bl true))) (bNil)))))))))
noncomputable def s__law_goes_k01 : FS := hide (fnSem 14 3 [0] d__law_goes_k01)
theorem s__law_goes_k01_eq : s__law_goes_k01 = fnSem 14 3 [0] d__law_goes_k01 := hide_eq _
end Wk
end

section
/-! the worths of defs, as printed for k15 -/
namespace Wk
open PySem PySem.Spec PyProof.Rows L2
/-- def best_pairs(pairs, k): : 0 pairs, 1 k -/
noncomputable def d_best_pairs : XS := bCons (sRet (eApp (g1 tupD) [.e (eApp gSlH [.e (eApp (g1 (sortKD s_rank_of)) [.s 0]), .s 1])])) (bNil)
noncomputable def s_best_pairs : FS := hide (fnSem 2 2 [] d_best_pairs)
theorem s_best_pairs_eq : s_best_pairs = fnSem 2 2 [] d_best_pairs := hide_eq _
/-- def kept_row(store, text, k): : 0 store, 1 text, 2 k -/
noncomputable def d_kept_row : XS := bCons (sRet (eCall s_best_pairs [] [.e (eCall s_beginning_with [] [.s 0, .s 1]), .s 2])) (bNil)
noncomputable def s_kept_row : FS := hide (fnSem 3 3 [] d_kept_row)
theorem s_kept_row_eq : s_kept_row = fnSem 3 3 [] d_kept_row := hide_eq _
/-- def kept_rows(store, k): : 0 store, 1 k, 2 node -/
noncomputable def d_kept_rows : XS := bCons (sRet (eApp (g1 tupD) [.e (eLc [2] (xSeq (eCall s_nodes [] [.s 0])) (gN 2) (Wk.tYes) (eTup [.e (eV 2), .e (eCall s_kept_row [] [.s 0, .s 2, .s 1])]))])) (bNil)
noncomputable def s_kept_rows : FS := hide (fnSem 3 2 [] d_kept_rows)
theorem s_kept_rows_eq : s_kept_rows = fnSem 3 2 [] d_kept_rows := hide_eq _
/-- def _law_longer(store, node): : 0 store, 1 node, 2 found, 3 word -/
noncomputable def d__law_longer : XS := bCons (sSet (gN 2) (eD0)) (bCons (sFor (xSeq (eCall s__law_words_of [] [.e (eCall s__law_behind [] [.s 0, .s 1])])) (gN 3) (bCons (sIf (tOf (eApp (g2 gtD) [.e (eApp (g1 lenD) [.s 3]), .e (eApp (g1 lenD) [.s 1])])) (bCons (sSet (gS 2 (eApp gSlH [.s 3, .e (eApp (g2 addD) [.e (eApp (g1 lenD) [.s 1]), .e (eC (.int 1))])])) (eC (.bl true))) (bNil)) (bNil)) (bNil))) (bCons (sRet (eApp (g1 sortD) [.s 2])) (bNil)))
noncomputable def s__law_longer : FS := hide (fnSem 4 2 [] d__law_longer)
theorem s__law_longer_eq : s__law_longer = fnSem 4 2 [] d__law_longer := hide_eq _
/-- def _law_kept(store, text, k): : 0 store, 1 text, 2 k, 3 word -/
noncomputable def d__law_kept : XS := bCons (sRet (eApp (g1 tupD) [.e (eLc [3] (xSeq (eCall s__law_row [] [.s 0, .s 1, .s 2])) (gN 3) (Wk.tYes) (eTup [.e (eV 3), .e (eCall s__law_worth_in [] [.s 0, .s 3])]))])) (bNil)
noncomputable def s__law_kept : FS := hide (fnSem 4 3 [] d__law_kept)
theorem s__law_kept_eq : s__law_kept = fnSem 4 3 [] d__law_kept := hide_eq _
/-- def _law_goes(draws, store, letters): : 0 draws, 1 store, 2 letters, 3 k, 4 every, 5 table, 6 node, 7 turn, 8 text, 9 pair, 10 pairs, 11 longer -/
noncomputable def d__law_goes_k15 : XS := bCons (sSet (gN 3) (eCall s__law_k [0] [.s 0])) (bCons (sSet (gN 4) (eCall s__law_nodes [] [.e (eCall s__law_words_of [] [.s 1])])) (bCons (sSet (gN 5) (eCall s_kept_rows [] [.s 1, .s 3])) (bCons (sIf (Wk.tNot (tOf (eCall (s__law_same 8) [] [.s 5, .e (eApp (g1 tupD) [.e (eLc [6] (xSeq (eV 4)) (gN 6) (Wk.tYes) (eTup [.e (eV 6), .e (eCall s__law_kept [] [.s 1, .s 6, .s 3])]))])]))) (bCons (sRet (eC (.bl false))) (bNil)) (bNil)) (bCons (sFor (xArgs kRange1 [.e (eC (.int 4))]) (gN 7) (bCons (sSet (gN 8) (eCall s__law_typed [0] [.s 0, .s 2, .e (eCall s__law_words_of [] [.s 1])])) (bCons (sIf (Wk.tNot (tOf (eCall (s__law_same 8) [] [.e (eCall s_kept_row [] [.s 1, .s 8, .s 3]), .e (eCall s__law_kept [] [.s 1, .s 8, .s 3])]))) (bCons (sRet (eC (.bl false))) (bNil)) (bNil)) (bCons (sIf (Wk.tNot (tOf (eCall (s__law_same 8) [] [.e (eCall s_row [] [.s 1, .s 8, .s 3]), .e (eApp (g1 tupD) [.e (eLc [9] (xSeq (eCall s_kept_row [] [.s 1, .s 8, .s 3])) (gN 9) (Wk.tYes) (eApp (g2 ixD) [.s 9, .e (eC (.int 0))]))])]))) (bCons (sRet (eC (.bl false))) (bNil)) (bNil)) (bNil))))) (bCons (sIf (tOf (eApp (g2 gtD) [.e (eApp (g1 lenD) [.s 4]), .e (eC (.int 0))])) (bCons (sSet (gN 6) (eCall s__law_pick [0] [.s 0, .s 4])) (bCons (sSet (gN 10) (eLc [9] (xSeq (eV 1)) (gN 9) (tOf (eApp gEq [.e (eApp (g2 ixD) [.s 9, .e (eC (.int 0))]), .s 6])) (eV 9))) (bCons (sFor (xSeq (eCall s__law_longer [] [.s 1, .s 6])) (gN 11) (bCons (sSet (gN 10) (eApp (g2 addD) [.s 10, .e (eApp (g1 listD) [.e (eCall s_kept_row [] [.s 1, .s 11, .s 3])])])) (bNil))) (bCons (sIf (Wk.tNot (tOf (eCall (s__law_same 8) [] [.e (eApp (g1 tupD) [.e (eLc [9] (xSeq (eCall s_kept_row [] [.s 1, .s 6, .s 3])) (gN 9) (Wk.tYes) (eApp (g2 ixD) [.s 9, .e (eC (.int 0))]))]), .e (eCall s__law_best [] [.s 10, .s 3])]))) (bCons (sRet (eC (.bl false))) (bNil)) (bNil)) (bNil))))) (bNil)) (bCons (sRet (eC (.bl true))) (bNil)))))))
noncomputable def s__law_goes_k15 : FS := hide (fnSem 12 3 [0] d__law_goes_k15)
theorem s__law_goes_k15_eq : s__law_goes_k15 = fnSem 12 3 [0] d__law_goes_k15 := hide_eq _
end Wk
end

section
namespace K15
open PySem PySem.Spec PyProof.Rows L2 Wk
/-! the text: where the defs stand -/
def top (i : Nat) : Stmt := PySem.Challenge.pw_wordsahead_k15_kept_rows.main.body.getD i (.Pass ⟨0, 0, 0, 0⟩)
abbrev t_rank_of : Stmt := top 1
abbrev t_best_of : Stmt := top 2
abbrev t_beginning_with : Stmt := top 3
abbrev t_row : Stmt := top 4
abbrev t_beginnings : Stmt := top 5
abbrev t_nodes : Stmt := top 7
abbrev t_best_pairs : Stmt := top 9
abbrev t_kept_row : Stmt := top 10
abbrev t_kept_rows : Stmt := top 11
abbrev t__law_draws : Stmt := top 13
abbrev t__law_take : Stmt := top 14
abbrev t__law_pick : Stmt := top 15
abbrev t__law_same : Stmt := top 16
abbrev t__law_letters : Stmt := top 17
abbrev t__law_text_of : Stmt := top 18
abbrev t__law_word : Stmt := top 19
abbrev t__law_words : Stmt := top 20
abbrev t__law_worth : Stmt := top 21
abbrev t__law_store_of : Stmt := top 22
abbrev t__law_store : Stmt := top 23
abbrev t__law_typed : Stmt := top 24
abbrev t__law_k : Stmt := top 25
abbrev t__law_behind : Stmt := top 26
abbrev t__law_best : Stmt := top 27
abbrev t__law_row : Stmt := top 28
abbrev t__law_begun : Stmt := top 29
abbrev t__law_nodes : Stmt := top 30
abbrev t__law_words_of : Stmt := top 31
abbrev t__law_worth_in : Stmt := top 32
abbrev t__law_tree : Stmt := top 33
abbrev t__law_big_store : Stmt := top 34
abbrev t__law_longer : Stmt := top 35
abbrev t__law_kept : Stmt := top 36
abbrev t__law_goes : Stmt := top 37
abbrev t_law : Stmt := top 38
/-- def law(script): : 0 script, 1 draws, 2 letters, 3 turn -/
noncomputable def d_law : XS := bCons (sSet (gN 1) (eCall s__law_draws [] [.s 0, .e (eC (.int 600))])) (bCons (sSet (gN 2) (eCall s__law_letters [0] [.s 1])) (bCons (sFor (xArgs kRange1 [.e (eC (.int 3))]) (gN 3) (bCons (sIf (Wk.tNot (tOf (eCall s__law_goes_k15 [0] [.s 1, .e (eCall s__law_store [0] [.s 1, .s 2, .e (eC (.int 9))]), .s 2]))) (bCons (sRet (eC (.bl false))) (bNil)) (bNil)) (bCons (sIf (Wk.tNot (tOf (eCall s__law_goes_k15 [0] [.s 1, .e (eCall s__law_tree [0] [.s 1, .s 2, .e (eC (.int 3))]), .s 2]))) (bCons (sRet (eC (.bl false))) (bNil)) (bNil)) (bNil)))) (bCons (sRet (eCall s__law_goes_k15 [0] [.s 1, .e (eApp gSlH [.e (eCall s__law_big_store [0] [.s 1]), .e (eC (.int 40))]), .e (eLst [.e (eC (.str [97])), .e (eC (.str [98])), .e (eC (.str [99]))])])) (bNil))))
noncomputable def s_law : FS := fnSem 4 1 [] d_law
/-! the facts -/
structure Fr (mg : Str → Option Value) : Prop where
  f_bool : mg "bool" = none
  f_int : mg "int" = none
  f_isinstance : mg "isinstance" = none
  f_len : mg "len" = none
  f_list : mg "list" = none
  f_min : mg "min" = none
  f_range : mg "range" = none
  f_sorted : mg "sorted" = none
  f_str : mg "str" = none
  f_tuple : mg "tuple" = none
structure Ds (K : PySem.W.Frag) (mg : Str → Option Value) : Prop where
  h_rank_of : ∃ f fd, FunD K "rank_of" "rank_of" (defArgs t_rank_of) (defBody t_rank_of) (defScope t_rank_of) [] [] f fd ∧ mg "rank_of" = some (.ref f)
  h_best_of : ∃ f fd, FunD K "best_of" "best_of" (defArgs t_best_of) (defBody t_best_of) (defScope t_best_of) [] [] f fd ∧ mg "best_of" = some (.ref f)
  h_beginning_with : ∃ f fd, FunD K "beginning_with" "beginning_with" (defArgs t_beginning_with) (defBody t_beginning_with) (defScope t_beginning_with) [] [] f fd ∧ mg "beginning_with" = some (.ref f)
  h_row : ∃ f fd, FunD K "row" "row" (defArgs t_row) (defBody t_row) (defScope t_row) [] [] f fd ∧ mg "row" = some (.ref f)
  h_beginnings : ∃ f fd, FunD K "beginnings" "beginnings" (defArgs t_beginnings) (defBody t_beginnings) (defScope t_beginnings) [] [] f fd ∧ mg "beginnings" = some (.ref f)
  h_nodes : ∃ f fd, FunD K "nodes" "nodes" (defArgs t_nodes) (defBody t_nodes) (defScope t_nodes) [] [] f fd ∧ mg "nodes" = some (.ref f)
  h_best_pairs : ∃ f fd, FunD K "best_pairs" "best_pairs" (defArgs t_best_pairs) (defBody t_best_pairs) (defScope t_best_pairs) [] [] f fd ∧ mg "best_pairs" = some (.ref f)
  h_kept_row : ∃ f fd, FunD K "kept_row" "kept_row" (defArgs t_kept_row) (defBody t_kept_row) (defScope t_kept_row) [] [] f fd ∧ mg "kept_row" = some (.ref f)
  h_kept_rows : ∃ f fd, FunD K "kept_rows" "kept_rows" (defArgs t_kept_rows) (defBody t_kept_rows) (defScope t_kept_rows) [] [] f fd ∧ mg "kept_rows" = some (.ref f)
  h__law_draws : ∃ f fd, FunD K "_law_draws" "_law_draws" (defArgs t__law_draws) (defBody t__law_draws) (defScope t__law_draws) [] [] f fd ∧ mg "_law_draws" = some (.ref f)
  h__law_take : ∃ f fd, FunD K "_law_take" "_law_take" (defArgs t__law_take) (defBody t__law_take) (defScope t__law_take) [] [] f fd ∧ mg "_law_take" = some (.ref f)
  h__law_pick : ∃ f fd, FunD K "_law_pick" "_law_pick" (defArgs t__law_pick) (defBody t__law_pick) (defScope t__law_pick) [] [] f fd ∧ mg "_law_pick" = some (.ref f)
  h__law_same : ∃ f fd, FunD K "_law_same" "_law_same" (defArgs t__law_same) (defBody t__law_same) (defScope t__law_same) [] [] f fd ∧ mg "_law_same" = some (.ref f)
  h__law_letters : ∃ f fd, FunD K "_law_letters" "_law_letters" (defArgs t__law_letters) (defBody t__law_letters) (defScope t__law_letters) [] [] f fd ∧ mg "_law_letters" = some (.ref f)
  h__law_text_of : ∃ f fd, FunD K "_law_text_of" "_law_text_of" (defArgs t__law_text_of) (defBody t__law_text_of) (defScope t__law_text_of) [] [] f fd ∧ mg "_law_text_of" = some (.ref f)
  h__law_word : ∃ f fd, FunD K "_law_word" "_law_word" (defArgs t__law_word) (defBody t__law_word) (defScope t__law_word) [] [] f fd ∧ mg "_law_word" = some (.ref f)
  h__law_words : ∃ f fd, FunD K "_law_words" "_law_words" (defArgs t__law_words) (defBody t__law_words) (defScope t__law_words) [] [] f fd ∧ mg "_law_words" = some (.ref f)
  h__law_worth : ∃ f fd, FunD K "_law_worth" "_law_worth" (defArgs t__law_worth) (defBody t__law_worth) (defScope t__law_worth) [] [] f fd ∧ mg "_law_worth" = some (.ref f)
  h__law_store_of : ∃ f fd, FunD K "_law_store_of" "_law_store_of" (defArgs t__law_store_of) (defBody t__law_store_of) (defScope t__law_store_of) [] [] f fd ∧ mg "_law_store_of" = some (.ref f)
  h__law_store : ∃ f fd, FunD K "_law_store" "_law_store" (defArgs t__law_store) (defBody t__law_store) (defScope t__law_store) [] [] f fd ∧ mg "_law_store" = some (.ref f)
  h__law_typed : ∃ f fd, FunD K "_law_typed" "_law_typed" (defArgs t__law_typed) (defBody t__law_typed) (defScope t__law_typed) [] [] f fd ∧ mg "_law_typed" = some (.ref f)
  h__law_k : ∃ f fd, FunD K "_law_k" "_law_k" (defArgs t__law_k) (defBody t__law_k) (defScope t__law_k) [] [] f fd ∧ mg "_law_k" = some (.ref f)
  h__law_behind : ∃ f fd, FunD K "_law_behind" "_law_behind" (defArgs t__law_behind) (defBody t__law_behind) (defScope t__law_behind) [] [] f fd ∧ mg "_law_behind" = some (.ref f)
  h__law_best : ∃ f fd, FunD K "_law_best" "_law_best" (defArgs t__law_best) (defBody t__law_best) (defScope t__law_best) [] [] f fd ∧ mg "_law_best" = some (.ref f)
  h__law_row : ∃ f fd, FunD K "_law_row" "_law_row" (defArgs t__law_row) (defBody t__law_row) (defScope t__law_row) [] [] f fd ∧ mg "_law_row" = some (.ref f)
  h__law_begun : ∃ f fd, FunD K "_law_begun" "_law_begun" (defArgs t__law_begun) (defBody t__law_begun) (defScope t__law_begun) [] [] f fd ∧ mg "_law_begun" = some (.ref f)
  h__law_nodes : ∃ f fd, FunD K "_law_nodes" "_law_nodes" (defArgs t__law_nodes) (defBody t__law_nodes) (defScope t__law_nodes) [] [] f fd ∧ mg "_law_nodes" = some (.ref f)
  h__law_words_of : ∃ f fd, FunD K "_law_words_of" "_law_words_of" (defArgs t__law_words_of) (defBody t__law_words_of) (defScope t__law_words_of) [] [] f fd ∧ mg "_law_words_of" = some (.ref f)
  h__law_worth_in : ∃ f fd, FunD K "_law_worth_in" "_law_worth_in" (defArgs t__law_worth_in) (defBody t__law_worth_in) (defScope t__law_worth_in) [] [] f fd ∧ mg "_law_worth_in" = some (.ref f)
  h__law_tree : ∃ f fd, FunD K "_law_tree" "_law_tree" (defArgs t__law_tree) (defBody t__law_tree) (defScope t__law_tree) [] [] f fd ∧ mg "_law_tree" = some (.ref f)
  h__law_big_store : ∃ f fd, FunD K "_law_big_store" "_law_big_store" (defArgs t__law_big_store) (defBody t__law_big_store) (defScope t__law_big_store) [] [] f fd ∧ mg "_law_big_store" = some (.ref f)
  h__law_longer : ∃ f fd, FunD K "_law_longer" "_law_longer" (defArgs t__law_longer) (defBody t__law_longer) (defScope t__law_longer) [] [] f fd ∧ mg "_law_longer" = some (.ref f)
  h__law_kept : ∃ f fd, FunD K "_law_kept" "_law_kept" (defArgs t__law_kept) (defBody t__law_kept) (defScope t__law_kept) [] [] f fd ∧ mg "_law_kept" = some (.ref f)
  h__law_goes : ∃ f fd, FunD K "_law_goes" "_law_goes" (defArgs t__law_goes) (defBody t__law_goes) (defScope t__law_goes) [] [] f fd ∧ mg "_law_goes" = some (.ref f)
  h_law : ∃ f fd, FunD K "law" "law" (defArgs t_law) (defBody t_law) (defScope t_law) [] [] f fd ∧ mg "law" = some (.ref f)
/-! they keep it -/
section
variable {P : Program} {w : World} {K : PySem.W.Frag} {mg : Str → Option Value} {base : Heap}
abbrev N_rank_of : List Str := ["pair"]
theorem sc_rank_of : FnScope N_rank_of ["pair"] (defScope t_rank_of) := ⟨rfl, rfl, rfl, by decide +kernel, rfl, by decide +kernel, by decide +kernel⟩
theorem c_rank_of (D : Ds K mg) (fr : Fr mg) : CalW P w K mg base 1 "rank_of" [] 1 s_rank_of := by
    have S := sc_rank_of
    obtain ⟨f, fd, F, hm⟩ := D.h_rank_of
    rw [s_rank_of_eq]
    refine cal_ok (N := N_rank_of) (ps := ["pair"]) F hm (F.bindsN fun _ _ _ _ _ _ us hl => match us, hl with | [_], _ => rfl) S rfl rfl fun cdv A outer s H E hr => ?_
    have hv := u128 hr
    have hu := u64 hr
    exact (ib_cons (is_ret (ie_tup (ia_cons (io_e (ie_un ug_neg ok_g1 (io_e (ie_ix (ig_ix hu) ok_g2 (io_s (i := 0)) (io_e ie_int))))) (ia_cons (io_e (ie_ix (ig_ix hu) ok_g2 (io_s (i := 0)) (io_e ie_int))) ia_nil)))) ib_nil)
abbrev N_best_of : List Str := ["pairs", "k", "word", "_"]
theorem sc_best_of : FnScope N_best_of ["pairs", "k"] (defScope t_best_of) := ⟨rfl, rfl, rfl, by decide +kernel, rfl, by decide +kernel, by decide +kernel⟩
theorem c_best_of (D : Ds K mg) (fr : Fr mg) : CalW P w K mg base 4 "best_of" [] 2 s_best_of := by
    have S := sc_best_of
    obtain ⟨f, fd, F, hm⟩ := D.h_best_of
    rw [s_best_of_eq]
    refine cal_ok (N := N_best_of) (ps := ["pairs", "k"]) F hm (F.bindsN fun _ _ _ _ _ _ us hl => match us, hl with | [_, _], _ => rfl) S rfl rfl fun cdv A outer s H E hr => ?_
    have hv := u128 hr
    have hu := u64 hr
    exact (ib_cons (is_ret (ie_callTy cg_tuple ok_gL (by rfl) fr.f_tuple bt_tuple (ia_cons (io_e (ie_lc (own := [("word", 2), ("_", 3)]) rfl S.nd (ii_seq (ie_slH (io_e (ie_sortK (k := 1) rfl hv (c_rank_of D fr) hr (by decide) (by rfl) fr.f_sorted (by rfl) (io_s (i := 0)))) (io_s (i := 1)))) (blkOk_by (own := [("word", 2), ("_", 3)]) (N := N_best_of) (sc := defScope t_best_of) (by decide +kernel)) (fun _ _ _ _ _ => (ig_tup rfl (igs_cons (ig_name (i := 2) S.nd (compl_no (by decide))) (igs_cons (ig_name (i := 3) S.nd (compl_no (by decide))) igs_nil)))) (fun _ _ _ _ _ => its_nil) (fun _ _ _ _ _ => (ie_var (i := 2))))) ia_nil))) ib_nil)
abbrev N_beginning_with : List Str := ["store", "text", "pair"]
theorem sc_beginning_with : FnScope N_beginning_with ["store", "text"] (defScope t_beginning_with) := ⟨rfl, rfl, rfl, by decide +kernel, rfl, by decide +kernel, by decide +kernel⟩
theorem c_beginning_with (D : Ds K mg) (fr : Fr mg) : CalW P w K mg base 1 "beginning_with" [] 2 s_beginning_with := by
    have S := sc_beginning_with
    obtain ⟨f, fd, F, hm⟩ := D.h_beginning_with
    rw [s_beginning_with_eq]
    refine cal_ok (N := N_beginning_with) (ps := ["store", "text"]) F hm (F.bindsN fun _ _ _ _ _ _ us hl => match us, hl with | [_, _], _ => rfl) S rfl rfl fun cdv A outer s H E hr => ?_
    have hv := u128 hr
    have hu := u64 hr
    exact (ib_cons (is_ret (ie_lc (own := [("pair", 2)]) rfl S.nd (ii_seq (ie_var (i := 0))) (blkOk_by (own := [("pair", 2)]) (N := N_beginning_with) (sc := defScope t_beginning_with) (by decide +kernel)) (fun _ _ _ _ _ => (ig_name (i := 2) S.nd (compl_no (by decide)))) (fun _ _ _ _ _ => (its_one (it_val (ie_meth ty_str PySem.F.plainAttrs_str PySem.F.slot_str_startswith PySem.F.type_str_startswith mg_starts (io_e (ie_ix (ig_ix hu) ok_g2 (io_s (i := 2)) (io_e ie_int))) (ia_cons (io_s (i := 1)) ia_nil))))) (fun _ _ _ _ _ => (ie_var (i := 2))))) ib_nil)
abbrev N_row : List Str := ["store", "text", "k"]
theorem sc_row : FnScope N_row ["store", "text", "k"] (defScope t_row) := ⟨rfl, rfl, rfl, by decide +kernel, rfl, by decide +kernel, by decide +kernel⟩
theorem c_row (D : Ds K mg) (fr : Fr mg) : CalW P w K mg base 5 "row" [] 3 s_row := by
    have S := sc_row
    obtain ⟨f, fd, F, hm⟩ := D.h_row
    rw [s_row_eq]
    refine cal_ok (N := N_row) (ps := ["store", "text", "k"]) F hm (F.bindsN fun _ _ _ _ _ _ us hl => match us, hl with | [_, _, _], _ => rfl) S rfl rfl fun cdv A outer s H E hr => ?_
    have hv := u128 hr
    have hu := u64 hr
    exact (ib_cons (is_ret (ie_call (c_best_of D fr) hr (by decide) (by rfl) (ia_cons (io_e (ie_call (c_beginning_with D fr) hr (by decide) (by rfl) (ia_cons (io_s (i := 0)) (ia_cons (io_s (i := 1)) ia_nil)))) (ia_cons (io_s (i := 2)) ia_nil)))) ib_nil)
abbrev N_beginnings : List Str := ["word", "end"]
theorem sc_beginnings : FnScope N_beginnings ["word"] (defScope t_beginnings) := ⟨rfl, rfl, rfl, by decide +kernel, rfl, by decide +kernel, by decide +kernel⟩
theorem c_beginnings (D : Ds K mg) (fr : Fr mg) : CalW P w K mg base 1 "beginnings" [] 1 s_beginnings := by
    have S := sc_beginnings
    obtain ⟨f, fd, F, hm⟩ := D.h_beginnings
    rw [s_beginnings_eq]
    refine cal_ok (N := N_beginnings) (ps := ["word"]) F hm (F.bindsN fun _ _ _ _ _ _ us hl => match us, hl with | [_], _ => rfl) S rfl rfl fun cdv A outer s H E hr => ?_
    have hv := u128 hr
    have hu := u64 hr
    exact (ib_cons (is_ret (ie_lc (own := [("end", 1)]) rfl S.nd (ii_range1 (by rfl) fr.f_range (ia_cons (io_e (ie_op og_add ok_g2 (io_e (ie_callB cg_len ok_gL (by rfl) fr.f_len bt_len (ia_cons (io_s (i := 0)) ia_nil))) (io_e ie_int))) ia_nil)) (blkOk_by (own := [("end", 1)]) (N := N_beginnings) (sc := defScope t_beginnings) (by decide +kernel)) (fun _ _ _ _ _ => (ig_name (i := 1) S.nd (compl_no (by decide)))) (fun _ _ _ _ _ => its_nil) (fun _ _ _ _ _ => (ie_slH (io_s (i := 0)) (io_s (i := 1)))))) ib_nil)
abbrev N_nodes : List Str := ["store", "word", "_", "text"]
theorem sc_nodes : FnScope N_nodes ["store"] (defScope t_nodes) := ⟨rfl, rfl, rfl, by decide +kernel, rfl, by decide +kernel, by decide +kernel⟩
theorem c_nodes (D : Ds K mg) (fr : Fr mg) : CalW P w K mg base 2 "nodes" [] 1 s_nodes := by
    have S := sc_nodes
    obtain ⟨f, fd, F, hm⟩ := D.h_nodes
    rw [s_nodes_eq]
    refine cal_ok (N := N_nodes) (ps := ["store"]) F hm (F.bindsN fun _ _ _ _ _ _ us hl => match us, hl with | [_], _ => rfl) S rfl rfl fun cdv A outer s H E hr => ?_
    have hv := u128 hr
    have hu := u64 hr
    exact (ib_cons (is_ret (ie_callTy cg_tuple ok_gL (by rfl) fr.f_tuple bt_tuple (ia_cons (io_e (ie_sortSC (own := [("word", 1), ("_", 2), ("text", 3)]) (us := [3]) rfl hv S.nd (by rfl) fr.f_sorted (ii_seq (ie_var (i := 0))) (blkOk_by (own := [("word", 1), ("_", 2), ("text", 3)]) (N := N_nodes) (sc := defScope t_nodes) (by decide +kernel)) (by decide) (fun _ _ _ _ _ => (ig_tup rfl (igs_cons (ig_name (i := 1) S.nd (compl_no (by decide))) (igs_cons (ig_name (i := 2) S.nd (compl_no (by decide))) igs_nil)))) (fun _ _ _ _ _ => its_nil) (fun _ _ _ _ _ => (ii_seq (ie_call (c_beginnings D fr) hr (by decide) (by rfl) (ia_cons (io_s (i := 1)) ia_nil)))) (fun _ _ _ _ _ => (ig_name (i := 3) S.nd (compl_no (by decide)))) (fun _ _ _ _ _ => its_nil) (fun _ _ _ _ _ => (ie_var (i := 3))))) ia_nil))) ib_nil)
abbrev N_best_pairs : List Str := ["pairs", "k"]
theorem sc_best_pairs : FnScope N_best_pairs ["pairs", "k"] (defScope t_best_pairs) := ⟨rfl, rfl, rfl, by decide +kernel, rfl, by decide +kernel, by decide +kernel⟩
theorem c_best_pairs (D : Ds K mg) (fr : Fr mg) : CalW P w K mg base 4 "best_pairs" [] 2 s_best_pairs := by
    have S := sc_best_pairs
    obtain ⟨f, fd, F, hm⟩ := D.h_best_pairs
    rw [s_best_pairs_eq]
    refine cal_ok (N := N_best_pairs) (ps := ["pairs", "k"]) F hm (F.bindsN fun _ _ _ _ _ _ us hl => match us, hl with | [_, _], _ => rfl) S rfl rfl fun cdv A outer s H E hr => ?_
    have hv := u128 hr
    have hu := u64 hr
    exact (ib_cons (is_ret (ie_callTy cg_tuple ok_gL (by rfl) fr.f_tuple bt_tuple (ia_cons (io_e (ie_slH (io_e (ie_sortK (k := 1) rfl hv (c_rank_of D fr) hr (by decide) (by rfl) fr.f_sorted (by rfl) (io_s (i := 0)))) (io_s (i := 1)))) ia_nil))) ib_nil)
abbrev N_kept_row : List Str := ["store", "text", "k"]
theorem sc_kept_row : FnScope N_kept_row ["store", "text", "k"] (defScope t_kept_row) := ⟨rfl, rfl, rfl, by decide +kernel, rfl, by decide +kernel, by decide +kernel⟩
theorem c_kept_row (D : Ds K mg) (fr : Fr mg) : CalW P w K mg base 5 "kept_row" [] 3 s_kept_row := by
    have S := sc_kept_row
    obtain ⟨f, fd, F, hm⟩ := D.h_kept_row
    rw [s_kept_row_eq]
    refine cal_ok (N := N_kept_row) (ps := ["store", "text", "k"]) F hm (F.bindsN fun _ _ _ _ _ _ us hl => match us, hl with | [_, _, _], _ => rfl) S rfl rfl fun cdv A outer s H E hr => ?_
    have hv := u128 hr
    have hu := u64 hr
    exact (ib_cons (is_ret (ie_call (c_best_pairs D fr) hr (by decide) (by rfl) (ia_cons (io_e (ie_call (c_beginning_with D fr) hr (by decide) (by rfl) (ia_cons (io_s (i := 0)) (ia_cons (io_s (i := 1)) ia_nil)))) (ia_cons (io_s (i := 2)) ia_nil)))) ib_nil)
abbrev N_kept_rows : List Str := ["store", "k", "node"]
theorem sc_kept_rows : FnScope N_kept_rows ["store", "k"] (defScope t_kept_rows) := ⟨rfl, rfl, rfl, by decide +kernel, rfl, by decide +kernel, by decide +kernel⟩
theorem c_kept_rows (D : Ds K mg) (fr : Fr mg) : CalW P w K mg base 6 "kept_rows" [] 2 s_kept_rows := by
    have S := sc_kept_rows
    obtain ⟨f, fd, F, hm⟩ := D.h_kept_rows
    rw [s_kept_rows_eq]
    refine cal_ok (N := N_kept_rows) (ps := ["store", "k"]) F hm (F.bindsN fun _ _ _ _ _ _ us hl => match us, hl with | [_, _], _ => rfl) S rfl rfl fun cdv A outer s H E hr => ?_
    have hv := u128 hr
    have hu := u64 hr
    exact (ib_cons (is_ret (ie_callTy cg_tuple ok_gL (by rfl) fr.f_tuple bt_tuple (ia_cons (io_e (ie_lc (own := [("node", 2)]) rfl S.nd (ii_seq (ie_call (c_nodes D fr) hr (by decide) (by rfl) (ia_cons (io_s (i := 0)) ia_nil))) (blkOk_by (own := [("node", 2)]) (N := N_kept_rows) (sc := defScope t_kept_rows) (by decide +kernel)) (fun _ _ _ _ _ => (ig_name (i := 2) S.nd (compl_no (by decide)))) (fun _ _ _ _ _ => its_nil) (fun _ _ _ _ _ => (ie_tup (ia_cons (io_e (ie_var (i := 2))) (ia_cons (io_e (ie_call (c_kept_row D fr) hr (by decide) (by rfl) (ia_cons (io_s (i := 0)) (ia_cons (io_s (i := 2)) (ia_cons (io_s (i := 1)) ia_nil))))) ia_nil)))))) ia_nil))) ib_nil)
abbrev N__law_draws : List Str := ["script", "many", "cell", "cells", "left", "draws", "k", "place", "mixed"]
theorem sc__law_draws : FnScope N__law_draws ["script", "many"] (defScope t__law_draws) := ⟨rfl, rfl, rfl, by decide +kernel, rfl, by decide +kernel, by decide +kernel⟩
theorem c__law_draws (D : Ds K mg) (fr : Fr mg) : CalW P w K mg base 1 "_law_draws" [] 2 s__law_draws := by
    have S := sc__law_draws
    obtain ⟨f, fd, F, hm⟩ := D.h__law_draws
    rw [s__law_draws_eq]
    refine cal_ok (N := N__law_draws) (ps := ["script", "many"]) F hm (F.bindsN fun _ _ _ _ _ _ us hl => match us, hl with | [_, _], _ => rfl) S rfl rfl fun cdv A outer s H E hr => ?_
    have hv := u128 hr
    have hu := u64 hr
    exact (ib_cons (is_setLc (i := 3) (own := [("cell", 2)]) rfl S.nd (by decide) (ii_seq (ie_slH (io_s (i := 0)) (io_e ie_int))) (blkOk_by (own := [("cell", 2)]) (N := N__law_draws) (sc := defScope t__law_draws) (by decide +kernel)) (fun _ _ _ _ _ => (ig_name (i := 2) S.nd (compl_no (by decide)))) (fun _ _ _ _ _ => its_nil) (fun _ _ _ _ _ => (ie_op og_mod ok_g2 (io_e (ie_callTy cg_int ok_gL (by rfl) fr.f_int bt_int (ia_cons (io_s (i := 2)) ia_nil))) (io_e (ie_op og_shl ok_g2 (io_e ie_int) (io_e ie_int))))) (sw_true rfl rfl rfl (by decide +kernel))) (ib_cons (is_if (it_cmp (op_eq2 hu) okEq_eq (io_e (ie_callB cg_len ok_gL (by rfl) fr.f_len bt_len (ia_cons (io_s (i := 3)) ia_nil))) (io_e ie_int) (nomark _)) (ib_cons (is_drop (ie_mut (i := 3) PySem.F.plainAttrs_list PySem.F.slot_list_append PySem.F.type_list_append mt_append okTy_lst okM_app (ia_cons (io_e ie_int) ia_nil))) ib_nil) ib_nil) (ib_cons (is_set (i := 4) S.nd (by decide) (ie_callTy (cg_list rfl) ok_gL (by rfl) fr.f_list bt_list (ia_cons (io_s (i := 3)) ia_nil))) (ib_cons (is_set (i := 5) S.nd (by decide) (ie_lst ia_nil)) (ib_cons (is_for PassesOwn.never rfl (ii_range1 (by rfl) fr.f_range (ia_cons (io_s (i := 1)) ia_nil)) (ig_name (i := 6) S.nd (by decide)) (ib_cons (is_set (i := 7) S.nd (by decide) (ie_op og_mod ok_g2 (io_e (ie_callTy cg_int ok_gL (by rfl) fr.f_int bt_int (ia_cons (io_s (i := 6)) ia_nil))) (io_e (ie_callB cg_len ok_gL (by rfl) fr.f_len bt_len (ia_cons (io_s (i := 3)) ia_nil))))) (ib_cons (is_if (it_w (iw_and (it_cmp (og_ge hu) ok_g2 (io_e (ie_ix (ig_ix hu) ok_g2 (io_s (i := 3)) (io_s (i := 7)))) (io_e (ie_op og_pow ok_g2 (io_e ie_int) (io_e ie_int))) (nomark _)) (iw_and1 (it_cmp (og_gt hu) ok_g2 (io_e (ie_ix (ig_ix hu) ok_g2 (io_s (i := 4)) (io_s (i := 7)))) (io_e ie_int) (nomark _))))) (ib_cons (is_drop (ie_mut (i := 5) PySem.F.plainAttrs_list PySem.F.slot_list_append PySem.F.type_list_append mt_append okTy_lst okM_app (ia_cons (io_e (ie_fz (ie_op og_mod ok_g2 (io_e (ie_callTy cg_int ok_gL (by rfl) fr.f_int bt_int (ia_cons (io_e (ie_ix (ig_ix hu) ok_g2 (io_s (i := 4)) (io_s (i := 7)))) ia_nil))) (io_e ie_int)))) ia_nil))) (ib_cons (is_asg (ie_fz (ie_op og_fdiv ok_g2 (io_e (ie_ix (ig_ix hu) ok_g2 (io_s (i := 4)) (io_s (i := 7)))) (io_e ie_int))) (ig_put (i := 4) hu (ie_var (i := 7)))) ib_nil)) (ib_cons (is_set (i := 8) S.nd (by decide) (ie_op og_mod ok_g2 (io_e (ie_callTy cg_int ok_gL (by rfl) fr.f_int bt_int (ia_cons (io_e (ie_op og_add ok_g2 (io_e (ie_op og_add ok_g2 (io_e (ie_op og_mul ok_g2 (io_e (ie_ix (ig_ix hu) ok_g2 (io_s (i := 3)) (io_s (i := 7)))) (io_e ie_int))) (io_e (ie_op og_mul ok_g2 (io_s (i := 6)) (io_e ie_int))))) (io_e ie_int))) ia_nil))) (io_e ie_int))) (ib_cons (is_drop (ie_mut (i := 5) PySem.F.plainAttrs_list PySem.F.slot_list_append PySem.F.type_list_append mt_append okTy_lst okM_app (ia_cons (io_e (ie_fz (ie_op og_mod ok_g2 (io_e (ie_callTy cg_int ok_gL (by rfl) fr.f_int bt_int (ia_cons (io_e (ie_op og_add ok_g2 (io_e (ie_op og_add ok_g2 (io_e (ie_op og_mul ok_g2 (io_s (i := 8)) (io_s (i := 8)))) (io_e (ie_op og_mul ok_g2 (io_e ie_int) (io_s (i := 8)))))) (io_s (i := 6)))) ia_nil))) (io_e ie_int)))) ia_nil))) ib_nil))) ib_nil))) (ib_cons (is_drop (ie_mut0 (i := 5) PySem.F.plainAttrs_list PySem.F.slot_list_reverse PySem.F.type_list_reverse mt_reverse okTy_lst okM_rev)) (ib_cons (is_ret (ie_mov (i := 5))) ib_nil)))))))
abbrev N__law_take : List Str := ["draws", "many"]
theorem sc__law_take : FnScope N__law_take ["draws", "many"] (defScope t__law_take) := ⟨rfl, rfl, rfl, by decide +kernel, rfl, by decide +kernel, by decide +kernel⟩
theorem c__law_take (D : Ds K mg) (fr : Fr mg) : CalW P w K mg base 1 "_law_take" [0] 2 s__law_take := by
    have S := sc__law_take
    obtain ⟨f, fd, F, hm⟩ := D.h__law_take
    rw [s__law_take_eq]
    refine cal_ok (N := N__law_take) (ps := ["draws", "many"]) F hm (F.bindsN fun _ _ _ _ _ _ us hl => match us, hl with | [_, _], _ => rfl) S rfl rfl fun cdv A outer s H E hr => ?_
    have hv := u128 hr
    have hu := u64 hr
    exact (ib_cons (is_if (it_cmp (op_eq2 hu) okEq_eq (io_e (ie_callB cg_len ok_gL (by rfl) fr.f_len bt_len (ia_cons (io_s (i := 0)) ia_nil))) (io_e ie_int) (nomark _)) (ib_cons (is_ret ie_int) ib_nil) ib_nil) (ib_cons (is_ret (ie_op og_mod ok_g2 (io_e (ie_callTy cg_int ok_gL (by rfl) fr.f_int bt_int (ia_cons (io_e (ie_mut0 (i := 0) PySem.F.plainAttrs_list PySem.F.slot_list_pop PySem.F.type_list_pop mt_pop okTy_lst okM_pop)) ia_nil))) (io_s (i := 1)))) ib_nil))
abbrev N__law_pick : List Str := ["draws", "line"]
theorem sc__law_pick : FnScope N__law_pick ["draws", "line"] (defScope t__law_pick) := ⟨rfl, rfl, rfl, by decide +kernel, rfl, by decide +kernel, by decide +kernel⟩
theorem c__law_pick (D : Ds K mg) (fr : Fr mg) : CalW P w K mg base 2 "_law_pick" [0] 2 s__law_pick := by
    have S := sc__law_pick
    obtain ⟨f, fd, F, hm⟩ := D.h__law_pick
    rw [s__law_pick_eq]
    refine cal_ok (N := N__law_pick) (ps := ["draws", "line"]) F hm (F.bindsN fun _ _ _ _ _ _ us hl => match us, hl with | [_, _], _ => rfl) S rfl rfl fun cdv A outer s H E hr => ?_
    have hv := u128 hr
    have hu := u64 hr
    exact (ib_cons (is_ret (ie_ix (ig_ix hu) ok_g2 (io_s (i := 1)) (io_e (ie_call (c__law_take D fr) hr (by decide) (by rfl) (ia_cons (io_s (i := 0)) (ia_cons (io_e (ie_callB cg_len ok_gL (by rfl) fr.f_len bt_len (ia_cons (io_s (i := 1)) ia_nil))) ia_nil)))))) ib_nil)
abbrev N__law_same : List Str := ["actual", "due", "k"]
theorem sc__law_same : FnScope N__law_same ["actual", "due"] (defScope t__law_same) := ⟨rfl, rfl, rfl, by decide +kernel, rfl, by decide +kernel, by decide +kernel⟩
theorem c__law_same (D : Ds K mg) (fr : Fr mg) : ∀ n, CalW P w K mg base (0 + n) "_law_same" [] 2 (s__law_same n)
  | 0 => by
    obtain ⟨f, fd, F, hm⟩ := D.h__law_same
    exact cal_none (ps := ["actual", "due"]) F hm (F.bindsN fun _ _ _ _ _ _ us hl => match us, hl with | [_, _], _ => rfl)
  | n + 1 => by
    have crec : CalW P w K mg base (0 + n) "_law_same" [] 2 (s__law_same n) := c__law_same D fr n
    have S := sc__law_same
    obtain ⟨f, fd, F, hm⟩ := D.h__law_same
    rw [s__law_same_eq]
    refine cal_ok (N := N__law_same) (ps := ["actual", "due"]) F hm (F.bindsN fun _ _ _ _ _ _ us hl => match us, hl with | [_, _], _ => rfl) S rfl rfl fun cdv A outer s H E hr => ?_
    have hv := u128 hr
    have hu := u64 hr
    exact (ib_cons (is_if (it_val (ie_isiT (by rfl) fr.f_isinstance (io_s (i := 1)) (TyNs.cons (pe_tyN bt_tuple (by rfl) fr.f_tuple) (by decide) (by rfl) (TyNs.cons (pe_tyN bt_list (by rfl) fr.f_list) (by decide) (by rfl) TyNs.nil)))) (ib_cons (is_if (it_w (iw_or (it_cmp (op_ne2 hu) okNe_ne (io_e (ie_isi (by rfl) fr.f_isinstance (io_s (i := 0)) bt_tuple (by rfl) fr.f_tuple (by decide))) (io_e (ie_isi (by rfl) fr.f_isinstance (io_s (i := 1)) bt_tuple (by rfl) fr.f_tuple (by decide))) (nomark _)) (iw_or1 (it_cmp (op_ne2 hu) okNe_ne (io_e (ie_isi (by rfl) fr.f_isinstance (io_s (i := 0)) bt_list (by rfl) fr.f_list (by decide))) (io_e (ie_isi (by rfl) fr.f_isinstance (io_s (i := 1)) bt_list (by rfl) fr.f_list (by decide))) (nomark _))))) (ib_cons (is_ret ie_bl) ib_nil) ib_nil) (ib_cons (is_if (it_cmp (op_ne2 hu) okNe_ne (io_e (ie_callB cg_len ok_gL (by rfl) fr.f_len bt_len (ia_cons (io_s (i := 0)) ia_nil))) (io_e (ie_callB cg_len ok_gL (by rfl) fr.f_len bt_len (ia_cons (io_s (i := 1)) ia_nil))) (nomark _)) (ib_cons (is_ret ie_bl) ib_nil) ib_nil) (ib_cons (is_ret (ie_cmp (og_notIn hv) ok_g2 (io_e ie_bl) (io_e (ie_lc (own := [("k", 2)]) rfl S.nd (ii_range1 (by rfl) fr.f_range (ia_cons (io_e (ie_callB cg_len ok_gL (by rfl) fr.f_len bt_len (ia_cons (io_s (i := 1)) ia_nil))) ia_nil)) (blkOk_by (own := [("k", 2)]) (N := N__law_same) (sc := defScope t__law_same) (by decide +kernel)) (fun _ _ _ _ _ => (ig_name (i := 2) S.nd (compl_no (by decide)))) (fun _ _ _ _ _ => its_nil) (fun _ _ _ _ _ => (ie_call crec hr (Nat.le_refl _) (by rfl) (ia_cons (io_e (ie_ix (ig_ix hu) ok_g2 (io_s (i := 0)) (io_s (i := 2)))) (ia_cons (io_e (ie_ix (ig_ix hu) ok_g2 (io_s (i := 1)) (io_s (i := 2)))) ia_nil)))))) (by rfl))) ib_nil))) ib_nil) (ib_cons (is_if (it_w (iw_or (it_cmp (op_ne2 hu) okNe_ne (io_e (ie_isi (by rfl) fr.f_isinstance (io_s (i := 0)) bt_bool (by rfl) fr.f_bool (by decide))) (io_e (ie_isi (by rfl) fr.f_isinstance (io_s (i := 1)) bt_bool (by rfl) fr.f_bool (by decide))) (nomark _)) (iw_or1 (it_cmp (op_ne2 hu) okNe_ne (io_e (ie_isi (by rfl) fr.f_isinstance (io_s (i := 0)) bt_int (by rfl) fr.f_int (by decide))) (io_e (ie_isi (by rfl) fr.f_isinstance (io_s (i := 1)) bt_int (by rfl) fr.f_int (by decide))) (nomark _))))) (ib_cons (is_ret ie_bl) ib_nil) ib_nil) (ib_cons (is_if (it_w (iw_or (it_cmp (op_ne2 hu) okNe_ne (io_e (ie_isi (by rfl) fr.f_isinstance (io_s (i := 0)) bt_str (by rfl) fr.f_str (by decide))) (io_e (ie_isi (by rfl) fr.f_isinstance (io_s (i := 1)) bt_str (by rfl) fr.f_str (by decide))) (nomark _)) (iw_or1 (it_cmp (op_ne2 hu) okNe_ne (io_e (ie_cmp og_is ok_g2 (io_s (i := 0)) (io_e ie_non) (nomark _))) (io_e (ie_cmp og_is ok_g2 (io_s (i := 1)) (io_e ie_non) (nomark _))) (nomark _))))) (ib_cons (is_ret ie_bl) ib_nil) ib_nil) (ib_cons (is_ret (ie_cmp (op_eq2 hu) okEq_eq (io_s (i := 0)) (io_s (i := 1)) (nomark _))) ib_nil))))
abbrev N__law_letters : List Str := ["draws", "every", "found", "k", "letter"]
theorem sc__law_letters : FnScope N__law_letters ["draws"] (defScope t__law_letters) := ⟨rfl, rfl, rfl, by decide +kernel, rfl, by decide +kernel, by decide +kernel⟩
theorem c__law_letters (D : Ds K mg) (fr : Fr mg) : CalW P w K mg base 3 "_law_letters" [0] 1 s__law_letters := by
    have S := sc__law_letters
    obtain ⟨f, fd, F, hm⟩ := D.h__law_letters
    rw [s__law_letters_eq]
    refine cal_ok (N := N__law_letters) (ps := ["draws"]) F hm (F.bindsN fun _ _ _ _ _ _ us hl => match us, hl with | [_], _ => rfl) S rfl rfl fun cdv A outer s H E hr => ?_
    have hv := u128 hr
    have hu := u64 hr
    exact (ib_cons (is_set (i := 1) S.nd (by decide) (ie_callTy (cg_list rfl) ok_gL (by rfl) fr.f_list bt_list (ia_cons (io_e (ie_str rfl (by decide))) ia_nil))) (ib_cons (is_if (it_cmp (op_eq2 hu) okEq_eq (io_e (ie_call (c__law_take D fr) hr (by decide) (by rfl) (ia_cons (io_s (i := 0)) (ia_cons (io_e ie_int) ia_nil)))) (io_e ie_int) (nomark _)) (ib_cons (is_ret (ie_mov (i := 1))) ib_nil) ib_nil) (ib_cons (is_set (i := 2) S.nd (by decide) (ie_lst ia_nil)) (ib_cons (is_for PassesOwn.never rfl (ii_range1 (by rfl) fr.f_range (ia_cons (io_e (ie_op og_add ok_g2 (io_e ie_int) (io_e (ie_call (c__law_take D fr) hr (by decide) (by rfl) (ia_cons (io_s (i := 0)) (ia_cons (io_e ie_int) ia_nil)))))) ia_nil)) (ig_name (i := 3) S.nd (by decide)) (ib_cons (is_set (i := 4) S.nd (by decide) (ie_call (c__law_pick D fr) hr (by decide) (by rfl) (ia_cons (io_s (i := 0)) (ia_cons (io_s (i := 1)) ia_nil)))) (ib_cons (is_if (it_cmp (og_notIn hv) ok_g2 (io_s (i := 4)) (io_s (i := 2)) (by rfl)) (ib_cons (is_drop (ie_mut (i := 2) PySem.F.plainAttrs_list PySem.F.slot_list_append PySem.F.type_list_append mt_append okTy_lst okM_app (ia_cons (io_e (ie_var (i := 4))) ia_nil))) ib_nil) ib_nil) ib_nil))) (ib_cons (is_ret (ie_mov (i := 2))) ib_nil)))))
abbrev N__law_text_of : List Str := ["draws", "letters", "most", "k"]
theorem sc__law_text_of : FnScope N__law_text_of ["draws", "letters", "most"] (defScope t__law_text_of) := ⟨rfl, rfl, rfl, by decide +kernel, rfl, by decide +kernel, by decide +kernel⟩
theorem c__law_text_of (D : Ds K mg) (fr : Fr mg) : CalW P w K mg base 3 "_law_text_of" [0] 3 s__law_text_of := by
    have S := sc__law_text_of
    obtain ⟨f, fd, F, hm⟩ := D.h__law_text_of
    rw [s__law_text_of_eq]
    refine cal_ok (N := N__law_text_of) (ps := ["draws", "letters", "most"]) F hm (F.bindsN fun _ _ _ _ _ _ us hl => match us, hl with | [_, _, _], _ => rfl) S rfl rfl fun cdv A outer s H E hr => ?_
    have hv := u128 hr
    have hu := u64 hr
    exact (ib_cons (is_ret (ie_meth ty_str PySem.F.plainAttrs_str PySem.F.slot_str_join PySem.F.type_str_join mg_join (io_e (ie_str rfl (by decide))) (ia_cons (io_e (ie_lc (own := [("k", 3)]) rfl S.nd (ii_range1 (by rfl) fr.f_range (ia_cons (io_e (ie_call (c__law_take D fr) hr (by decide) (by rfl) (ia_cons (io_s (i := 0)) (ia_cons (io_e (ie_op og_add ok_g2 (io_s (i := 2)) (io_e ie_int))) ia_nil)))) ia_nil)) (blkOk_by (own := [("k", 3)]) (N := N__law_text_of) (sc := defScope t__law_text_of) (by decide +kernel)) (fun _ _ _ _ _ => (ig_name (i := 3) S.nd (compl_no (by decide)))) (fun _ _ _ _ _ => its_nil) (fun _ _ _ _ _ => (ie_call (c__law_pick D fr) hr (by decide) (by rfl) (ia_cons (io_s (i := 0)) (ia_cons (io_s (i := 1)) ia_nil)))))) ia_nil))) ib_nil)
abbrev N__law_word : List Str := ["draws", "letters", "size", "k"]
theorem sc__law_word : FnScope N__law_word ["draws", "letters"] (defScope t__law_word) := ⟨rfl, rfl, rfl, by decide +kernel, rfl, by decide +kernel, by decide +kernel⟩
theorem c__law_word (D : Ds K mg) (fr : Fr mg) : CalW P w K mg base 3 "_law_word" [0] 2 s__law_word := by
    have S := sc__law_word
    obtain ⟨f, fd, F, hm⟩ := D.h__law_word
    rw [s__law_word_eq]
    refine cal_ok (N := N__law_word) (ps := ["draws", "letters"]) F hm (F.bindsN fun _ _ _ _ _ _ us hl => match us, hl with | [_, _], _ => rfl) S rfl rfl fun cdv A outer s H E hr => ?_
    have hv := u128 hr
    have hu := u64 hr
    exact (ib_cons (is_set (i := 2) S.nd (by decide) (ie_op og_add ok_g2 (io_e ie_int) (io_e (ie_call (c__law_take D fr) hr (by decide) (by rfl) (ia_cons (io_s (i := 0)) (ia_cons (io_e ie_int) ia_nil)))))) (ib_cons (is_if (it_cmp (op_eq2 hu) okEq_eq (io_e (ie_call (c__law_take D fr) hr (by decide) (by rfl) (ia_cons (io_s (i := 0)) (ia_cons (io_e ie_int) ia_nil)))) (io_e ie_int) (nomark _)) (ib_cons (is_set (i := 2) S.nd (by decide) (ie_op og_add ok_g2 (io_e ie_int) (io_e (ie_call (c__law_take D fr) hr (by decide) (by rfl) (ia_cons (io_s (i := 0)) (ia_cons (io_e ie_int) ia_nil)))))) ib_nil) ib_nil) (ib_cons (is_ret (ie_meth ty_str PySem.F.plainAttrs_str PySem.F.slot_str_join PySem.F.type_str_join mg_join (io_e (ie_str rfl (by decide))) (ia_cons (io_e (ie_lc (own := [("k", 3)]) rfl S.nd (ii_range1 (by rfl) fr.f_range (ia_cons (io_s (i := 2)) ia_nil)) (blkOk_by (own := [("k", 3)]) (N := N__law_word) (sc := defScope t__law_word) (by decide +kernel)) (fun _ _ _ _ _ => (ig_name (i := 3) S.nd (compl_no (by decide)))) (fun _ _ _ _ _ => its_nil) (fun _ _ _ _ _ => (ie_call (c__law_pick D fr) hr (by decide) (by rfl) (ia_cons (io_s (i := 0)) (ia_cons (io_s (i := 1)) ia_nil)))))) ia_nil))) ib_nil)))
abbrev N__law_words : List Str := ["draws", "letters", "many", "found", "k", "way", "word"]
theorem sc__law_words : FnScope N__law_words ["draws", "letters", "many"] (defScope t__law_words) := ⟨rfl, rfl, rfl, by decide +kernel, rfl, by decide +kernel, by decide +kernel⟩
theorem c__law_words (D : Ds K mg) (fr : Fr mg) : CalW P w K mg base 4 "_law_words" [0] 3 s__law_words := by
    have S := sc__law_words
    obtain ⟨f, fd, F, hm⟩ := D.h__law_words
    rw [s__law_words_eq]
    refine cal_ok (N := N__law_words) (ps := ["draws", "letters", "many"]) F hm (F.bindsN fun _ _ _ _ _ _ us hl => match us, hl with | [_, _, _], _ => rfl) S rfl rfl fun cdv A outer s H E hr => ?_
    have hv := u128 hr
    have hu := u64 hr
    exact (ib_cons (is_set (i := 3) S.nd (by decide) (ie_lst ia_nil)) (ib_cons (is_for PassesOwn.never rfl (ii_range1 (by rfl) fr.f_range (ia_cons (io_e (ie_call (c__law_take D fr) hr (by decide) (by rfl) (ia_cons (io_s (i := 0)) (ia_cons (io_e (ie_op og_add ok_g2 (io_s (i := 2)) (io_e ie_int))) ia_nil)))) ia_nil)) (ig_name (i := 4) S.nd (by decide)) (ib_cons (is_set (i := 5) S.nd (by decide) (ie_call (c__law_take D fr) hr (by decide) (by rfl) (ia_cons (io_s (i := 0)) (ia_cons (io_e ie_int) ia_nil)))) (ib_cons (is_set (i := 6) S.nd (by decide) (ie_call (c__law_word D fr) hr (by decide) (by rfl) (ia_cons (io_s (i := 0)) (ia_cons (io_s (i := 1)) ia_nil)))) (ib_cons (is_if (it_w (iw_and (it_cmp (og_gt hu) ok_g2 (io_e (ie_callB cg_len ok_gL (by rfl) fr.f_len bt_len (ia_cons (io_s (i := 3)) ia_nil))) (io_e ie_int) (nomark _)) (iw_and1 (it_cmp (op_eq2 hu) okEq_eq (io_s (i := 5)) (io_e ie_int) (nomark _))))) (ib_cons (is_set (i := 6) S.nd (by decide) (ie_slH (io_e (ie_op og_add ok_g2 (io_e (ie_call (c__law_pick D fr) hr (by decide) (by rfl) (ia_cons (io_s (i := 0)) (ia_cons (io_s (i := 3)) ia_nil)))) (io_e (ie_call (c__law_pick D fr) hr (by decide) (by rfl) (ia_cons (io_s (i := 0)) (ia_cons (io_s (i := 1)) ia_nil)))))) (io_e ie_int))) ib_nil) ib_nil) (ib_cons (is_if (it_w (iw_and (it_cmp (og_gt hu) ok_g2 (io_e (ie_callB cg_len ok_gL (by rfl) fr.f_len bt_len (ia_cons (io_s (i := 3)) ia_nil))) (io_e ie_int) (nomark _)) (iw_and1 (it_cmp (op_eq2 hu) okEq_eq (io_s (i := 5)) (io_e ie_int) (nomark _))))) (ib_cons (is_set (i := 6) S.nd (by decide) (ie_call (c__law_pick D fr) hr (by decide) (by rfl) (ia_cons (io_s (i := 0)) (ia_cons (io_s (i := 3)) ia_nil)))) (ib_cons (is_set (i := 6) S.nd (by decide) (ie_slH (io_s (i := 6)) (io_e (ie_op og_add ok_g2 (io_e ie_int) (io_e (ie_call (c__law_take D fr) hr (by decide) (by rfl) (ia_cons (io_s (i := 0)) (ia_cons (io_e (ie_callB cg_len ok_gL (by rfl) fr.f_len bt_len (ia_cons (io_s (i := 6)) ia_nil))) ia_nil)))))))) ib_nil)) ib_nil) (ib_cons (is_if (it_cmp (og_notIn hv) ok_g2 (io_s (i := 6)) (io_s (i := 3)) (by rfl)) (ib_cons (is_drop (ie_mut (i := 3) PySem.F.plainAttrs_list PySem.F.slot_list_append PySem.F.type_list_append mt_append okTy_lst okM_app (ia_cons (io_e (ie_var (i := 6))) ia_nil))) ib_nil) ib_nil) ib_nil)))))) (ib_cons (is_ret (ie_callTy cg_tuple ok_gL (by rfl) fr.f_tuple bt_tuple (ia_cons (io_e (ie_callB (cg_sorted rfl hv) ok_gL (by rfl) fr.f_sorted bt_sorted (ia_cons (io_s (i := 3)) ia_nil))) ia_nil))) ib_nil)))
abbrev N__law_worth : List Str := ["draws", "small"]
theorem sc__law_worth : FnScope N__law_worth ["draws"] (defScope t__law_worth) := ⟨rfl, rfl, rfl, by decide +kernel, rfl, by decide +kernel, by decide +kernel⟩
theorem c__law_worth (D : Ds K mg) (fr : Fr mg) : CalW P w K mg base 3 "_law_worth" [0] 1 s__law_worth := by
    have S := sc__law_worth
    obtain ⟨f, fd, F, hm⟩ := D.h__law_worth
    rw [s__law_worth_eq]
    refine cal_ok (N := N__law_worth) (ps := ["draws"]) F hm (F.bindsN fun _ _ _ _ _ _ us hl => match us, hl with | [_], _ => rfl) S rfl rfl fun cdv A outer s H E hr => ?_
    have hv := u128 hr
    have hu := u64 hr
    exact (ib_cons (is_set (i := 1) S.nd (by decide) (ie_op og_sub ok_g2 (io_e (ie_call (c__law_take D fr) hr (by decide) (by rfl) (ia_cons (io_s (i := 0)) (ia_cons (io_e ie_int) ia_nil)))) (io_e ie_int))) (ib_cons (is_if (it_cmp (og_gt hu) ok_g2 (io_e (ie_call (c__law_take D fr) hr (by decide) (by rfl) (ia_cons (io_s (i := 0)) (ia_cons (io_e ie_int) ia_nil)))) (io_e ie_int) (nomark _)) (ib_cons (is_ret (ie_mov (i := 1))) ib_nil) ib_nil) (ib_cons (is_ret (ie_op og_add ok_g2 (io_s (i := 1)) (io_e (ie_call (c__law_pick D fr) hr (by decide) (by rfl) (ia_cons (io_s (i := 0)) (ia_cons (io_e (ie_lst (ia_cons (io_e ie_int) (ia_cons (io_e (ie_un ug_neg ok_g1 (io_e ie_int))) (ia_cons (io_e (ie_op og_add ok_g2 (io_e (ie_op og_pow ok_g2 (io_e ie_int) (io_e ie_int))) (io_e ie_int))) (ia_cons (io_e (ie_op og_add ok_g2 (io_e (ie_op og_pow ok_g2 (io_e ie_int) (io_e ie_int))) (io_e ie_int))) (ia_cons (io_e (ie_un ug_neg ok_g1 (io_e (ie_op og_pow ok_g2 (io_e ie_int) (io_e ie_int))))) ia_nil))))))) ia_nil)))))) ib_nil)))
abbrev N__law_store_of : List Str := ["draws", "words", "worth", "word"]
theorem sc__law_store_of : FnScope N__law_store_of ["draws", "words"] (defScope t__law_store_of) := ⟨rfl, rfl, rfl, by decide +kernel, rfl, by decide +kernel, by decide +kernel⟩
theorem c__law_store_of (D : Ds K mg) (fr : Fr mg) : CalW P w K mg base 4 "_law_store_of" [0] 2 s__law_store_of := by
    have S := sc__law_store_of
    obtain ⟨f, fd, F, hm⟩ := D.h__law_store_of
    rw [s__law_store_of_eq]
    refine cal_ok (N := N__law_store_of) (ps := ["draws", "words"]) F hm (F.bindsN fun _ _ _ _ _ _ us hl => match us, hl with | [_, _], _ => rfl) S rfl rfl fun cdv A outer s H E hr => ?_
    have hv := u128 hr
    have hu := u64 hr
    exact (ib_cons (is_set (i := 2) S.nd (by decide) (ie_call (c__law_worth D fr) hr (by decide) (by rfl) (ia_cons (io_s (i := 0)) ia_nil))) (ib_cons (is_if (it_cmp (op_eq2 hu) okEq_eq (io_e (ie_call (c__law_take D fr) hr (by decide) (by rfl) (ia_cons (io_s (i := 0)) (ia_cons (io_e ie_int) ia_nil)))) (io_e ie_int) (nomark _)) (ib_cons (is_ret (ie_callTy cg_tuple ok_gL (by rfl) fr.f_tuple bt_tuple (ia_cons (io_e (ie_lc (own := [("word", 3)]) rfl S.nd (ii_seq (ie_var (i := 1))) (blkOk_by (own := [("word", 3)]) (N := N__law_store_of) (sc := defScope t__law_store_of) (by decide +kernel)) (fun _ _ _ _ _ => (ig_name (i := 3) S.nd (compl_no (by decide)))) (fun _ _ _ _ _ => its_nil) (fun _ _ _ _ _ => (ie_tup (ia_cons (io_e (ie_var (i := 3))) (ia_cons (io_e (ie_var (i := 2))) ia_nil)))))) ia_nil))) ib_nil) ib_nil) (ib_cons (is_ret (ie_callTy cg_tuple ok_gL (by rfl) fr.f_tuple bt_tuple (ia_cons (io_e (ie_lc (own := [("word", 3)]) rfl S.nd (ii_seq (ie_var (i := 1))) (blkOk_by (own := [("word", 3)]) (N := N__law_store_of) (sc := defScope t__law_store_of) (by decide +kernel)) (fun _ _ _ _ _ => (ig_name (i := 3) S.nd (compl_no (by decide)))) (fun _ _ _ _ _ => its_nil) (fun _ _ _ _ _ => (ie_tup (ia_cons (io_e (ie_var (i := 3))) (ia_cons (io_e (ie_call (c__law_worth D fr) hr (by decide) (by rfl) (ia_cons (io_s (i := 0)) ia_nil))) ia_nil)))))) ia_nil))) ib_nil)))
abbrev N__law_store : List Str := ["draws", "letters", "many"]
theorem sc__law_store : FnScope N__law_store ["draws", "letters", "many"] (defScope t__law_store) := ⟨rfl, rfl, rfl, by decide +kernel, rfl, by decide +kernel, by decide +kernel⟩
theorem c__law_store (D : Ds K mg) (fr : Fr mg) : CalW P w K mg base 5 "_law_store" [0] 3 s__law_store := by
    have S := sc__law_store
    obtain ⟨f, fd, F, hm⟩ := D.h__law_store
    rw [s__law_store_eq]
    refine cal_ok (N := N__law_store) (ps := ["draws", "letters", "many"]) F hm (F.bindsN fun _ _ _ _ _ _ us hl => match us, hl with | [_, _, _], _ => rfl) S rfl rfl fun cdv A outer s H E hr => ?_
    have hv := u128 hr
    have hu := u64 hr
    exact (ib_cons (is_ret (ie_call (c__law_store_of D fr) hr (by decide) (by rfl) (ia_cons (io_s (i := 0)) (ia_cons (io_e (ie_call (c__law_words D fr) hr (by decide) (by rfl) (ia_cons (io_s (i := 0)) (ia_cons (io_s (i := 1)) (ia_cons (io_s (i := 2)) ia_nil))))) ia_nil)))) ib_nil)
abbrev N__law_typed : List Str := ["draws", "letters", "words", "way", "word"]
theorem sc__law_typed : FnScope N__law_typed ["draws", "letters", "words"] (defScope t__law_typed) := ⟨rfl, rfl, rfl, by decide +kernel, rfl, by decide +kernel, by decide +kernel⟩
theorem c__law_typed (D : Ds K mg) (fr : Fr mg) : CalW P w K mg base 4 "_law_typed" [0] 3 s__law_typed := by
    have S := sc__law_typed
    obtain ⟨f, fd, F, hm⟩ := D.h__law_typed
    rw [s__law_typed_eq]
    refine cal_ok (N := N__law_typed) (ps := ["draws", "letters", "words"]) F hm (F.bindsN fun _ _ _ _ _ _ us hl => match us, hl with | [_, _, _], _ => rfl) S rfl rfl fun cdv A outer s H E hr => ?_
    have hv := u128 hr
    have hu := u64 hr
    exact (ib_cons (is_set (i := 3) S.nd (by decide) (ie_call (c__law_take D fr) hr (by decide) (by rfl) (ia_cons (io_s (i := 0)) (ia_cons (io_e ie_int) ia_nil)))) (ib_cons (is_if (it_cmp (op_eq2 hu) okEq_eq (io_s (i := 3)) (io_e ie_int) (nomark _)) (ib_cons (is_ret (ie_str rfl (by decide))) ib_nil) ib_nil) (ib_cons (is_if (it_w (iw_or (it_cmp (op_eq2 hu) okEq_eq (io_s (i := 3)) (io_e ie_int) (nomark _)) (iw_or1 (it_cmp (op_eq2 hu) okEq_eq (io_e (ie_callB cg_len ok_gL (by rfl) fr.f_len bt_len (ia_cons (io_s (i := 2)) ia_nil))) (io_e ie_int) (nomark _))))) (ib_cons (is_ret (ie_call (c__law_text_of D fr) hr (by decide) (by rfl) (ia_cons (io_s (i := 0)) (ia_cons (io_s (i := 1)) (ia_cons (io_e ie_int) ia_nil))))) ib_nil) ib_nil) (ib_cons (is_set (i := 4) S.nd (by decide) (ie_call (c__law_pick D fr) hr (by decide) (by rfl) (ia_cons (io_s (i := 0)) (ia_cons (io_s (i := 2)) ia_nil)))) (ib_cons (is_if (it_cmp (op_eq2 hu) okEq_eq (io_s (i := 3)) (io_e ie_int) (nomark _)) (ib_cons (is_ret (ie_mov (i := 4))) ib_nil) ib_nil) (ib_cons (is_if (it_cmp (op_eq2 hu) okEq_eq (io_s (i := 3)) (io_e ie_int) (nomark _)) (ib_cons (is_ret (ie_op og_add ok_g2 (io_s (i := 4)) (io_e (ie_call (c__law_pick D fr) hr (by decide) (by rfl) (ia_cons (io_s (i := 0)) (ia_cons (io_s (i := 1)) ia_nil)))))) ib_nil) ib_nil) (ib_cons (is_ret (ie_slH (io_s (i := 4)) (io_e (ie_call (c__law_take D fr) hr (by decide) (by rfl) (ia_cons (io_s (i := 0)) (ia_cons (io_e (ie_op og_add ok_g2 (io_e (ie_callB (cg_min2 rfl) ok_gL (by rfl) fr.f_min bt_min (ia_cons (io_e (ie_callB cg_len ok_gL (by rfl) fr.f_len bt_len (ia_cons (io_s (i := 4)) ia_nil))) (ia_cons (io_e ie_int) ia_nil)))) (io_e ie_int))) ia_nil)))))) ib_nil)))))))
abbrev N__law_k : List Str := ["draws"]
theorem sc__law_k : FnScope N__law_k ["draws"] (defScope t__law_k) := ⟨rfl, rfl, rfl, by decide +kernel, rfl, by decide +kernel, by decide +kernel⟩
theorem c__law_k (D : Ds K mg) (fr : Fr mg) : CalW P w K mg base 3 "_law_k" [0] 1 s__law_k := by
    have S := sc__law_k
    obtain ⟨f, fd, F, hm⟩ := D.h__law_k
    rw [s__law_k_eq]
    refine cal_ok (N := N__law_k) (ps := ["draws"]) F hm (F.bindsN fun _ _ _ _ _ _ us hl => match us, hl with | [_], _ => rfl) S rfl rfl fun cdv A outer s H E hr => ?_
    have hv := u128 hr
    have hu := u64 hr
    exact (ib_cons (is_ret (ie_call (c__law_pick D fr) hr (by decide) (by rfl) (ia_cons (io_s (i := 0)) (ia_cons (io_e (ie_lst (ia_cons (io_e ie_int) (ia_cons (io_e ie_int) (ia_cons (io_e ie_int) (ia_cons (io_e ie_int) (ia_cons (io_e ie_int) (ia_cons (io_e ie_int) (ia_cons (io_e ie_int) (ia_cons (io_e ie_int) (ia_cons (io_e ie_int) (ia_cons (io_e ie_int) ia_nil)))))))))))) ia_nil)))) ib_nil)
abbrev N__law_behind : List Str := ["store", "text", "pair"]
theorem sc__law_behind : FnScope N__law_behind ["store", "text"] (defScope t__law_behind) := ⟨rfl, rfl, rfl, by decide +kernel, rfl, by decide +kernel, by decide +kernel⟩
theorem c__law_behind (D : Ds K mg) (fr : Fr mg) : CalW P w K mg base 1 "_law_behind" [] 2 s__law_behind := by
    have S := sc__law_behind
    obtain ⟨f, fd, F, hm⟩ := D.h__law_behind
    rw [s__law_behind_eq]
    refine cal_ok (N := N__law_behind) (ps := ["store", "text"]) F hm (F.bindsN fun _ _ _ _ _ _ us hl => match us, hl with | [_, _], _ => rfl) S rfl rfl fun cdv A outer s H E hr => ?_
    have hv := u128 hr
    have hu := u64 hr
    exact (ib_cons (is_ret (ie_lc (own := [("pair", 2)]) rfl S.nd (ii_seq (ie_var (i := 0))) (blkOk_by (own := [("pair", 2)]) (N := N__law_behind) (sc := defScope t__law_behind) (by decide +kernel)) (fun _ _ _ _ _ => (ig_name (i := 2) S.nd (compl_no (by decide)))) (fun _ _ _ _ _ => (its_one (it_cmp (op_eq2 hu) okEq_eq (io_e (ie_slH (io_e (ie_ix (ig_ix hu) ok_g2 (io_s (i := 2)) (io_e ie_int))) (io_e (ie_callB cg_len ok_gL (by rfl) fr.f_len bt_len (ia_cons (io_s (i := 1)) ia_nil))))) (io_s (i := 1)) (nomark _)))) (fun _ _ _ _ _ => (ie_var (i := 2))))) ib_nil)
abbrev N__law_best : List Str := ["pairs", "k", "pair", "order"]
theorem sc__law_best : FnScope N__law_best ["pairs", "k"] (defScope t__law_best) := ⟨rfl, rfl, rfl, by decide +kernel, rfl, by decide +kernel, by decide +kernel⟩
theorem c__law_best (D : Ds K mg) (fr : Fr mg) : CalW P w K mg base 1 "_law_best" [] 2 s__law_best := by
    have S := sc__law_best
    obtain ⟨f, fd, F, hm⟩ := D.h__law_best
    rw [s__law_best_eq]
    refine cal_ok (N := N__law_best) (ps := ["pairs", "k"]) F hm (F.bindsN fun _ _ _ _ _ _ us hl => match us, hl with | [_, _], _ => rfl) S rfl rfl fun cdv A outer s H E hr => ?_
    have hv := u128 hr
    have hu := u64 hr
    exact (ib_cons (is_set (i := 3) S.nd (by decide) (ie_callB (cg_sorted rfl hv) ok_gL (by rfl) fr.f_sorted bt_sorted (ia_cons (io_e (ie_lc (own := [("pair", 2)]) rfl S.nd (ii_seq (ie_var (i := 0))) (blkOk_by (own := [("pair", 2)]) (N := N__law_best) (sc := defScope t__law_best) (by decide +kernel)) (fun _ _ _ _ _ => (ig_name (i := 2) S.nd (compl_no (by decide)))) (fun _ _ _ _ _ => its_nil) (fun _ _ _ _ _ => (ie_tup (ia_cons (io_e (ie_op og_sub ok_g2 (io_e ie_int) (io_e (ie_ix (ig_ix hu) ok_g2 (io_s (i := 2)) (io_e ie_int))))) (ia_cons (io_e (ie_ix (ig_ix hu) ok_g2 (io_s (i := 2)) (io_e ie_int))) ia_nil)))))) ia_nil))) (ib_cons (is_ret (ie_callTy cg_tuple ok_gL (by rfl) fr.f_tuple bt_tuple (ia_cons (io_e (ie_lc (own := [("pair", 2)]) rfl S.nd (ii_seq (ie_slH (io_s (i := 3)) (io_s (i := 1)))) (blkOk_by (own := [("pair", 2)]) (N := N__law_best) (sc := defScope t__law_best) (by decide +kernel)) (fun _ _ _ _ _ => (ig_name (i := 2) S.nd (compl_no (by decide)))) (fun _ _ _ _ _ => its_nil) (fun _ _ _ _ _ => (ie_ix (ig_ix hu) ok_g2 (io_s (i := 2)) (io_e ie_int))))) ia_nil))) ib_nil))
abbrev N__law_row : List Str := ["store", "text", "k"]
theorem sc__law_row : FnScope N__law_row ["store", "text", "k"] (defScope t__law_row) := ⟨rfl, rfl, rfl, by decide +kernel, rfl, by decide +kernel, by decide +kernel⟩
theorem c__law_row (D : Ds K mg) (fr : Fr mg) : CalW P w K mg base 2 "_law_row" [] 3 s__law_row := by
    have S := sc__law_row
    obtain ⟨f, fd, F, hm⟩ := D.h__law_row
    rw [s__law_row_eq]
    refine cal_ok (N := N__law_row) (ps := ["store", "text", "k"]) F hm (F.bindsN fun _ _ _ _ _ _ us hl => match us, hl with | [_, _, _], _ => rfl) S rfl rfl fun cdv A outer s H E hr => ?_
    have hv := u128 hr
    have hu := u64 hr
    exact (ib_cons (is_ret (ie_call (c__law_best D fr) hr (by decide) (by rfl) (ia_cons (io_e (ie_call (c__law_behind D fr) hr (by decide) (by rfl) (ia_cons (io_s (i := 0)) (ia_cons (io_s (i := 1)) ia_nil)))) (ia_cons (io_s (i := 2)) ia_nil)))) ib_nil)
abbrev N__law_begun : List Str := ["text", "size"]
theorem sc__law_begun : FnScope N__law_begun ["text"] (defScope t__law_begun) := ⟨rfl, rfl, rfl, by decide +kernel, rfl, by decide +kernel, by decide +kernel⟩
theorem c__law_begun (D : Ds K mg) (fr : Fr mg) : CalW P w K mg base 1 "_law_begun" [] 1 s__law_begun := by
    have S := sc__law_begun
    obtain ⟨f, fd, F, hm⟩ := D.h__law_begun
    rw [s__law_begun_eq]
    refine cal_ok (N := N__law_begun) (ps := ["text"]) F hm (F.bindsN fun _ _ _ _ _ _ us hl => match us, hl with | [_], _ => rfl) S rfl rfl fun cdv A outer s H E hr => ?_
    have hv := u128 hr
    have hu := u64 hr
    exact (ib_cons (is_ret (ie_lc (own := [("size", 1)]) rfl S.nd (ii_range1 (by rfl) fr.f_range (ia_cons (io_e (ie_op og_add ok_g2 (io_e (ie_callB cg_len ok_gL (by rfl) fr.f_len bt_len (ia_cons (io_s (i := 0)) ia_nil))) (io_e ie_int))) ia_nil)) (blkOk_by (own := [("size", 1)]) (N := N__law_begun) (sc := defScope t__law_begun) (by decide +kernel)) (fun _ _ _ _ _ => (ig_name (i := 1) S.nd (compl_no (by decide)))) (fun _ _ _ _ _ => its_nil) (fun _ _ _ _ _ => (ie_slH (io_s (i := 0)) (io_s (i := 1)))))) ib_nil)
abbrev N__law_nodes : List Str := ["words", "found", "word", "text"]
theorem sc__law_nodes : FnScope N__law_nodes ["words"] (defScope t__law_nodes) := ⟨rfl, rfl, rfl, by decide +kernel, rfl, by decide +kernel, by decide +kernel⟩
theorem c__law_nodes (D : Ds K mg) (fr : Fr mg) : CalW P w K mg base 2 "_law_nodes" [] 1 s__law_nodes := by
    have S := sc__law_nodes
    obtain ⟨f, fd, F, hm⟩ := D.h__law_nodes
    rw [s__law_nodes_eq]
    refine cal_ok (N := N__law_nodes) (ps := ["words"]) F hm (F.bindsN fun _ _ _ _ _ _ us hl => match us, hl with | [_], _ => rfl) S rfl rfl fun cdv A outer s H E hr => ?_
    have hv := u128 hr
    have hu := u64 hr
    exact (ib_cons (is_set (i := 1) S.nd (by decide) ie_d0) (ib_cons (is_for PassesOwn.never rfl (ii_seq (ie_var (i := 0))) (ig_name (i := 2) S.nd (by decide)) (ib_cons (is_for PassesOwn.never rfl (ii_seq (ie_call (c__law_begun D fr) hr (by decide) (by rfl) (ia_cons (io_s (i := 2)) ia_nil))) (ig_name (i := 3) S.nd (by decide)) (ib_cons (is_asg ie_bl (ig_put (i := 1) hu (ie_var (i := 3)))) ib_nil)) ib_nil)) (ib_cons (is_ret (ie_callB (cg_sorted rfl hv) ok_gL (by rfl) fr.f_sorted bt_sorted (ia_cons (io_s (i := 1)) ia_nil))) ib_nil)))
abbrev N__law_words_of : List Str := ["store", "pair"]
theorem sc__law_words_of : FnScope N__law_words_of ["store"] (defScope t__law_words_of) := ⟨rfl, rfl, rfl, by decide +kernel, rfl, by decide +kernel, by decide +kernel⟩
theorem c__law_words_of (D : Ds K mg) (fr : Fr mg) : CalW P w K mg base 1 "_law_words_of" [] 1 s__law_words_of := by
    have S := sc__law_words_of
    obtain ⟨f, fd, F, hm⟩ := D.h__law_words_of
    rw [s__law_words_of_eq]
    refine cal_ok (N := N__law_words_of) (ps := ["store"]) F hm (F.bindsN fun _ _ _ _ _ _ us hl => match us, hl with | [_], _ => rfl) S rfl rfl fun cdv A outer s H E hr => ?_
    have hv := u128 hr
    have hu := u64 hr
    exact (ib_cons (is_ret (ie_callTy cg_tuple ok_gL (by rfl) fr.f_tuple bt_tuple (ia_cons (io_e (ie_lc (own := [("pair", 1)]) rfl S.nd (ii_seq (ie_var (i := 0))) (blkOk_by (own := [("pair", 1)]) (N := N__law_words_of) (sc := defScope t__law_words_of) (by decide +kernel)) (fun _ _ _ _ _ => (ig_name (i := 1) S.nd (compl_no (by decide)))) (fun _ _ _ _ _ => its_nil) (fun _ _ _ _ _ => (ie_ix (ig_ix hu) ok_g2 (io_s (i := 1)) (io_e ie_int))))) ia_nil))) ib_nil)
abbrev N__law_worth_in : List Str := ["store", "word", "pair", "found"]
theorem sc__law_worth_in : FnScope N__law_worth_in ["store", "word"] (defScope t__law_worth_in) := ⟨rfl, rfl, rfl, by decide +kernel, rfl, by decide +kernel, by decide +kernel⟩
theorem c__law_worth_in (D : Ds K mg) (fr : Fr mg) : CalW P w K mg base 1 "_law_worth_in" [] 2 s__law_worth_in := by
    have S := sc__law_worth_in
    obtain ⟨f, fd, F, hm⟩ := D.h__law_worth_in
    rw [s__law_worth_in_eq]
    refine cal_ok (N := N__law_worth_in) (ps := ["store", "word"]) F hm (F.bindsN fun _ _ _ _ _ _ us hl => match us, hl with | [_, _], _ => rfl) S rfl rfl fun cdv A outer s H E hr => ?_
    have hv := u128 hr
    have hu := u64 hr
    exact (ib_cons (is_setLc (i := 3) (own := [("pair", 2)]) rfl S.nd (by decide) (ii_seq (ie_var (i := 0))) (blkOk_by (own := [("pair", 2)]) (N := N__law_worth_in) (sc := defScope t__law_worth_in) (by decide +kernel)) (fun _ _ _ _ _ => (ig_name (i := 2) S.nd (compl_no (by decide)))) (fun _ _ _ _ _ => (its_one (it_cmp (op_eq2 hu) okEq_eq (io_e (ie_ix (ig_ix hu) ok_g2 (io_s (i := 2)) (io_e ie_int))) (io_s (i := 1)) (nomark _)))) (fun _ _ _ _ _ => (ie_ix (ig_ix hu) ok_g2 (io_s (i := 2)) (io_e ie_int))) (sw_true rfl rfl rfl (by decide +kernel))) (ib_cons (is_ret (ie_ix (ig_ix hu) ok_g2 (io_e (ie_op og_add ok_g2 (io_s (i := 3)) (io_e (ie_lst (ia_cons (io_e ie_non) ia_nil))))) (io_e ie_int))) ib_nil))
abbrev N__law_tree : List Str := ["draws", "letters", "k", "words", "turn", "begin", "j", "word"]
theorem sc__law_tree : FnScope N__law_tree ["draws", "letters", "k"] (defScope t__law_tree) := ⟨rfl, rfl, rfl, by decide +kernel, rfl, by decide +kernel, by decide +kernel⟩
theorem c__law_tree (D : Ds K mg) (fr : Fr mg) : CalW P w K mg base 5 "_law_tree" [0] 3 s__law_tree := by
    have S := sc__law_tree
    obtain ⟨f, fd, F, hm⟩ := D.h__law_tree
    rw [s__law_tree_eq]
    refine cal_ok (N := N__law_tree) (ps := ["draws", "letters", "k"]) F hm (F.bindsN fun _ _ _ _ _ _ us hl => match us, hl with | [_, _, _], _ => rfl) S rfl rfl fun cdv A outer s H E hr => ?_
    have hv := u128 hr
    have hu := u64 hr
    exact (ib_cons (is_set (i := 3) S.nd (by decide) (ie_lst ia_nil)) (ib_cons (is_for PassesOwn.never rfl (ii_range1 (by rfl) fr.f_range (ia_cons (io_e (ie_op og_add ok_g2 (io_e ie_int) (io_e (ie_call (c__law_take D fr) hr (by decide) (by rfl) (ia_cons (io_s (i := 0)) (ia_cons (io_e ie_int) ia_nil)))))) ia_nil)) (ig_name (i := 4) S.nd (by decide)) (ib_cons (is_set (i := 5) S.nd (by decide) (ie_call (c__law_text_of D fr) hr (by decide) (by rfl) (ia_cons (io_s (i := 0)) (ia_cons (io_s (i := 1)) (ia_cons (io_e ie_int) ia_nil))))) (ib_cons (is_for PassesOwn.never rfl (ii_range1 (by rfl) fr.f_range (ia_cons (io_e (ie_call (c__law_pick D fr) hr (by decide) (by rfl) (ia_cons (io_s (i := 0)) (ia_cons (io_e (ie_lst (ia_cons (io_e ie_int) (ia_cons (io_e (ie_callB (cg_min2 rfl) ok_gL (by rfl) fr.f_min bt_min (ia_cons (io_s (i := 2)) (ia_cons (io_e ie_int) ia_nil)))) (ia_cons (io_e (ie_callB (cg_min2 rfl) ok_gL (by rfl) fr.f_min bt_min (ia_cons (io_s (i := 2)) (ia_cons (io_e ie_int) ia_nil)))) (ia_cons (io_e (ie_callB (cg_min2 rfl) ok_gL (by rfl) fr.f_min bt_min (ia_cons (io_e (ie_op og_add ok_g2 (io_s (i := 2)) (io_e ie_int))) (ia_cons (io_e ie_int) ia_nil)))) ia_nil)))))) ia_nil)))) ia_nil)) (ig_name (i := 6) S.nd (by decide)) (ib_cons (is_set (i := 7) S.nd (by decide) (ie_op og_add ok_g2 (io_s (i := 5)) (io_e (ie_call (c__law_text_of D fr) hr (by decide) (by rfl) (ia_cons (io_s (i := 0)) (ia_cons (io_s (i := 1)) (ia_cons (io_e ie_int) ia_nil))))))) (ib_cons (is_if (it_w (iw_and (it_cmp (op_ne2 hu) okNe_ne (io_s (i := 7)) (io_e (ie_str rfl (by decide))) (nomark _)) (iw_and (it_cmp (og_notIn hv) ok_g2 (io_s (i := 7)) (io_s (i := 3)) (by rfl)) (iw_and1 (it_cmp (og_lt hu) ok_g2 (io_e (ie_callB cg_len ok_gL (by rfl) fr.f_len bt_len (ia_cons (io_s (i := 3)) ia_nil))) (io_e ie_int) (nomark _)))))) (ib_cons (is_drop (ie_mut (i := 3) PySem.F.plainAttrs_list PySem.F.slot_list_append PySem.F.type_list_append mt_append okTy_lst okM_app (ia_cons (io_e (ie_var (i := 7))) ia_nil))) ib_nil) ib_nil) ib_nil))) ib_nil))) (ib_cons (is_ret (ie_call (c__law_store_of D fr) hr (by decide) (by rfl) (ia_cons (io_s (i := 0)) (ia_cons (io_e (ie_callB (cg_sorted rfl hv) ok_gL (by rfl) fr.f_sorted bt_sorted (ia_cons (io_s (i := 3)) ia_nil))) ia_nil)))) ib_nil)))
abbrev N__law_big_store : List Str := ["draws", "head", "step", "turn", "ties", "table", "k", "number", "word", "j"]
theorem sc__law_big_store : FnScope N__law_big_store ["draws"] (defScope t__law_big_store) := ⟨rfl, rfl, rfl, by decide +kernel, rfl, by decide +kernel, by decide +kernel⟩
theorem c__law_big_store (D : Ds K mg) (fr : Fr mg) : CalW P w K mg base 4 "_law_big_store" [0] 1 s__law_big_store := by
    have S := sc__law_big_store
    obtain ⟨f, fd, F, hm⟩ := D.h__law_big_store
    rw [s__law_big_store_eq]
    refine cal_ok (N := N__law_big_store) (ps := ["draws"]) F hm (F.bindsN fun _ _ _ _ _ _ us hl => match us, hl with | [_], _ => rfl) S rfl rfl fun cdv A outer s H E hr => ?_
    have hv := u128 hr
    have hu := u64 hr
    exact (ib_cons (is_set (i := 1) S.nd (by decide) (ie_call (c__law_text_of D fr) hr (by decide) (by rfl) (ia_cons (io_s (i := 0)) (ia_cons (io_e (ie_lst (ia_cons (io_e (ie_str rfl (by decide))) (ia_cons (io_e (ie_str rfl (by decide))) ia_nil)))) (ia_cons (io_e ie_int) ia_nil))))) (ib_cons (is_set (i := 2) S.nd (by decide) (ie_op og_add ok_g2 (io_e ie_int) (io_e (ie_call (c__law_take D fr) hr (by decide) (by rfl) (ia_cons (io_s (i := 0)) (ia_cons (io_e ie_int) ia_nil)))))) (ib_cons (is_set (i := 3) S.nd (by decide) (ie_op og_add ok_g2 (io_e ie_int) (io_e (ie_call (c__law_take D fr) hr (by decide) (by rfl) (ia_cons (io_s (i := 0)) (ia_cons (io_e ie_int) ia_nil)))))) (ib_cons (is_set (i := 4) S.nd (by decide) (ie_op og_add ok_g2 (io_e ie_int) (io_e (ie_call (c__law_take D fr) hr (by decide) (by rfl) (ia_cons (io_s (i := 0)) (ia_cons (io_e ie_int) ia_nil)))))) (ib_cons (is_set (i := 5) S.nd (by decide) ie_d0) (ib_cons (is_for PassesOwn.never rfl (ii_range1 (by rfl) fr.f_range (ia_cons (io_e (ie_op og_add ok_g2 (io_e ie_int) (io_e (ie_call (c__law_take D fr) hr (by decide) (by rfl) (ia_cons (io_s (i := 0)) (ia_cons (io_e ie_int) ia_nil)))))) ia_nil)) (ig_name (i := 6) S.nd (by decide)) (ib_cons (is_set (i := 7) S.nd (by decide) (ie_op og_mul ok_g2 (io_e (ie_op og_add ok_g2 (io_s (i := 6)) (io_e ie_int))) (io_s (i := 2)))) (ib_cons (is_set (i := 8) S.nd (by decide) (ie_str rfl (by decide))) (ib_cons (is_for PassesOwn.never rfl (ii_range1 (by rfl) fr.f_range (ia_cons (io_e ie_int) ia_nil)) (ig_name (i := 9) S.nd (by decide)) (ib_cons (is_if (it_cmp (og_gt hu) ok_g2 (io_s (i := 7)) (io_e ie_int) (nomark _)) (ib_cons (is_set (i := 8) S.nd (by decide) (ie_op og_add ok_g2 (io_e (ie_ix (ig_ix hu) ok_g2 (io_e (ie_str rfl (by decide))) (io_e (ie_op og_mod ok_g2 (io_e (ie_callTy cg_int ok_gL (by rfl) fr.f_int bt_int (ia_cons (io_s (i := 7)) ia_nil))) (io_e ie_int))))) (io_s (i := 8)))) (ib_cons (is_set (i := 7) S.nd (by decide) (ie_op og_fdiv ok_g2 (io_s (i := 7)) (io_e ie_int))) ib_nil)) ib_nil) ib_nil)) (ib_cons (is_if (it_cmp (og_gt hu) ok_g2 (io_e (ie_op og_mod ok_g2 (io_e (ie_callTy cg_int ok_gL (by rfl) fr.f_int bt_int (ia_cons (io_s (i := 6)) ia_nil))) (io_e ie_int))) (io_e ie_int) (nomark _)) (ib_cons (is_set (i := 8) S.nd (by decide) (ie_op og_add ok_g2 (io_s (i := 1)) (io_s (i := 8)))) ib_nil) ib_nil) (ib_cons (is_asg (ie_fz (ie_op og_sub ok_g2 (io_e (ie_op og_mod ok_g2 (io_e (ie_callTy cg_int ok_gL (by rfl) fr.f_int bt_int (ia_cons (io_e (ie_op og_mul ok_g2 (io_s (i := 6)) (io_s (i := 3)))) ia_nil))) (io_s (i := 4)))) (io_e ie_int))) (ig_put (i := 5) hu (ie_var (i := 8)))) ib_nil)))))) (ib_cons (is_ret (ie_callTy cg_tuple ok_gL (by rfl) fr.f_tuple bt_tuple (ia_cons (io_e (ie_lc (own := [("word", 8)]) rfl S.nd (ii_seq (ie_callB (cg_sorted rfl hv) ok_gL (by rfl) fr.f_sorted bt_sorted (ia_cons (io_s (i := 5)) ia_nil))) (blkOk_by (own := [("word", 8)]) (N := N__law_big_store) (sc := defScope t__law_big_store) (by decide +kernel)) (fun _ _ _ _ _ => (ig_name (i := 8) S.nd (compl_no (by decide)))) (fun _ _ _ _ _ => its_nil) (fun _ _ _ _ _ => (ie_tup (ia_cons (io_e (ie_var (i := 8))) (ia_cons (io_e (ie_ix (ig_ix hu) ok_g2 (io_s (i := 5)) (io_s (i := 8)))) ia_nil)))))) ia_nil))) ib_nil)))))))
abbrev N__law_longer : List Str := ["store", "node", "found", "word"]
theorem sc__law_longer : FnScope N__law_longer ["store", "node"] (defScope t__law_longer) := ⟨rfl, rfl, rfl, by decide +kernel, rfl, by decide +kernel, by decide +kernel⟩
theorem c__law_longer (D : Ds K mg) (fr : Fr mg) : CalW P w K mg base 2 "_law_longer" [] 2 s__law_longer := by
    have S := sc__law_longer
    obtain ⟨f, fd, F, hm⟩ := D.h__law_longer
    rw [s__law_longer_eq]
    refine cal_ok (N := N__law_longer) (ps := ["store", "node"]) F hm (F.bindsN fun _ _ _ _ _ _ us hl => match us, hl with | [_, _], _ => rfl) S rfl rfl fun cdv A outer s H E hr => ?_
    have hv := u128 hr
    have hu := u64 hr
    exact (ib_cons (is_set (i := 2) S.nd (by decide) ie_d0) (ib_cons (is_for PassesOwn.never rfl (ii_seq (ie_call (c__law_words_of D fr) hr (by decide) (by rfl) (ia_cons (io_e (ie_call (c__law_behind D fr) hr (by decide) (by rfl) (ia_cons (io_s (i := 0)) (ia_cons (io_s (i := 1)) ia_nil)))) ia_nil))) (ig_name (i := 3) S.nd (by decide)) (ib_cons (is_if (it_cmp (og_gt hu) ok_g2 (io_e (ie_callB cg_len ok_gL (by rfl) fr.f_len bt_len (ia_cons (io_s (i := 3)) ia_nil))) (io_e (ie_callB cg_len ok_gL (by rfl) fr.f_len bt_len (ia_cons (io_s (i := 1)) ia_nil))) (nomark _)) (ib_cons (is_asg ie_bl (ig_put (i := 2) hu (ie_slH (io_s (i := 3)) (io_e (ie_op og_add ok_g2 (io_e (ie_callB cg_len ok_gL (by rfl) fr.f_len bt_len (ia_cons (io_s (i := 1)) ia_nil))) (io_e ie_int)))))) ib_nil) ib_nil) ib_nil)) (ib_cons (is_ret (ie_callB (cg_sorted rfl hv) ok_gL (by rfl) fr.f_sorted bt_sorted (ia_cons (io_s (i := 2)) ia_nil))) ib_nil)))
abbrev N__law_kept : List Str := ["store", "text", "k", "word"]
theorem sc__law_kept : FnScope N__law_kept ["store", "text", "k"] (defScope t__law_kept) := ⟨rfl, rfl, rfl, by decide +kernel, rfl, by decide +kernel, by decide +kernel⟩
theorem c__law_kept (D : Ds K mg) (fr : Fr mg) : CalW P w K mg base 3 "_law_kept" [] 3 s__law_kept := by
    have S := sc__law_kept
    obtain ⟨f, fd, F, hm⟩ := D.h__law_kept
    rw [s__law_kept_eq]
    refine cal_ok (N := N__law_kept) (ps := ["store", "text", "k"]) F hm (F.bindsN fun _ _ _ _ _ _ us hl => match us, hl with | [_, _, _], _ => rfl) S rfl rfl fun cdv A outer s H E hr => ?_
    have hv := u128 hr
    have hu := u64 hr
    exact (ib_cons (is_ret (ie_callTy cg_tuple ok_gL (by rfl) fr.f_tuple bt_tuple (ia_cons (io_e (ie_lc (own := [("word", 3)]) rfl S.nd (ii_seq (ie_call (c__law_row D fr) hr (by decide) (by rfl) (ia_cons (io_s (i := 0)) (ia_cons (io_s (i := 1)) (ia_cons (io_s (i := 2)) ia_nil))))) (blkOk_by (own := [("word", 3)]) (N := N__law_kept) (sc := defScope t__law_kept) (by decide +kernel)) (fun _ _ _ _ _ => (ig_name (i := 3) S.nd (compl_no (by decide)))) (fun _ _ _ _ _ => its_nil) (fun _ _ _ _ _ => (ie_tup (ia_cons (io_e (ie_var (i := 3))) (ia_cons (io_e (ie_call (c__law_worth_in D fr) hr (by decide) (by rfl) (ia_cons (io_s (i := 0)) (ia_cons (io_s (i := 3)) ia_nil)))) ia_nil)))))) ia_nil))) ib_nil)
abbrev N__law_goes : List Str := ["draws", "store", "letters", "k", "every", "table", "node", "turn", "text", "pair", "pairs", "longer"]
theorem sc__law_goes : FnScope N__law_goes ["draws", "store", "letters"] (defScope t__law_goes) := ⟨rfl, rfl, rfl, by decide +kernel, rfl, by decide +kernel, by decide +kernel⟩
theorem c__law_goes (D : Ds K mg) (fr : Fr mg) : CalW P w K mg base 9 "_law_goes" [0] 3 s__law_goes_k15 := by
    have S := sc__law_goes
    obtain ⟨f, fd, F, hm⟩ := D.h__law_goes
    rw [s__law_goes_k15_eq]
    refine cal_ok (N := N__law_goes) (ps := ["draws", "store", "letters"]) F hm (F.bindsN fun _ _ _ _ _ _ us hl => match us, hl with | [_, _, _], _ => rfl) S rfl rfl fun cdv A outer s H E hr => ?_
    have hv := u128 hr
    have hu := u64 hr
    exact (ib_cons (is_set (i := 3) S.nd (by decide) (ie_call (c__law_k D fr) hr (by decide) (by rfl) (ia_cons (io_s (i := 0)) ia_nil))) (ib_cons (is_set (i := 4) S.nd (by decide) (ie_call (c__law_nodes D fr) hr (by decide) (by rfl) (ia_cons (io_e (ie_call (c__law_words_of D fr) hr (by decide) (by rfl) (ia_cons (io_s (i := 1)) ia_nil))) ia_nil))) (ib_cons (is_set (i := 5) S.nd (by decide) (ie_call (c_kept_rows D fr) hr (by decide) (by rfl) (ia_cons (io_s (i := 1)) (ia_cons (io_s (i := 3)) ia_nil)))) (ib_cons (is_if (it_not (it_val (ie_call (c__law_same D fr 8) hr (by decide) (by rfl) (ia_cons (io_s (i := 5)) (ia_cons (io_e (ie_callTy cg_tuple ok_gL (by rfl) fr.f_tuple bt_tuple (ia_cons (io_e (ie_lc (own := [("node", 6)]) rfl S.nd (ii_seq (ie_var (i := 4))) (blkOk_by (own := [("node", 6)]) (N := N__law_goes) (sc := defScope t__law_goes) (by decide +kernel)) (fun _ _ _ _ _ => (ig_name (i := 6) S.nd (compl_no (by decide)))) (fun _ _ _ _ _ => its_nil) (fun _ _ _ _ _ => (ie_tup (ia_cons (io_e (ie_var (i := 6))) (ia_cons (io_e (ie_call (c__law_kept D fr) hr (by decide) (by rfl) (ia_cons (io_s (i := 1)) (ia_cons (io_s (i := 6)) (ia_cons (io_s (i := 3)) ia_nil))))) ia_nil)))))) ia_nil))) ia_nil))))) (ib_cons (is_ret ie_bl) ib_nil) ib_nil) (ib_cons (is_for PassesOwn.never rfl (ii_range1 (by rfl) fr.f_range (ia_cons (io_e ie_int) ia_nil)) (ig_name (i := 7) S.nd (by decide)) (ib_cons (is_set (i := 8) S.nd (by decide) (ie_call (c__law_typed D fr) hr (by decide) (by rfl) (ia_cons (io_s (i := 0)) (ia_cons (io_s (i := 2)) (ia_cons (io_e (ie_call (c__law_words_of D fr) hr (by decide) (by rfl) (ia_cons (io_s (i := 1)) ia_nil))) ia_nil))))) (ib_cons (is_if (it_not (it_val (ie_call (c__law_same D fr 8) hr (by decide) (by rfl) (ia_cons (io_e (ie_call (c_kept_row D fr) hr (by decide) (by rfl) (ia_cons (io_s (i := 1)) (ia_cons (io_s (i := 8)) (ia_cons (io_s (i := 3)) ia_nil))))) (ia_cons (io_e (ie_call (c__law_kept D fr) hr (by decide) (by rfl) (ia_cons (io_s (i := 1)) (ia_cons (io_s (i := 8)) (ia_cons (io_s (i := 3)) ia_nil))))) ia_nil))))) (ib_cons (is_ret ie_bl) ib_nil) ib_nil) (ib_cons (is_if (it_not (it_val (ie_call (c__law_same D fr 8) hr (by decide) (by rfl) (ia_cons (io_e (ie_call (c_row D fr) hr (by decide) (by rfl) (ia_cons (io_s (i := 1)) (ia_cons (io_s (i := 8)) (ia_cons (io_s (i := 3)) ia_nil))))) (ia_cons (io_e (ie_callTy cg_tuple ok_gL (by rfl) fr.f_tuple bt_tuple (ia_cons (io_e (ie_lc (own := [("pair", 9)]) rfl S.nd (ii_seq (ie_call (c_kept_row D fr) hr (by decide) (by rfl) (ia_cons (io_s (i := 1)) (ia_cons (io_s (i := 8)) (ia_cons (io_s (i := 3)) ia_nil))))) (blkOk_by (own := [("pair", 9)]) (N := N__law_goes) (sc := defScope t__law_goes) (by decide +kernel)) (fun _ _ _ _ _ => (ig_name (i := 9) S.nd (compl_no (by decide)))) (fun _ _ _ _ _ => its_nil) (fun _ _ _ _ _ => (ie_ix (ig_ix hu) ok_g2 (io_s (i := 9)) (io_e ie_int))))) ia_nil))) ia_nil))))) (ib_cons (is_ret ie_bl) ib_nil) ib_nil) ib_nil)))) (ib_cons (is_if (it_cmp (og_gt hu) ok_g2 (io_e (ie_callB cg_len ok_gL (by rfl) fr.f_len bt_len (ia_cons (io_s (i := 4)) ia_nil))) (io_e ie_int) (nomark _)) (ib_cons (is_set (i := 6) S.nd (by decide) (ie_call (c__law_pick D fr) hr (by decide) (by rfl) (ia_cons (io_s (i := 0)) (ia_cons (io_s (i := 4)) ia_nil)))) (ib_cons (is_setLc (i := 10) (own := [("pair", 9)]) rfl S.nd (by decide) (ii_seq (ie_var (i := 1))) (blkOk_by (own := [("pair", 9)]) (N := N__law_goes) (sc := defScope t__law_goes) (by decide +kernel)) (fun _ _ _ _ _ => (ig_name (i := 9) S.nd (compl_no (by decide)))) (fun _ _ _ _ _ => (its_one (it_cmp (op_eq2 hu) okEq_eq (io_e (ie_ix (ig_ix hu) ok_g2 (io_s (i := 9)) (io_e ie_int))) (io_s (i := 6)) (nomark _)))) (fun _ _ _ _ _ => (ie_var (i := 9))) (sw_true rfl rfl rfl (by decide +kernel))) (ib_cons (is_for PassesOwn.never rfl (ii_seq (ie_call (c__law_longer D fr) hr (by decide) (by rfl) (ia_cons (io_s (i := 1)) (ia_cons (io_s (i := 6)) ia_nil)))) (ig_name (i := 11) S.nd (by decide)) (ib_cons (is_set (i := 10) S.nd (by decide) (ie_op og_add ok_g2 (io_s (i := 10)) (io_e (ie_callTy (cg_list rfl) ok_gL (by rfl) fr.f_list bt_list (ia_cons (io_e (ie_call (c_kept_row D fr) hr (by decide) (by rfl) (ia_cons (io_s (i := 1)) (ia_cons (io_s (i := 11)) (ia_cons (io_s (i := 3)) ia_nil))))) ia_nil))))) ib_nil)) (ib_cons (is_if (it_not (it_val (ie_call (c__law_same D fr 8) hr (by decide) (by rfl) (ia_cons (io_e (ie_callTy cg_tuple ok_gL (by rfl) fr.f_tuple bt_tuple (ia_cons (io_e (ie_lc (own := [("pair", 9)]) rfl S.nd (ii_seq (ie_call (c_kept_row D fr) hr (by decide) (by rfl) (ia_cons (io_s (i := 1)) (ia_cons (io_s (i := 6)) (ia_cons (io_s (i := 3)) ia_nil))))) (blkOk_by (own := [("pair", 9)]) (N := N__law_goes) (sc := defScope t__law_goes) (by decide +kernel)) (fun _ _ _ _ _ => (ig_name (i := 9) S.nd (compl_no (by decide)))) (fun _ _ _ _ _ => its_nil) (fun _ _ _ _ _ => (ie_ix (ig_ix hu) ok_g2 (io_s (i := 9)) (io_e ie_int))))) ia_nil))) (ia_cons (io_e (ie_call (c__law_best D fr) hr (by decide) (by rfl) (ia_cons (io_s (i := 10)) (ia_cons (io_s (i := 3)) ia_nil)))) ia_nil))))) (ib_cons (is_ret ie_bl) ib_nil) ib_nil) ib_nil)))) ib_nil) (ib_cons (is_ret ie_bl) ib_nil)))))))
abbrev N_law : List Str := ["script", "draws", "letters", "turn"]
theorem sc_law : FnScope N_law ["script"] (defScope t_law) := ⟨rfl, rfl, rfl, by decide +kernel, rfl, by decide +kernel, by decide +kernel⟩
theorem f_law (D : Ds K mg) (fr : Fr mg) {f : Addr} {fd : FuncData} (F : FunD K "law" "law" (defArgs t_law) (defBody t_law) (defScope t_law) [] [] f fd) : FnOk P w K mg base CX0 10 f fd ["script"] (spF K [] 1 s_law) := by
    have S := sc_law
    refine fn_ok (N := N_law) (ps := ["script"]) F S rfl rfl fun cdv A outer s H E hr => ?_
    have hv := u128 hr
    have hu := u64 hr
    exact (ib_cons (is_set (i := 1) S.nd (by decide) (ie_call (c__law_draws D fr) hr (by decide) (by rfl) (ia_cons (io_s (i := 0)) (ia_cons (io_e ie_int) ia_nil)))) (ib_cons (is_set (i := 2) S.nd (by decide) (ie_call (c__law_letters D fr) hr (by decide) (by rfl) (ia_cons (io_s (i := 1)) ia_nil))) (ib_cons (is_for PassesOwn.never rfl (ii_range1 (by rfl) fr.f_range (ia_cons (io_e ie_int) ia_nil)) (ig_name (i := 3) S.nd (by decide)) (ib_cons (is_if (it_not (it_val (ie_call (c__law_goes D fr) hr (by decide) (by rfl) (ia_cons (io_s (i := 1)) (ia_cons (io_e (ie_call (c__law_store D fr) hr (by decide) (by rfl) (ia_cons (io_s (i := 1)) (ia_cons (io_s (i := 2)) (ia_cons (io_e ie_int) ia_nil))))) (ia_cons (io_s (i := 2)) ia_nil)))))) (ib_cons (is_ret ie_bl) ib_nil) ib_nil) (ib_cons (is_if (it_not (it_val (ie_call (c__law_goes D fr) hr (by decide) (by rfl) (ia_cons (io_s (i := 1)) (ia_cons (io_e (ie_call (c__law_tree D fr) hr (by decide) (by rfl) (ia_cons (io_s (i := 1)) (ia_cons (io_s (i := 2)) (ia_cons (io_e ie_int) ia_nil))))) (ia_cons (io_s (i := 2)) ia_nil)))))) (ib_cons (is_ret ie_bl) ib_nil) ib_nil) ib_nil))) (ib_cons (is_ret (ie_call (c__law_goes D fr) hr (by decide) (by rfl) (ia_cons (io_s (i := 1)) (ia_cons (io_e (ie_slH (io_e (ie_call (c__law_big_store D fr) hr (by decide) (by rfl) (ia_cons (io_s (i := 1)) ia_nil))) (io_e ie_int))) (ia_cons (io_e (ie_lst (ia_cons (io_e (ie_str rfl (by decide))) (ia_cons (io_e (ie_str rfl (by decide))) (ia_cons (io_e (ie_str rfl (by decide))) ia_nil))))) ia_nil))))) ib_nil))))
end
end K15
end

section
namespace K15
open PySem PySem.Spec PyProof.Rows L2 Wk
/-! the head -/
def e_rank_of : He.DefD := ⟨("rank_of", none), "rank_of", "rank_of", defArgs t_rank_of, defBody t_rank_of, defScope t_rank_of, [], []⟩
def e_best_of : He.DefD := ⟨("best_of", none), "best_of", "best_of", defArgs t_best_of, defBody t_best_of, defScope t_best_of, [], []⟩
def e_beginning_with : He.DefD := ⟨("beginning_with", none), "beginning_with", "beginning_with", defArgs t_beginning_with, defBody t_beginning_with, defScope t_beginning_with, [], []⟩
def e_row : He.DefD := ⟨("row", none), "row", "row", defArgs t_row, defBody t_row, defScope t_row, [], []⟩
def e_beginnings : He.DefD := ⟨("beginnings", none), "beginnings", "beginnings", defArgs t_beginnings, defBody t_beginnings, defScope t_beginnings, [], []⟩
def e_nodes : He.DefD := ⟨("nodes", none), "nodes", "nodes", defArgs t_nodes, defBody t_nodes, defScope t_nodes, [], []⟩
def e_best_pairs : He.DefD := ⟨("best_pairs", none), "best_pairs", "best_pairs", defArgs t_best_pairs, defBody t_best_pairs, defScope t_best_pairs, [], []⟩
def e_kept_row : He.DefD := ⟨("kept_row", none), "kept_row", "kept_row", defArgs t_kept_row, defBody t_kept_row, defScope t_kept_row, [], []⟩
def e_kept_rows : He.DefD := ⟨("kept_rows", none), "kept_rows", "kept_rows", defArgs t_kept_rows, defBody t_kept_rows, defScope t_kept_rows, [], []⟩
def e__law_draws : He.DefD := ⟨("_law_draws", none), "_law_draws", "_law_draws", defArgs t__law_draws, defBody t__law_draws, defScope t__law_draws, [], []⟩
def e__law_take : He.DefD := ⟨("_law_take", none), "_law_take", "_law_take", defArgs t__law_take, defBody t__law_take, defScope t__law_take, [], []⟩
def e__law_pick : He.DefD := ⟨("_law_pick", none), "_law_pick", "_law_pick", defArgs t__law_pick, defBody t__law_pick, defScope t__law_pick, [], []⟩
def e__law_same : He.DefD := ⟨("_law_same", none), "_law_same", "_law_same", defArgs t__law_same, defBody t__law_same, defScope t__law_same, [], []⟩
def e__law_letters : He.DefD := ⟨("_law_letters", none), "_law_letters", "_law_letters", defArgs t__law_letters, defBody t__law_letters, defScope t__law_letters, [], []⟩
def e__law_text_of : He.DefD := ⟨("_law_text_of", none), "_law_text_of", "_law_text_of", defArgs t__law_text_of, defBody t__law_text_of, defScope t__law_text_of, [], []⟩
def e__law_word : He.DefD := ⟨("_law_word", none), "_law_word", "_law_word", defArgs t__law_word, defBody t__law_word, defScope t__law_word, [], []⟩
def e__law_words : He.DefD := ⟨("_law_words", none), "_law_words", "_law_words", defArgs t__law_words, defBody t__law_words, defScope t__law_words, [], []⟩
def e__law_worth : He.DefD := ⟨("_law_worth", none), "_law_worth", "_law_worth", defArgs t__law_worth, defBody t__law_worth, defScope t__law_worth, [], []⟩
def e__law_store_of : He.DefD := ⟨("_law_store_of", none), "_law_store_of", "_law_store_of", defArgs t__law_store_of, defBody t__law_store_of, defScope t__law_store_of, [], []⟩
def e__law_store : He.DefD := ⟨("_law_store", none), "_law_store", "_law_store", defArgs t__law_store, defBody t__law_store, defScope t__law_store, [], []⟩
def e__law_typed : He.DefD := ⟨("_law_typed", none), "_law_typed", "_law_typed", defArgs t__law_typed, defBody t__law_typed, defScope t__law_typed, [], []⟩
def e__law_k : He.DefD := ⟨("_law_k", none), "_law_k", "_law_k", defArgs t__law_k, defBody t__law_k, defScope t__law_k, [], []⟩
def e__law_behind : He.DefD := ⟨("_law_behind", none), "_law_behind", "_law_behind", defArgs t__law_behind, defBody t__law_behind, defScope t__law_behind, [], []⟩
def e__law_best : He.DefD := ⟨("_law_best", none), "_law_best", "_law_best", defArgs t__law_best, defBody t__law_best, defScope t__law_best, [], []⟩
def e__law_row : He.DefD := ⟨("_law_row", none), "_law_row", "_law_row", defArgs t__law_row, defBody t__law_row, defScope t__law_row, [], []⟩
def e__law_begun : He.DefD := ⟨("_law_begun", none), "_law_begun", "_law_begun", defArgs t__law_begun, defBody t__law_begun, defScope t__law_begun, [], []⟩
def e__law_nodes : He.DefD := ⟨("_law_nodes", none), "_law_nodes", "_law_nodes", defArgs t__law_nodes, defBody t__law_nodes, defScope t__law_nodes, [], []⟩
def e__law_words_of : He.DefD := ⟨("_law_words_of", none), "_law_words_of", "_law_words_of", defArgs t__law_words_of, defBody t__law_words_of, defScope t__law_words_of, [], []⟩
def e__law_worth_in : He.DefD := ⟨("_law_worth_in", none), "_law_worth_in", "_law_worth_in", defArgs t__law_worth_in, defBody t__law_worth_in, defScope t__law_worth_in, [], []⟩
def e__law_tree : He.DefD := ⟨("_law_tree", none), "_law_tree", "_law_tree", defArgs t__law_tree, defBody t__law_tree, defScope t__law_tree, [], []⟩
def e__law_big_store : He.DefD := ⟨("_law_big_store", none), "_law_big_store", "_law_big_store", defArgs t__law_big_store, defBody t__law_big_store, defScope t__law_big_store, [], []⟩
def e__law_longer : He.DefD := ⟨("_law_longer", none), "_law_longer", "_law_longer", defArgs t__law_longer, defBody t__law_longer, defScope t__law_longer, [], []⟩
def e__law_kept : He.DefD := ⟨("_law_kept", none), "_law_kept", "_law_kept", defArgs t__law_kept, defBody t__law_kept, defScope t__law_kept, [], []⟩
def e__law_goes : He.DefD := ⟨("_law_goes", none), "_law_goes", "_law_goes", defArgs t__law_goes, defBody t__law_goes, defScope t__law_goes, [], []⟩
def e_law : He.DefD := ⟨("law", none), "law", "law", defArgs t_law, defBody t_law, defScope t_law, [], []⟩
def fnAll : List He.DefD := [e_rank_of, e_best_of, e_beginning_with, e_row, e_beginnings, e_nodes, e_best_pairs, e_kept_row, e_kept_rows, e__law_draws, e__law_take, e__law_pick, e__law_same, e__law_letters, e__law_text_of, e__law_word, e__law_words, e__law_worth, e__law_store_of, e__law_store, e__law_typed, e__law_k, e__law_behind, e__law_best, e__law_row, e__law_begun, e__law_nodes, e__law_words_of, e__law_worth_in, e__law_tree, e__law_big_store, e__law_longer, e__law_kept, e__law_goes, e_law]
def faAll : List He.Fa := [.glo "rank_of", .glo "best_of", .glo "beginning_with", .glo "row", .glo "beginnings", .glo "nodes", .glo "best_pairs", .glo "kept_row", .glo "kept_rows", .glo "_law_draws", .glo "_law_take", .glo "_law_pick", .glo "_law_same", .glo "_law_letters", .glo "_law_text_of", .glo "_law_word", .glo "_law_words", .glo "_law_worth", .glo "_law_store_of", .glo "_law_store", .glo "_law_typed", .glo "_law_k", .glo "_law_behind", .glo "_law_best", .glo "_law_row", .glo "_law_begun", .glo "_law_nodes", .glo "_law_words_of", .glo "_law_worth_in", .glo "_law_tree", .glo "_law_big_store", .glo "_law_longer", .glo "_law_kept", .glo "_law_goes", .glo "law", .free "bool", .free "int", .free "isinstance", .free "len", .free "list", .free "min", .free "range", .free "sorted", .free "str", .free "tuple"]
abbrev R : PySem.W.OpenRow := PySem.W.OpenLaw.row PySem.Challenge.rw_wordsahead_k15_kept_rows
abbrev hk : PySem.W.Hook := He.hookD 4 faAll fnAll
def ob (s : PySem.W.SharedT) : He.AlD := He.obsDG 4 faAll fnAll (HandSHeadRun.getT s)
theorem ob_eq (s : PySem.W.SharedT) : ob s = hk.obs s.abs := He.obsDG_eq (HandSHeadRun.getT_eq s)
def loose0 : List PySem.Str := ["rank_of", "best_of", "beginning_with", "row", "beginnings", "nodes", "best_pairs", "kept_row", "kept_rows", "_law_draws", "_law_take", "_law_pick", "_law_same", "_law_letters", "_law_text_of", "_law_word", "_law_words", "_law_worth", "_law_store_of", "_law_store"]
def loose1 : List PySem.Str := ["_law_typed", "_law_k", "_law_behind", "_law_best", "_law_row", "_law_begun", "_law_nodes", "_law_words_of", "_law_worth_in", "_law_tree", "_law_big_store", "_law_longer", "_law_kept", "_law_goes"]
abbrev loose : List PySem.Str := loose0 ++ loose1
theorem run (w : World) : HandSHeadRun.RunEq R (PySem.W.view R.prog [38]) hk ob 3000 loose w := by
  intro os
  kernel_rfl
theorem facts {K : PySem.W.Frag} {h : Heap} {mg : Str → Option Value} (X : K.In h) (G : h.Ns mainGlobals mg) (c : He.SaysD faAll fnAll K) : Ds K mg ∧ Fr mg := by
  obtain ⟨fd0, F0⟩ := c.def_ 0 (d := e_rank_of) rfl
  obtain ⟨fd1, F1⟩ := c.def_ 1 (d := e_best_of) rfl
  obtain ⟨fd2, F2⟩ := c.def_ 2 (d := e_beginning_with) rfl
  obtain ⟨fd3, F3⟩ := c.def_ 3 (d := e_row) rfl
  obtain ⟨fd4, F4⟩ := c.def_ 4 (d := e_beginnings) rfl
  obtain ⟨fd5, F5⟩ := c.def_ 5 (d := e_nodes) rfl
  obtain ⟨fd6, F6⟩ := c.def_ 6 (d := e_best_pairs) rfl
  obtain ⟨fd7, F7⟩ := c.def_ 7 (d := e_kept_row) rfl
  obtain ⟨fd8, F8⟩ := c.def_ 8 (d := e_kept_rows) rfl
  obtain ⟨fd9, F9⟩ := c.def_ 9 (d := e__law_draws) rfl
  obtain ⟨fd10, F10⟩ := c.def_ 10 (d := e__law_take) rfl
  obtain ⟨fd11, F11⟩ := c.def_ 11 (d := e__law_pick) rfl
  obtain ⟨fd12, F12⟩ := c.def_ 12 (d := e__law_same) rfl
  obtain ⟨fd13, F13⟩ := c.def_ 13 (d := e__law_letters) rfl
  obtain ⟨fd14, F14⟩ := c.def_ 14 (d := e__law_text_of) rfl
  obtain ⟨fd15, F15⟩ := c.def_ 15 (d := e__law_word) rfl
  obtain ⟨fd16, F16⟩ := c.def_ 16 (d := e__law_words) rfl
  obtain ⟨fd17, F17⟩ := c.def_ 17 (d := e__law_worth) rfl
  obtain ⟨fd18, F18⟩ := c.def_ 18 (d := e__law_store_of) rfl
  obtain ⟨fd19, F19⟩ := c.def_ 19 (d := e__law_store) rfl
  obtain ⟨fd20, F20⟩ := c.def_ 20 (d := e__law_typed) rfl
  obtain ⟨fd21, F21⟩ := c.def_ 21 (d := e__law_k) rfl
  obtain ⟨fd22, F22⟩ := c.def_ 22 (d := e__law_behind) rfl
  obtain ⟨fd23, F23⟩ := c.def_ 23 (d := e__law_best) rfl
  obtain ⟨fd24, F24⟩ := c.def_ 24 (d := e__law_row) rfl
  obtain ⟨fd25, F25⟩ := c.def_ 25 (d := e__law_begun) rfl
  obtain ⟨fd26, F26⟩ := c.def_ 26 (d := e__law_nodes) rfl
  obtain ⟨fd27, F27⟩ := c.def_ 27 (d := e__law_words_of) rfl
  obtain ⟨fd28, F28⟩ := c.def_ 28 (d := e__law_worth_in) rfl
  obtain ⟨fd29, F29⟩ := c.def_ 29 (d := e__law_tree) rfl
  obtain ⟨fd30, F30⟩ := c.def_ 30 (d := e__law_big_store) rfl
  obtain ⟨fd31, F31⟩ := c.def_ 31 (d := e__law_longer) rfl
  obtain ⟨fd32, F32⟩ := c.def_ 32 (d := e__law_kept) rfl
  obtain ⟨fd33, F33⟩ := c.def_ 33 (d := e__law_goes) rfl
  obtain ⟨fd34, F34⟩ := c.def_ 34 (d := e_law) rfl
  exact ⟨⟨⟨_, fd0, F0, He.glo_ok X G (c.fact 0 (f := .glo "rank_of") rfl)⟩, ⟨_, fd1, F1, He.glo_ok X G (c.fact 1 (f := .glo "best_of") rfl)⟩, ⟨_, fd2, F2, He.glo_ok X G (c.fact 2 (f := .glo "beginning_with") rfl)⟩, ⟨_, fd3, F3, He.glo_ok X G (c.fact 3 (f := .glo "row") rfl)⟩, ⟨_, fd4, F4, He.glo_ok X G (c.fact 4 (f := .glo "beginnings") rfl)⟩, ⟨_, fd5, F5, He.glo_ok X G (c.fact 5 (f := .glo "nodes") rfl)⟩, ⟨_, fd6, F6, He.glo_ok X G (c.fact 6 (f := .glo "best_pairs") rfl)⟩, ⟨_, fd7, F7, He.glo_ok X G (c.fact 7 (f := .glo "kept_row") rfl)⟩, ⟨_, fd8, F8, He.glo_ok X G (c.fact 8 (f := .glo "kept_rows") rfl)⟩, ⟨_, fd9, F9, He.glo_ok X G (c.fact 9 (f := .glo "_law_draws") rfl)⟩, ⟨_, fd10, F10, He.glo_ok X G (c.fact 10 (f := .glo "_law_take") rfl)⟩, ⟨_, fd11, F11, He.glo_ok X G (c.fact 11 (f := .glo "_law_pick") rfl)⟩, ⟨_, fd12, F12, He.glo_ok X G (c.fact 12 (f := .glo "_law_same") rfl)⟩, ⟨_, fd13, F13, He.glo_ok X G (c.fact 13 (f := .glo "_law_letters") rfl)⟩, ⟨_, fd14, F14, He.glo_ok X G (c.fact 14 (f := .glo "_law_text_of") rfl)⟩, ⟨_, fd15, F15, He.glo_ok X G (c.fact 15 (f := .glo "_law_word") rfl)⟩, ⟨_, fd16, F16, He.glo_ok X G (c.fact 16 (f := .glo "_law_words") rfl)⟩, ⟨_, fd17, F17, He.glo_ok X G (c.fact 17 (f := .glo "_law_worth") rfl)⟩, ⟨_, fd18, F18, He.glo_ok X G (c.fact 18 (f := .glo "_law_store_of") rfl)⟩, ⟨_, fd19, F19, He.glo_ok X G (c.fact 19 (f := .glo "_law_store") rfl)⟩, ⟨_, fd20, F20, He.glo_ok X G (c.fact 20 (f := .glo "_law_typed") rfl)⟩, ⟨_, fd21, F21, He.glo_ok X G (c.fact 21 (f := .glo "_law_k") rfl)⟩, ⟨_, fd22, F22, He.glo_ok X G (c.fact 22 (f := .glo "_law_behind") rfl)⟩, ⟨_, fd23, F23, He.glo_ok X G (c.fact 23 (f := .glo "_law_best") rfl)⟩, ⟨_, fd24, F24, He.glo_ok X G (c.fact 24 (f := .glo "_law_row") rfl)⟩, ⟨_, fd25, F25, He.glo_ok X G (c.fact 25 (f := .glo "_law_begun") rfl)⟩, ⟨_, fd26, F26, He.glo_ok X G (c.fact 26 (f := .glo "_law_nodes") rfl)⟩, ⟨_, fd27, F27, He.glo_ok X G (c.fact 27 (f := .glo "_law_words_of") rfl)⟩, ⟨_, fd28, F28, He.glo_ok X G (c.fact 28 (f := .glo "_law_worth_in") rfl)⟩, ⟨_, fd29, F29, He.glo_ok X G (c.fact 29 (f := .glo "_law_tree") rfl)⟩, ⟨_, fd30, F30, He.glo_ok X G (c.fact 30 (f := .glo "_law_big_store") rfl)⟩, ⟨_, fd31, F31, He.glo_ok X G (c.fact 31 (f := .glo "_law_longer") rfl)⟩, ⟨_, fd32, F32, He.glo_ok X G (c.fact 32 (f := .glo "_law_kept") rfl)⟩, ⟨_, fd33, F33, He.glo_ok X G (c.fact 33 (f := .glo "_law_goes") rfl)⟩, ⟨_, fd34, F34, He.glo_ok X G (c.fact 34 (f := .glo "law") rfl)⟩⟩, ⟨He.free_ok X G (c.fact 35 (f := .free "bool") rfl), He.free_ok X G (c.fact 36 (f := .free "int") rfl), He.free_ok X G (c.fact 37 (f := .free "isinstance") rfl), He.free_ok X G (c.fact 38 (f := .free "len") rfl), He.free_ok X G (c.fact 39 (f := .free "list") rfl), He.free_ok X G (c.fact 40 (f := .free "min") rfl), He.free_ok X G (c.fact 41 (f := .free "range") rfl), He.free_ok X G (c.fact 42 (f := .free "sorted") rfl), He.free_ok X G (c.fact 43 (f := .free "str") rfl), He.free_ok X G (c.fact 44 (f := .free "tuple") rfl)⟩⟩
/-- the law by what it is worth -/
theorem law_ok {K : PySem.W.Frag} {mg : Str → Option Value} (w : World) (D : Ds K mg) (fr : Fr mg) : ∃ (f : Addr) (fd : FuncData), mg "law" = some (.ref f) ∧ (∀ (s : Shared) (v : Value), BindsTo s fd ⟨[v], []⟩ [("script", v)]) ∧
    ∀ base : Heap, K.In base → base.Ns mainGlobals mg → FnOk PySem.Challenge.rw_wordsahead_k15_kept_rows.prog w K mg base CX0 10 f fd ["script"] (spF K [] 1 s_law) := by
  obtain ⟨f, fd, F, hm⟩ := D.h_law
  exact ⟨f, fd, hm, fun s v => (F.bindsA (ps := ["script"]) fun _ _ _ _ _ _ us hl => match us, hl with | [_], _ => rfl) s [v] rfl, fun base _ _ => f_law D fr F⟩
/-- the same of the law's own name: apart from the head, where it would cost 5,000 MB -/
theorem law_ok2 {K : PySem.W.Frag} {mg : Str → Option Value} (w : World) (D : Ds K mg) (fr : Fr mg) {f : Addr} (hmg : mg "law" = some (.ref f)) : ∃ fd : FuncData, (∀ (s : Shared) (v : Value), BindsTo s fd ⟨[v], []⟩ [("script", v)]) ∧
    ∀ base : Heap, K.In base → base.Ns mainGlobals mg → FnOk PySem.Challenge.rw_wordsahead_k15_kept_rows.prog w K mg base CX0 10 f fd ["script"] (spF K [] 1 s_law) := by
  obtain ⟨f', fd, hm, h⟩ := law_ok w D fr
  have e : f' = f := by
    have e := hm.symm.trans hmg
    injection e with e; injection e
  subst e
  exact ⟨fd, h⟩

end K15
open PySem PySem.W PySem.Calls PyProof.Rows
theorem K15.fin (main : ∀ ns : List Int, ns.length ≤ 63 → K15.s_law [Wk.fz (.scr (ns.map Wk.D.int))] = some (Wk.fz (.bl true), [])) : PySem.Challenge.rw_wordsahead_k15_kept_rows.Holds := by
  w_on; o_law
  refine HandSHeadRun.head_any (r := OpenLaw.row PySem.Challenge.rw_wordsahead_k15_kept_rows) (q := view (OpenLaw.row PySem.Challenge.rw_wordsahead_k15_kept_rows).prog [38]) (H := K15.hk) (ob := K15.ob) (M := 3000) (loose := K15.loose) (d := HandSHeadRun.topDef (OpenLaw.row PySem.Challenge.rw_wordsahead_k15_kept_rows).prog 38) (kwd := []) K15.ob_eq
    (by kernel_rfl) (fun s => by kernel_rfl) K15.run (by kernel_rfl) (by kernel_rfl) (by kernel_rfl) (by rfl) (by first | assumption | decide +kernel) (by decide +kernel) ⟨rfl, rfl, rfl, rfl, rfl, by decide +kernel⟩ ?hw ?hc
  case hw => w_witness2
  case hc =>
    refine L2.walk_ofE (l := PySem.Challenge.rw_wordsahead_k15_kept_rows) (n := 63) (k := 10) (x := "script") (CX := L2.CX0) rfl (by decide) (by kernel_rfl) ⟨rfl, by decide, by decide⟩ ?F (fun _ _ _ _ z => z)
    intro w mg fa h Y G hmg0
    obtain ⟨K, KX, c⟩ := Y
    have hmg : mg ("law" : PySem.Str) = some (.ref fa) := by
      have e : (HandSHeadRun.topDef (OpenLaw.row PySem.Challenge.rw_wordsahead_k15_kept_rows).prog 38).name = ("law" : PySem.Str) := by kernel_rfl
      rw [← e]
      exact hmg0
    obtain ⟨D, fr⟩ := K15.facts KX G c
    obtain ⟨fd, hb, hF⟩ := K15.law_ok2 (K := K) (mg := mg) w D fr hmg
    refine ⟨K, fd, _, KX, hb, fun H a ns hl _ hS => ?_, hF⟩
    exact Wk.law_sp (main ns hl) hS
end

section
/-! Q0: loops and comprehensions by what they must keep. -/
namespace Wk
open PySem PySem.Spec PyProof.Rows L2
@[simp] theorem mapInt_inj {a b : List Int} : a.map D.int = b.map D.int ↔ a = b :=
  ⟨fun h => List.map_inj_right (fun x y e => by injection e) |>.mp h, fun h => h ▸ rfl⟩
@[simp] theorem mapStr_inj {a b : List (List Nat)} : a.map D.str = b.map D.str ↔ a = b :=
  ⟨fun h => List.map_inj_right (fun x y e => by injection e) |>.mp h, fun h => h ▸ rfl⟩
/-- a run that goes on, with what then holds -/
def NxT (r : Option (Out × En)) (Q : En → Prop) : Prop := ∃ o e, r = some (o, e) ∧ (o = .nx ∨ o = .ct) ∧ Q e
section
variable {e : En} {v : Val} {Q : En → Prop}
@[simp] theorem NxT_nx : NxT (some (.nx, e)) Q = Q e := propext ⟨fun ⟨o, e', h, _, q⟩ => by cases h; exact q, fun q => ⟨_, _, rfl, .inl rfl, q⟩⟩
@[simp] theorem NxT_ct : NxT (some (.ct, e)) Q = Q e := propext ⟨fun ⟨o, e', h, _, q⟩ => by cases h; exact q, fun q => ⟨_, _, rfl, .inr rfl, q⟩⟩
end
/-- a run that goes on, breaks or returns -/
def FoT (r : Option (Out × En)) (N B : En → Prop) (R : Val → En → Prop) : Prop := ∃ o e, r = some (o, e) ∧ (((o = .nx ∨ o = .ct) ∧ N e) ∨ (o = .bk ∧ B e) ∨ ∃ v, o = .rt v ∧ R v e)
section
variable {e : En} {v : Val} {N B : En → Prop} {R : Val → En → Prop}
@[simp] theorem FoT_nx : FoT (some (.nx, e)) N B R = N e := propext ⟨fun ⟨o, e', h, q⟩ => by cases h; simpa using q, fun q => ⟨_, _, rfl, .inl ⟨.inl rfl, q⟩⟩⟩
@[simp] theorem FoT_ct : FoT (some (.ct, e)) N B R = N e := propext ⟨fun ⟨o, e', h, q⟩ => by cases h; simpa using q, fun q => ⟨_, _, rfl, .inl ⟨.inr rfl, q⟩⟩⟩
@[simp] theorem FoT_bk : FoT (some (.bk, e)) N B R = B e := propext ⟨fun ⟨o, e', h, q⟩ => by cases h; simpa using q, fun q => ⟨_, _, rfl, .inr (.inl ⟨rfl, q⟩)⟩⟩
@[simp] theorem FoT_rt : FoT (some (.rt v, e)) N B R = R v e := propext ⟨fun ⟨o, e', h, q⟩ => by cases h; simpa using q, fun q => ⟨_, _, rfl, .inr (.inr ⟨v, rfl, q⟩)⟩⟩
end
def fcase (k : En → Option (Out × En)) : Option (Out × En) → Option (Out × En)
  | some (.nx, e) => k e
  | some (.ct, e) => k e
  | some (.bk, e) => some (.nx, e)
  | some (.rt v, e) => some (.rt v, e)
  | none => none
theorem forL_cons {g : Val → En → Option En} {b : XS} {d : D} {ds : List D} {env : En} : forL g b (d :: ds) env = fcase (forL g b ds) ((g (fz d) env).bind b) := by
  have e : forL g b (d :: ds) env = (g (fz d) env).bind fun en => (b en).bind fun p => match p.1 with
    | .nx => forL g b ds p.2
    | .ct => forL g b ds p.2
    | .bk => some (.nx, p.2)
    | .rt v => some (.rt v, p.2) := id rfl
  rw [e]
  cases g (fz d) env with
  | none => rfl
  | some en =>
    show (b en).bind _ = fcase _ (b en)
    cases b en with
    | none => rfl
    | some p => obtain ⟨o, e⟩ := p; cases o <;> rfl
/-- the general loop -/
theorem forL_gen {g : Val → En → Option En} {b : XS} (Inv : Nat → En → Prop) (B : En → Prop) (R : Val → En → Prop) : ∀ (ds : List D) (i : Nat) (env : En), Inv i env →
    (∀ j d env, ds[j]? = some d → Inv (i + j) env → FoT ((g (fz d) env).bind b) (Inv (i + j + 1)) B R) →
    ∃ o e, forL g b ds env = some (o, e) ∧ ((o = .nx ∧ (Inv (i + ds.length) e ∨ B e)) ∨ ∃ v, o = .rt v ∧ R v e)
  | [], i, env, h, _ => ⟨_, env, rfl, .inl ⟨rfl, .inl h⟩⟩
  | d :: ds, i, env, h, hs => by
    obtain ⟨o, env1, e1, ho⟩ := hs 0 d env rfl h
    rw [forL_cons, e1]
    rcases ho with ⟨ho, h1⟩ | ⟨rfl, hb⟩ | ⟨v, rfl, hr⟩
    · obtain ⟨o2, e2, h2, h3⟩ := forL_gen (g := g) (b := b) Inv B R ds (i + 1) env1 h1 fun j d' env' hd hI => by
        have e : i + 1 + j = i + (j + 1) := by omega
        rw [e] at hI ⊢
        exact hs (j + 1) d' env' (by simpa using hd) hI
      have e : i + (d :: ds).length = i + 1 + ds.length := by rw [List.length_cons]; omega
      rw [e]
      refine ⟨o2, e2, ?_, h3⟩
      rcases ho with rfl | rfl <;> exact h2
    · exact ⟨_, _, rfl, .inl ⟨rfl, .inr hb⟩⟩
    · exact ⟨_, _, rfl, .inr ⟨v, rfl, hr⟩⟩
section
variable {α σ : Type} {g : Val → En → Option En} {b : XS} {ds : List D} {env : En} {G : Option (Out × En)}
/-- a loop, by numbers of turns -/
theorem forN (hG : forL g b ds env = G) (Inv : Nat → En → Prop) (h : Inv 0 env) (hs : ∀ j d e, ds[j]? = some d → Inv j e → NxT ((g (fz d) e).bind b) (Inv (j + 1))) : ∃ e, G = some (.nx, e) ∧ Inv ds.length e := by
  obtain ⟨e, h1, h2⟩ := forL_of hG Inv h fun j d e hd hI => hs j d e hd hI
  exact ⟨e, h1, h2⟩
theorem forA {enc : α → D} {l : List α} (hG : forL g b (l.map enc) env = G) (Inv : Nat → En → Prop) (h : Inv 0 env) (hs : ∀ j a e, l[j]? = some a → Inv j e → NxT ((g (fz (enc a)) e).bind b) (Inv (j + 1))) : ∃ e, G = some (.nx, e) ∧ Inv l.length e := by
  obtain ⟨e, h1, h2⟩ := forN hG Inv h fun j d e hd hI => by
    rw [List.getElem?_map] at hd
    obtain ⟨a, ha, rfl⟩ := Option.map_eq_some_iff.mp hd
    exact hs j a e ha hI
  rw [List.length_map] at h2
  exact ⟨e, h1, h2⟩
theorem forG (hG : forL g b ds env = G) (Inv : Nat → En → Prop) (B : En → Prop) (R : Val → En → Prop) (h : Inv 0 env) (hs : ∀ j d e, ds[j]? = some d → Inv j e → FoT ((g (fz d) e).bind b) (Inv (j + 1)) B R) :
    ∃ o e, G = some (o, e) ∧ ((o = .nx ∧ (Inv ds.length e ∨ B e)) ∨ ∃ v, o = .rt v ∧ R v e) := by
  have := forL_gen (g := g) (b := b) Inv B R ds 0 env h fun j d e hd hI => by
    rw [Nat.zero_add] at hI ⊢
    exact hs j d e hd hI
  rw [Nat.zero_add, hG] at this
  exact this
theorem forGA {enc : α → D} {l : List α} (hG : forL g b (l.map enc) env = G) (Inv : Nat → En → Prop) (B : En → Prop) (R : Val → En → Prop) (h : Inv 0 env) (hs : ∀ j a e, l[j]? = some a → Inv j e → FoT ((g (fz (enc a)) e).bind b) (Inv (j + 1)) B R) :
    ∃ o e, G = some (o, e) ∧ ((o = .nx ∧ (Inv l.length e ∨ B e)) ∨ ∃ v, o = .rt v ∧ R v e) := by
  have := forG hG Inv B R h fun j d e hd hI => by
    rw [List.getElem?_map] at hd
    obtain ⟨a, ha, rfl⟩ := Option.map_eq_some_iff.mp hd
    exact hs j a e ha hI
  rwa [List.length_map] at this
/-- a loop that folds -/
theorem forF {enc : α → D} {l : List α} (hG : forL g b (l.map enc) env = G) (S : σ → En → Prop) (step : σ → α → σ) (s0 : σ) (h : S s0 env) (hs : ∀ a ∈ l, ∀ s e, S s e → NxT ((g (fz (enc a)) e).bind b) (S (step s a))) : ∃ e, G = some (.nx, e) ∧ S (l.foldl step s0) e := by
  rw [← hG]; clear hG
  induction l generalizing s0 env with
  | nil => exact ⟨env, rfl, h⟩
  | cons a l ih =>
    obtain ⟨o, e1, h1, ho, h2⟩ := hs a List.mem_cons_self s0 env h
    obtain ⟨e2, h3, h4⟩ := ih (s0 := step s0 a) (env := e1) h2 fun a' ha => hs a' (List.mem_cons_of_mem _ ha)
    refine ⟨e2, ?_, h4⟩
    rw [List.map_cons, ← h3]
    rw [forL_cons, h1]
    rcases ho with rfl | rfl <;> rfl
/-- a loop that folds, each turn knowing what went before -/
theorem forFP {enc : α → D} {l : List α} (hG : forL g b (l.map enc) env = G) (S : σ → En → Prop) (step : σ → α → σ) (s0 : σ) (h : S s0 env) (hs : ∀ pre a, (pre ++ [a]) <+: l → ∀ e, S (pre.foldl step s0) e → NxT ((g (fz (enc a)) e).bind b) (S (step (pre.foldl step s0) a))) : ∃ e, G = some (.nx, e) ∧ S (l.foldl step s0) e := by
  obtain ⟨e, h1, h2⟩ := forA hG (fun j e => S ((l.take j).foldl step s0) e) h fun j a e ha hI => by
    have hp : l.take (j + 1) = l.take j ++ [a] := by rw [List.take_succ, ha]; rfl
    have := hs (l.take j) a (by rw [← hp]; exact List.take_prefix _ _) e hI
    show NxT _ fun e => S ((l.take (j + 1)).foldl step s0) e
    rw [hp, List.foldl_append]
    exact this
  exact ⟨e, h1, by rwa [List.take_length] at h2⟩
/-- a loop that looks for the first -/
theorem forFind {enc : α → D} {l : List α} (hG : forL g b (l.map enc) env = G) (p : α → Bool) (f : α → Val) (S : En → Prop) (h : S env) (hs : ∀ a ∈ l, ∀ e, S e → FoT ((g (fz (enc a)) e).bind b) (fun e' => p a = false ∧ S e') (fun _ => False) (fun v e' => p a = true ∧ v = f a ∧ S e')) :
    (l.find? p = none ∧ ∃ e, G = some (.nx, e) ∧ S e) ∨ ∃ a e, l.find? p = some a ∧ a ∈ l ∧ G = some (.rt (f a), e) ∧ S e := by
  rw [← hG]; clear hG
  induction l generalizing env with
  | nil => exact .inl ⟨rfl, env, rfl, h⟩
  | cons a l ih =>
    obtain ⟨o, e1, h1, ho⟩ := hs a List.mem_cons_self env h
    rw [List.map_cons, forL_cons, h1]
    rcases ho with ⟨ho, hp, h2⟩ | ⟨rfl, hb⟩ | ⟨v, rfl, hp, rfl, h2⟩
    · have e2 : fcase (forL g b (l.map enc)) (some (o, e1)) = forL g b (l.map enc) e1 := by rcases ho with rfl | rfl <;> rfl
      rw [e2, List.find?_cons, hp]
      rcases ih h2 fun a' ha => hs a' (List.mem_cons_of_mem _ ha) with q | ⟨a', e, q1, q2, q3⟩
      · exact .inl q
      · exact .inr ⟨a', e, q1, List.mem_cons_of_mem _ q2, q3⟩
    · exact hb.elim
    · rw [List.find?_cons, hp]
      exact .inr ⟨a, e1, rfl, List.mem_cons_self, rfl, h2⟩
end
/-- a while loop: m counts down -/
theorem whL_T {c : XT} {b : XS} (Inv : Nat → En → Prop) (P : En → Prop) (R : Val → En → Prop) (hs : ∀ m env, Inv m env → ∃ t env1, c env = some (t, env1) ∧ if t = true then FoT (b env1) (fun e => ∃ m', m' < m ∧ Inv m' e) P R else P env1) :
    ∀ (m : Nat) (env : En), Inv m env → ∃ n o e, whL c b n env = some (o, e) ∧ ((o = .nx ∧ P e) ∨ ∃ v, o = .rt v ∧ R v e) := by
  intro m
  induction m using Nat.strongRecOn with
  | _ m ih =>
    intro env h
    obtain ⟨t, env1, e1, h1⟩ := hs m env h
    cases t with
    | false => exact ⟨1, .nx, env1, by unfold whL; rw [e1]; rfl, .inl ⟨rfl, h1⟩⟩
    | true =>
      rw [if_pos rfl] at h1
      obtain ⟨o, e, e2, ho⟩ := h1
      have step : ∀ n, whL c b (n + 1) env = (match (generalizing := false) o with
        | .nx => whL c b n e
        | .ct => whL c b n e
        | .bk => some (.nx, e)
        | .rt v => some (.rt v, e)) := fun n => by
        have e0 : whL c b (n + 1) env = (c env).bind fun p => if p.1 = true then (b p.2).bind fun q => (match q.1 with
          | .nx => whL c b n q.2
          | .ct => whL c b n q.2
          | .bk => some (.nx, q.2)
          | .rt v => some (.rt v, q.2)) else some (.nx, p.2) := id rfl
        rw [e0, e1]
        simp only [Option.bind_some, if_true]
        generalize b env1 = r at e2
        subst e2
        rfl
      rcases ho with ⟨ho, m', hm, hI⟩ | ⟨rfl, hb⟩ | ⟨v, rfl, hr⟩
      · obtain ⟨n, o2, e3, h3, h4⟩ := ih m' hm e hI
        refine ⟨n + 1, o2, e3, ?_, h4⟩
        rw [step]
        rcases ho with rfl | rfl <;> exact h3
      · exact ⟨1, .nx, e, step 0, .inl ⟨rfl, hb⟩⟩
      · exact ⟨1, .rt v, e, step 0, .inr ⟨v, rfl, hr⟩⟩
theorem sWhT {c : XT} {b : XS} {env : En} {G : Option (Out × En)} (hG : sWh c b env = G) (Inv : Nat → En → Prop) (P : En → Prop) (R : Val → En → Prop) (m : Nat) (h : Inv m env)
    (hs : ∀ m env, Inv m env → ∃ t env1, c env = some (t, env1) ∧ if t = true then FoT (b env1) (fun e => ∃ m', m' < m ∧ Inv m' e) P R else P env1) : ∃ o e, G = some (o, e) ∧ ((o = .nx ∧ P e) ∨ ∃ v, o = .rt v ∧ R v e) := by
  obtain ⟨n, o, e, h1, h2⟩ := whL_T Inv P R hs m env h
  exact ⟨o, e, by rw [← hG]; exact sWh_of h1, h2⟩
/-- a turn of a comprehension, with what then holds -/
def LcT (r : Option (Option D × En)) (Q : Option D → En → Prop) : Prop := ∃ o e, r = some (o, e) ∧ Q o e
@[simp] theorem LcT_some {o : Option D} {e : En} {Q : Option D → En → Prop} : LcT (some (o, e)) Q = Q o e := propext ⟨fun ⟨o, e', h, q⟩ => by cases h; exact q, fun q => ⟨_, _, rfl, q⟩⟩
section
variable {α β : Type} {g : Val → En → Option En} {t : XT} {f : XE} {own : List Nat} {env : En} {G : Option (List D × En)}
/-- each item gives one, while something changes -/
theorem lcA {enc : α → D} {l : List α} (hG : lcL g t f own (l.map enc) env = G) (Inv : En → Prop) (R : α → β → Prop) (enc' : β → D) (h : Inv env)
    (hs : ∀ a ∈ l, ∀ e, Inv e → LcT (lcS g t f own (enc a) e) fun o e' => (∃ y, o = some (enc' y) ∧ R a y) ∧ Inv e') : ∃ (out : List β) (e : En), G = some (out.map enc', e) ∧ All2 R l out ∧ Inv e := by
  rw [← hG]; clear hG
  induction l generalizing env with
  | nil => exact ⟨[], env, rfl, .nil, h⟩
  | cons a l ih =>
    obtain ⟨o, e1, h1, ⟨y, rfl, hy⟩, h2⟩ := hs a List.mem_cons_self env h
    obtain ⟨out, e2, h3, h4, h5⟩ := ih h2 fun a' ha => hs a' (List.mem_cons_of_mem _ ha)
    refine ⟨y :: out, e2, ?_, .cons hy h4, h5⟩
    rw [List.map_cons, lcL_step h1, h3]
    rfl
/-- some items give one, while something changes -/
theorem lcB {enc : α → D} {l : List α} (hG : lcL g t f own (l.map enc) env = G) (Inv : En → Prop) (R : β → Prop) (enc' : β → D) (h : Inv env)
    (hs : ∀ a ∈ l, ∀ e, Inv e → LcT (lcS g t f own (enc a) e) fun o e' => (o = none ∨ ∃ y, o = some (enc' y) ∧ R y) ∧ Inv e') : ∃ (out : List β) (e : En), G = some (out.map enc', e) ∧ (∀ y ∈ out, R y) ∧ out.length ≤ l.length ∧ Inv e := by
  rw [← hG]; clear hG
  induction l generalizing env with
  | nil => exact ⟨[], env, rfl, (fun y h => by cases h), Nat.le_refl _, h⟩
  | cons a l ih =>
    obtain ⟨o, e1, h1, ho, h2⟩ := hs a List.mem_cons_self env h
    obtain ⟨out, e2, h3, h4, h6, h5⟩ := ih h2 fun a' ha => hs a' (List.mem_cons_of_mem _ ha)
    rcases ho with rfl | ⟨y, rfl, hy⟩
    · refine ⟨out, e2, ?_, h4, by simp; omega, h5⟩
      rw [List.map_cons, lcL_step h1, h3]
      rfl
    · refine ⟨y :: out, e2, ?_, fun z hz => ?_, by simp; omega, h5⟩
      · rw [List.map_cons, lcL_step h1, h3]
        rfl
      · rcases List.mem_cons.mp hz with rfl | hz
        · exact hy
        · exact h4 z hz
end
@[simp] theorem outsE_none (j : Nat) (e : En) : outsE [] j e = some [] := by
  induction e generalizing j with
  | nil => rfl
  | cons s r ih => simp [ih]
@[simp] theorem intsFrom_len' (lo : Int) (n : Nat) : (intsFrom lo n).length = n := intsFrom_len lo n
@[simp] theorem outsE_none' (j : Nat) (e : En) : outsE [] j e = some [] := outsE_none j e
/-- numbers in a row -/
theorem intsFrom_m (lo : Int) (n : Nat) : intsFrom lo n = (List.range n).map fun k : Nat => D.int (lo + (k : Int)) := rfl
end Wk
end

section
/-! P1: what the laws' own draws give. -/
namespace Wk
open PySem PySem.Spec PyProof.Rows L2

theorem sizeL : sizeLine = 16777216 := by rw [sizeLine_eq]
theorem take_spec (ns : List Int) {m : Int} (hm : 0 < m) : ∃ r ns', 0 ≤ r ∧ r < m ∧ s__law_take [ow (nums ns), fz (.int m)] = some (fz (.int r), [ow (nums ns')]) := by
  cases h : ns.getLast? with
  | none =>
    have : ns = [] := by simpa using h
    subst this
    exact ⟨0, [], by omega, hm, by simp [s__law_take_eq, d__law_take]⟩
  | some x =>
    refine ⟨x % m, ns.dropLast, Int.emod_nonneg _ (by omega), Int.emod_lt_of_pos _ hm, ?_⟩
    have : ns ≠ [] := by rintro rfl; simp at h
    simp [s__law_take_eq, d__law_take, h, this, hm]
@[simp] theorem clean_nums (ns : List Int) : cleanV (ow (nums ns)) = true := by
  show immL (ns.map D.int) = true
  induction ns with
  | nil => rfl
  | cons n ns ih => simp [immL, imm, ih]
@[simp] theorem clean_int (i : Int) : cleanV (fz (.int i)) = true := rfl
@[simp] theorem clean_str (s : List Nat) : cleanV (fz (.str s)) = true := rfl
@[simp] theorem clean_bl (b : Bool) : cleanV (fz (.bl b)) = true := rfl
theorem pick_lst (ns : List Int) {xs : List D} (h : xs ≠ []) : ∃ x ns', x ∈ xs ∧ s__law_pick [ow (nums ns), fz (.lst xs)] = some (fz x, [ow (nums ns')]) := by
  have hl : 0 < xs.length := List.length_pos_iff.mpr h
  obtain ⟨r, ns', h0, h1, e⟩ := take_spec ns (m := (xs.length : Int)) (by omega)
  have hr : r.toNat < xs.length := by omega
  have hx : xs[r.toNat]? = some xs[r.toNat] := List.getElem?_eq_getElem hr
  refine ⟨xs[r.toNat], ns', List.getElem_mem hr, ?_⟩
  simp [s__law_pick_eq, d__law_pick, e, atI_of h0, hx]
theorem pick_tup (ns : List Int) {xs : List D} (h : xs ≠ []) : ∃ x ns', x ∈ xs ∧ s__law_pick [ow (nums ns), fz (.tup xs)] = some (fz x, [ow (nums ns')]) := by
  have hl : 0 < xs.length := List.length_pos_iff.mpr h
  obtain ⟨r, ns', h0, h1, e⟩ := take_spec ns (m := (xs.length : Int)) (by omega)
  have hr : r.toNat < xs.length := by omega
  have hx : xs[r.toNat]? = some xs[r.toNat] := List.getElem?_eq_getElem hr
  refine ⟨xs[r.toNat], ns', List.getElem_mem hr, ?_⟩
  simp [s__law_pick_eq, d__law_pick, e, atI_of h0, hx]
/-- letters alone -/
def AZ (w : List Nat) : Prop := ∀ c ∈ w, 97 ≤ c ∧ c ≤ 122
instance (w : List Nat) : Decidable (AZ w) := by unfold AZ; infer_instance
theorem AZ.nil : AZ [] := fun c h => by cases h
theorem AZ.app {v w : List Nat} (h : AZ v) (h' : AZ w) : AZ (v ++ w) := fun c hc => (List.mem_append.mp hc).elim (h c) (h' c)
theorem AZ.take {w : List Nat} (h : AZ w) (n : Nat) : AZ (w.take n) := fun c hc => h c (List.mem_of_mem_take hc)
theorem AZ.flat {ws : List (List Nat)} (h : ∀ w ∈ ws, AZ w) : AZ ws.flatten := fun c hc => by
  obtain ⟨w, hw, hc⟩ := List.mem_flatten.mp hc
  exact h w hw c hc
/-- letters: texts of one sign -/
structure Lets (ls : List (List Nat)) : Prop where
  ne : ls ≠ []
  one : ∀ s ∈ ls, s.length = 1
  few : ls.length ≤ 26
  az : ∀ s ∈ ls, AZ s
  nd : ls.Nodup
theorem pick_txt (ns : List Int) {ls : List (List Nat)} (h : ls ≠ []) : ∃ s ns', s ∈ ls ∧ s__law_pick [ow (nums ns), fz (.lst (txtL ls))] = some (fz (.str s), [ow (nums ns')]) := by
  obtain ⟨x, ns', hx, e⟩ := pick_lst ns (xs := txtL ls) (by simpa using h)
  obtain ⟨s, hs, rfl⟩ := List.mem_map.mp hx
  exact ⟨s, ns', hs, e⟩
theorem pick_txtT (ns : List Int) {ls : List (List Nat)} (h : ls ≠ []) : ∃ s ns', s ∈ ls ∧ s__law_pick [ow (nums ns), fz (.tup (txtL ls))] = some (fz (.str s), [ow (nums ns')]) := by
  obtain ⟨x, ns', hx, e⟩ := pick_tup ns (xs := txtL ls) (by simpa using h)
  obtain ⟨s, hs, rfl⟩ := List.mem_map.mp hx
  exact ⟨s, ns', hs, e⟩
def abc : List (List Nat) := [97, 98, 99, 100, 101, 102, 103, 104, 105, 106, 107, 108, 109, 110, 111, 112, 113, 114, 115, 116, 117, 118, 119, 120, 121, 122].map fun c => [c]
theorem listD_abc : listD (.str [97, 98, 99, 100, 101, 102, 103, 104, 105, 106, 107, 108, 109, 110, 111, 112, 113, 114, 115, 116, 117, 118, 119, 120, 121, 122]) = some (ow (.lst (txtL abc))) := rfl
theorem lets_abc : Lets abc := ⟨by decide, by decide, by decide, by decide, by decide⟩
theorem letters_spec (ns : List Int) : ∃ ls ns', Lets ls ∧ s__law_letters [ow (nums ns)] = some (ow (.lst (txtL ls)), [ow (nums ns')]) := by
  obtain ⟨r, ns1, h0, h1, e1⟩ := take_spec ns (m := 6) (by omega)
  by_cases hr : r = 0
  · subst hr
    refine ⟨abc, ns1, lets_abc, ?_⟩
    simp [s__law_letters_eq, d__law_letters, -listD_str, listD_abc, e1]
  · obtain ⟨r2, ns2, h2, h3, e2⟩ := take_spec ns1 (m := 3) (by omega)
    have c1 : -4611686018427387904 ≤ 2 + r2 := by omega
    have c2 : 2 + r2 < 4611686018427387904 := by omega
    simp [s__law_letters_eq, d__law_letters, -listD_str, listD_abc, e1, hr, e2, c1, c2]
    generalize hF : forL _ _ _ _ = F
    obtain ⟨env', rfl, ms, ls, x, y, rfl, q1, q2, q3, q4⟩ := forL_of hF (fun i env => ∃ ms ls x y, env = [some (ow (nums ms)), some (ow (.lst (txtL abc))), some (ow (.lst (txtL ls))), x, y] ∧ (∀ s ∈ ls, s ∈ abc) ∧ ls.length ≤ i ∧ (0 < i → ls ≠ []) ∧ ls.Nodup)
      ⟨ns2, [], none, none, rfl, by simp, by simp, by simp, by simp⟩ (by
        rintro j d env hd ⟨ms, ls, x, y, rfl, q1, q2, q3, q4⟩
        obtain ⟨hj, rfl⟩ := intsFrom_get hd
        obtain ⟨s, ms', hs, e⟩ := pick_txt ms lets_abc.ne
        have hsz : ls.length < sizeLine := by rw [sizeL]; omega
        by_cases hm : s ∈ ls
        · exact ⟨.nx, [some (ow (nums ms')), some (ow (.lst (txtL abc))), some (ow (.lst (txtL ls))), some (fz (.int j)), some (fz (.str s))], by simp [e, hm], .inl rfl, ms', ls, _, _, rfl, q1, by omega, fun _ => List.ne_nil_of_mem hm, q4⟩
        · refine ⟨.nx, [some (ow (nums ms')), some (ow (.lst (txtL abc))), some (ow (.lst (txtL (ls ++ [s])))), some (fz (.int j)), some (fz (.str s))], by simp [e, hm, hsz], .inl rfl, ms', ls ++ [s], _, _, rfl, fun t ht => ?_, by simp; omega, fun _ => by simp, ?_⟩
          · rcases List.mem_append.mp ht with h | h
            · exact q1 t h
            · have : t = s := by simpa using h
              subst this
              exact hs
          · rw [List.nodup_append]
            exact ⟨q4, by simp, fun a ha b hb e => hm (by rw [List.mem_singleton] at hb; rw [← hb, ← e]; exact ha)⟩)
    rw [intsFrom_len] at q2 q3
    refine ⟨ls, ⟨q3 (by omega), fun s hs => lets_abc.one s (q1 s hs), by omega, fun s hs => lets_abc.az s (q1 s hs), q4⟩, ms, ?_⟩
    simp

/-! ### texts -/
theorem joinS_nil (ss : List (List Nat)) : joinS [] ss = ss.flatten := by
  induction ss with
  | nil => rfl
  | cons x r ih =>
    cases r with
    | nil => simp [joinS]
    | cons y r =>
      show x ++ [] ++ joinS [] (y :: r) = _
      rw [ih]
      simp
theorem joinD_lst (ss : List (List Nat)) : joinD (.str []) (.lst (txtL ss)) = if (ss.map (·.length)).sum ≤ 16777216 then some (fz (.str ss.flatten)) else none := by
  show (strsD (txtL ss)).bind _ = _
  rw [strsD_strs]
  simp [joinS_nil]
theorem sum_ones {ss : List (List Nat)} (h : ∀ s ∈ ss, s.length = 1) : (ss.map (·.length)).sum = ss.length := by
  induction ss with
  | nil => rfl
  | cons x r ih =>
    simp only [List.map_cons, List.sum_cons, List.length_cons]
    rw [ih fun s hs => h s (List.mem_cons_of_mem _ hs), h x List.mem_cons_self]
    omega
/-- letters in a row, drawn -/
theorem picks_spec {ls : List (List Nat)} (hl : Lets ls) {own : List Nat} {n : Nat} {mk : List Int → En} {G : Option (List D × En)} {g : Val → En → Option En} {f : XE} (ns : List Int) (hG : lcL g Wk.tYes f own (intsFrom 0 n) (mk ns) = G)
    (hs : ∀ (j : Nat) ms ms' s, s__law_pick [ow (nums ms), fz (.lst (txtL ls))] = some (fz (.str s), [ow (nums ms')]) → lcS g Wk.tYes f own (.int j) (mk ms) = some (some (.str s), mk ms')) :
    ∃ ss ms, G = some (txtL ss, mk ms) ∧ (∀ s ∈ ss, s ∈ ls) ∧ ss.length = n := by
  obtain ⟨out, env', e, ha, ms, rfl⟩ := lcL_all_of hG (fun env => ∃ ms, env = mk ms) (fun _ x => ∃ s, x = .str s ∧ s ∈ ls) ⟨ns, rfl⟩ (by
    rintro d hd env ⟨ms, rfl⟩
    obtain ⟨j, hj, rfl⟩ := intsFrom_mem hd
    obtain ⟨s, ms', hs', e⟩ := pick_txt ms hl.ne
    have := hs j ms ms' s e
    exact ⟨.str s, mk ms', by simpa using this, ⟨s, rfl, hs'⟩, ms', rfl⟩)
  have aux : ∀ {ds out : List D}, All2 (fun _ x => ∃ s, x = .str s ∧ s ∈ ls) ds out → ∃ ss, out = txtL ss ∧ (∀ s ∈ ss, s ∈ ls) := by
    intro ds out h
    induction h with
    | nil => exact ⟨[], rfl, fun s h => by cases h⟩
    | cons r t ih =>
      obtain ⟨ss, e, h⟩ := ih
      obtain ⟨s, rfl, hs⟩ := r
      exact ⟨s :: ss, by rw [e]; rfl, fun t ht => by
        rcases List.mem_cons.mp ht with rfl | ht
        · exact hs
        · exact h t ht⟩
  obtain ⟨ss, rfl, h1⟩ := aux ha
  refine ⟨ss, ms, e, h1, ?_⟩
  have := ha.length
  rw [intsFrom_len] at this
  simpa using this.symm
theorem flat_ones {ss : List (List Nat)} (h : ∀ s ∈ ss, s.length = 1) : ss.flatten.length = ss.length := by
  rw [List.length_flatten, sum_ones h]
theorem text_spec {ls : List (List Nat)} (hl : Lets ls) (ns : List Int) {m : Int} (h0 : 0 ≤ m) (h1 : m ≤ 1000) : ∃ s ns', (s.length : Int) ≤ m ∧ AZ s ∧ s__law_text_of [ow (nums ns), fz (.lst (txtL ls)), fz (.int m)] = some (fz (.str s), [ow (nums ns')]) := by
  obtain ⟨r, ns1, r0, r1, e1⟩ := take_spec ns (m := m + 1) (by omega)
  have c1 : -4611686018427387904 ≤ r := by omega
  have c2 : r < 4611686018427387904 := by omega
  simp [s__law_text_of_eq, d__law_text_of, e1, c1, c2]
  generalize hG : lcL _ _ _ _ _ _ = G
  obtain ⟨ss, ms, rfl, q1, q2⟩ := picks_spec hl (mk := fun ms => [some (ow (nums ms)), some (fz (.lst (txtL ls))), some (fz (.int m)), none]) ns1 hG (by
    intro j ms ms' s e
    simp [e])
  have q1' : ∀ s ∈ ss, s.length = 1 := fun s h => hl.one s (q1 s h)
  have hs : ss.length ≤ sizeLine := by rw [sizeL]; omega
  have hs2 : (ss.map (·.length)).sum ≤ 16777216 := by rw [sum_ones q1']; omega
  refine ⟨ss.flatten, by rw [flat_ones q1']; omega, AZ.flat fun s h => hl.az s (q1 s h), ms, ?_⟩
  simp [hs, joinD_lst, hs2]
theorem word_spec {ls : List (List Nat)} (hl : Lets ls) (ns : List Int) : ∃ s ns', 1 ≤ s.length ∧ s.length ≤ 18 ∧ AZ s ∧ s__law_word [ow (nums ns), fz (.lst (txtL ls))] = some (fz (.str s), [ow (nums ns')]) := by
  obtain ⟨r, ns1, r0, r1, e1⟩ := take_spec ns (m := 4) (by omega)
  obtain ⟨r2, ns2, r2', r3, e2⟩ := take_spec ns1 (m := 10) (by omega)
  obtain ⟨r4, ns3, r5, r6, e3⟩ := take_spec ns2 (m := 11) (by omega)
  have fin : ∀ (k : Int) (ns4 : List Int), 1 ≤ k → k ≤ 18 → ∃ s ns', 1 ≤ s.length ∧ s.length ≤ 18 ∧ AZ s ∧ (∃ G, lcL (gN 3) Wk.tYes (eCall s__law_pick [0] [.s 0, .s 1]) [3] (intsFrom 0 k.toNat) [some (ow (nums ns4)), some (fz (.lst (txtL ls))), some (fz (.int k)), none] = some (txtL G, [some (ow (nums ns')), some (fz (.lst (txtL ls))), some (fz (.int k)), none]) ∧ s = G.flatten ∧ G.length ≤ sizeLine ∧ (G.map (·.length)).sum ≤ 16777216) := by
    intro k ns4 k1 k2
    obtain ⟨ss, ms, e, q1, q2⟩ := picks_spec hl (mk := fun ms => [some (ow (nums ms)), some (fz (.lst (txtL ls))), some (fz (.int k)), none]) ns4 (g := gN 3) (f := eCall s__law_pick [0] [.s 0, .s 1]) (own := [3]) (n := k.toNat) rfl (by
      intro j ms ms' s e
      simp [e])
    have q1' : ∀ s ∈ ss, s.length = 1 := fun s h => hl.one s (q1 s h)
    exact ⟨ss.flatten, ms, by rw [flat_ones q1']; omega, by rw [flat_ones q1']; omega, AZ.flat fun s h => hl.az s (q1 s h), ss, e, rfl, by rw [sizeL]; omega, by rw [sum_ones q1']; omega⟩
  by_cases h : r2 = 0
  · subst h
    obtain ⟨s, ms, s1, s2, s3, G, e, rfl, g1, g2⟩ := fin (8 + r4) ns3 (by omega) (by omega)
    have c1 : -4611686018427387904 ≤ 8 + r4 := by omega
    have c2 : 8 + r4 < 4611686018427387904 := by omega
    exact ⟨_, ms, s1, s2, s3, by simp [s__law_word_eq, d__law_word, e1, e2, e3, c1, c2, e, g1, joinD_lst, g2]⟩
  · obtain ⟨s, ms, s1, s2, s3, G, e, rfl, g1, g2⟩ := fin (1 + r) ns2 (by omega) (by omega)
    have c1 : -4611686018427387904 ≤ 1 + r := by omega
    have c2 : 1 + r < 4611686018427387904 := by omega
    exact ⟨_, ms, s1, s2, s3, by simp [s__law_word_eq, d__law_word, e1, e2, h, c1, c2, e, g1, joinD_lst, g2]⟩
end Wk
end

section
/-! P2: words, worths, stores, as drawn. -/
namespace Wk
open PySem PySem.Spec PyProof.Rows L2

/-! ### sorted texts -/
def leT (a b : List Nat) : Bool := !decide (b < a)
theorem leB_str (a b : List Nat) : leB (.str a) (.str b) = leT a b := by
  unfold leB leT
  rw [ltB_str]
theorem sort_txt (l : List (List Nat)) : (txtL l).mergeSort leB = txtL (l.mergeSort leT) :=
  (PySem.W.sort_maps D.str (l := l) fun a _ b _ => (leB_str a b).symm).symm
theorem sortOk_txt (l : List (List Nat)) : sortOk (txtL l) = decide (l.length ≤ sizeLine) := by
  unfold sortOk
  rw [dataL_strs, depL_strs]
  have h1 : ((txtL l).all fun a => (txtL l).all fun b => alikeD a b) = true := by
    rw [List.all_eq_true]
    intro a ha
    rw [List.all_eq_true]
    intro b hb
    obtain ⟨x, _, rfl⟩ := List.mem_map.mp ha
    obtain ⟨y, _, rfl⟩ := List.mem_map.mp hb
    simp [alikeD, py, PySem.W.alike]
  have h2 : (txtL l).all isOtherB = true := by
    rw [List.all_eq_true]
    intro a ha
    obtain ⟨x, _, rfl⟩ := List.mem_map.mp ha
    rfl
  rw [h1, h2]
  simp
theorem sortD_txt (l : List (List Nat)) (h : l.length ≤ sizeLine) : sortD (.lst (txtL l)) = some (ow (.lst (txtL (l.mergeSort leT)))) := by
  rw [sortD_lst, sortOk_txt, sort_txt]
  simp [h]
/-- words: different texts of 1 to n signs -/
structure Wds (n m : Nat) (ws : List (List Nat)) : Prop where
  nd : ws.Nodup
  len : ∀ w ∈ ws, 1 ≤ w.length ∧ w.length ≤ n
  few : ws.length ≤ m
  az : ∀ w ∈ ws, AZ w
theorem Wds.nil {n m : Nat} : Wds n m [] := ⟨List.nodup_nil, (fun w h => by cases h), Nat.zero_le _, (fun w h => by cases h)⟩
theorem Wds.snoc {n m : Nat} {ws : List (List Nat)} {w : List Nat} (h : Wds n m ws) (hw : w ∉ ws) (h1 : 1 ≤ w.length) (h2 : w.length ≤ n) (h3 : AZ w) : Wds n (m + 1) (ws ++ [w]) := by
  refine ⟨?_, fun x hx => ?_, by have := h.few; simp; omega, fun x hx => (List.mem_append.mp hx).elim (h.az x) fun e => by rw [List.mem_singleton] at e; rw [e]; exact h3⟩
  · rw [List.nodup_append]
    exact ⟨h.nd, by simp, fun a ha b hb e => hw (by rw [List.mem_singleton] at hb; rw [← hb, ← e]; exact ha)⟩
  · rcases List.mem_append.mp hx with hx | hx
    · exact h.len x hx
    · rw [List.mem_singleton] at hx
      subst hx
      exact ⟨h1, h2⟩
theorem Wds.mono {n m n' m' : Nat} {ws : List (List Nat)} (h : Wds n m ws) (hn : n ≤ n') (hm : m ≤ m') : Wds n' m' ws := ⟨h.nd, fun w hw => ⟨(h.len w hw).1, Nat.le_trans (h.len w hw).2 hn⟩, Nat.le_trans h.few hm, h.az⟩
theorem Wds.sort {n m : Nat} {ws : List (List Nat)} (h : Wds n m ws) : Wds n m (ws.mergeSort leT) := by
  have p := List.mergeSort_perm ws leT
  exact ⟨p.symm.nodup_iff.mp h.nd, fun w hw => h.len w (p.mem_iff.mp hw), by rw [p.length_eq]; exact h.few, fun w hw => h.az w (p.mem_iff.mp hw)⟩
@[simp] theorem clean_txtL (l : List (List Nat)) : cleanV (ow (.lst (txtL l))) = true := by
  show immL (txtL l) = true
  induction l with
  | nil => rfl
  | cons n ns ih => simp [immL, imm, ih]
theorem words_spec {ls : List (List Nat)} (hl : Lets ls) (ns : List Int) {m : Nat} (h1 : m ≤ 1000) : ∃ ws ns', Wds 18 m ws ∧ s__law_words [ow (nums ns), fz (.lst (txtL ls)), fz (.int m)] = some (fz (.tup (txtL (ws.mergeSort leT))), [ow (nums ns')]) := by
  obtain ⟨r, ns1, r0, r1, e1⟩ := take_spec ns (m := (m : Int) + 1) (by omega)
  have c1 : -4611686018427387904 ≤ r := by omega
  have c2 : r < 4611686018427387904 := by omega
  simp [s__law_words_eq, d__law_words, e1, c1, c2]
  generalize hF : forL _ _ _ _ = F
  obtain ⟨env', rfl, ms, fs, x, y, z, rfl, q⟩ := forL_of hF (fun i env => ∃ ms fs x y z, env = [some (ow (nums ms)), some (fz (.lst (txtL ls))), some (fz (.int m)), some (ow (.lst (txtL fs))), x, y, z] ∧ Wds 18 i fs)
    ⟨ns1, [], none, none, none, rfl, .nil⟩ (by
      rintro j d env hd ⟨ms, fs, x, y, z, rfl, q⟩
      obtain ⟨hj, rfl⟩ := intsFrom_get hd
      obtain ⟨way, ms1, w0, w1, ew⟩ := take_spec ms (m := 4) (by omega)
      obtain ⟨w, ms2, l1, l2, l3, e2⟩ := word_spec hl ms1
      have hsz : fs.length < sizeLine := by rw [sizeL]; have := q.few; omega
      have fin : ∀ (v : List Nat) (ms' : List Int), 1 ≤ v.length → v.length ≤ 18 → AZ v → (∃ ms, ((bCons (sIf (tOf (eApp (g2 notInD) [.s 6, .s 3])) (bCons (sDrop (eMut 3 isLstB muApp [.e (eV 6)])) (bNil)) (bNil)) (bNil)) [some (ow (nums ms')), some (fz (.lst (txtL ls))), some (fz (.int m)), some (ow (.lst (txtL fs))), some (fz (.int j)), some (fz (.int way)), some (fz (.str v))] = some (.nx, ms) ∧
          ∃ ms'' fs' x y z, ms = [some (ow (nums ms'')), some (fz (.lst (txtL ls))), some (fz (.int m)), some (ow (.lst (txtL fs'))), x, y, z] ∧ Wds 18 (j + 1) fs')) := by
        intro v ms' v1 v2 v3
        by_cases hm : v ∈ fs
        · exact ⟨[some (ow (nums ms')), some (fz (.lst (txtL ls))), some (fz (.int m)), some (ow (.lst (txtL fs))), some (fz (.int j)), some (fz (.int way)), some (fz (.str v))], by simp [hm], ms', fs, _, _, _, rfl, q.mono (Nat.le_refl _) (by omega)⟩
        · exact ⟨[some (ow (nums ms')), some (fz (.lst (txtL ls))), some (fz (.int m)), some (ow (.lst (txtL (fs ++ [v])))), some (fz (.int j)), some (fz (.int way)), some (fz (.str v))], by simp [hm, hsz], ms', fs ++ [v], _, _, _, rfl, q.snoc hm v1 v2 v3⟩
      by_cases hf : fs = []
      · subst hf
        obtain ⟨en, e, hI⟩ := fin w ms2 l1 l2 l3
        refine ⟨.nx, en, ?_, .inl rfl, hI⟩
        simp at e
        simp [ew, e2, e]
      · have hf0 : 0 < fs.length := List.length_pos_iff.mpr hf
        by_cases h0 : way = 0
        · subst h0
          obtain ⟨f, ms3, hfm, e3⟩ := pick_txt ms2 hf
          obtain ⟨c, ms4, hcm, e4⟩ := pick_txt ms3 hl.ne
          have hc := hl.one c hcm
          have hfl := q.len f hfm
          have hz : f.length + c.length ≤ sizeLine := by rw [sizeL]; omega
          obtain ⟨en, e, hI⟩ := fin ((f ++ c).take 18) ms4 (by rw [List.length_take, List.length_append]; omega) (by rw [List.length_take]; omega) (((q.az f hfm).app (hl.az c hcm)).take _)
          refine ⟨.nx, en, ?_, .inl rfl, hI⟩
          simp at e
          simp [ew, e2, hf0, e3, e4, hz, cutL_to, e]
        · by_cases h1 : way = 1
          · subst h1
            obtain ⟨f, ms3, hfm, e3⟩ := pick_txt ms2 hf
            have hfl := q.len f hfm
            obtain ⟨r, ms4, r0, r1, e4⟩ := take_spec ms3 (m := (f.length : Int)) (by omega)
            have hr : (0 : Int) ≤ 1 + r := by omega
            obtain ⟨en, e, hI⟩ := fin (f.take (1 + r).toNat) ms4 (by rw [List.length_take]; omega) (by rw [List.length_take]; omega) ((q.az f hfm).take _)
            refine ⟨.nx, en, ?_, .inl rfl, hI⟩
            simp at e
            simp [ew, e2, hf0, e3, e4, cutL_to, hr, e]
          · obtain ⟨en, e, hI⟩ := fin w ms2 l1 l2 l3
            refine ⟨.nx, en, ?_, .inl rfl, hI⟩
            simp at e
            simp [ew, e2, hf0, h0, h1, e])
  rw [intsFrom_len] at q
  have hz : fs.length ≤ sizeLine := by rw [sizeL]; have := q.few; omega
  exact ⟨fs, q.mono (Nat.le_refl _) (by omega), ms, by simp [-sortD_lst, sortD_txt, hz]⟩

/-! ### worths, stores -/
theorem worth_spec (ns : List Int) : ∃ x ns', s__law_worth [ow (nums ns)] = some (fz (.int x), [ow (nums ns')]) := by
  obtain ⟨r, ns1, r0, r1, e1⟩ := take_spec ns (m := 8) (by omega)
  obtain ⟨r2, ns2, r3, r4, e2⟩ := take_spec ns1 (m := 9) (by omega)
  by_cases h : 0 < r2
  · exact ⟨r - 2, ns2, by simp [s__law_worth_eq, d__law_worth, e1, e2, h]⟩
  · obtain ⟨x, ns3, hx, e3⟩ := pick_lst ns2 (xs := [.int 60, .int (-60), .int (1000000000000 + 39), .int (10000000000000000000000000000000000000000 + 121), .int (-10000000000000000000000000000000000000000)]) (by simp)
    obtain ⟨y, rfl⟩ : ∃ y, x = .int y := by
      simp at hx
      rcases hx with rfl | rfl | rfl | rfl | rfl <;> exact ⟨_, rfl⟩
    simp at e3
    exact ⟨r - 2 + y, ns3, by simp [s__law_worth_eq, d__law_worth, e1, e2, h, e3]⟩
/-- a word with its worth -/
abbrev prD (p : List Nat × Int) : D := .tup [.str p.1, .int p.2]
abbrev prL (st : List (List Nat × Int)) : List D := st.map prD
abbrev stD (st : List (List Nat × Int)) : D := .tup (prL st)
theorem store_of_aux (ns : List Int) (xs : List D) (ws : List (List Nat)) (hx : ∃ v, itemsOf v = some (txtL ws) ∧ xs = [v]) (hl : ws.length ≤ sizeLine) : ∃ v, xs = [v] ∧ ∃ st ns', st.map (·.1) = ws ∧ s__law_store_of [ow (nums ns), fz v] = some (fz (stD st), [ow (nums ns')]) := by
  obtain ⟨v, hv, rfl⟩ := hx
  refine ⟨v, rfl, ?_⟩
  obtain ⟨x, ns1, e1⟩ := worth_spec ns
  obtain ⟨r, ns2, r0, r1, e2⟩ := take_spec ns1 (m := 5) (by omega)
  by_cases h : r = 0
  · subst h
    refine ⟨ws.map fun w => (w, x), ns2, by simp [Function.comp_def], ?_⟩
    simp [s__law_store_of_eq, d__law_store_of, e1, e2, hv]
    generalize hG : lcL _ _ _ _ _ _ = G
    obtain rfl := lcL_mapA (enc := D.str) (l := ws) hG (fun w => .tup [.str w, .int x]) (fun w _ => by simp)
    simp [hl, Function.comp_def]
  · simp [s__law_store_of_eq, d__law_store_of, e1, e2, h, hv]
    generalize hG : lcL _ _ _ _ _ _ = G
    obtain ⟨out, env', rfl, ha, ms, rfl⟩ := lcL_all_of hG (fun env => ∃ ms, env = [some (ow (nums ms)), some (fz v), some (fz (.int x)), none]) (fun d y => ∃ i, y = .tup [d, .int i]) ⟨ns2, rfl⟩ (by
      rintro d hd env ⟨ms, rfl⟩
      obtain ⟨i, ms', e⟩ := worth_spec ms
      exact ⟨_, [some (ow (nums ms')), some (fz v), some (fz (.int x)), none], by simp [e], ⟨i, rfl⟩, ms', rfl⟩)
    have aux : ∀ {ws : List (List Nat)} {out : List D}, All2 (fun d y => ∃ i, y = .tup [d, .int i]) (txtL ws) out → ∃ st : List (List Nat × Int), st.map (·.1) = ws ∧ out = prL st := by
      intro ws
      induction ws with
      | nil => intro out h; cases h; exact ⟨[], rfl, rfl⟩
      | cons w ws ih =>
        intro out h
        cases h with
        | cons r t =>
          obtain ⟨st, h1, h2⟩ := ih t
          obtain ⟨i, rfl⟩ := r
          exact ⟨(w, i) :: st, by simp [h1], by rw [h2]; rfl⟩
    obtain ⟨st, h1, rfl⟩ := aux ha
    have hz : (prL st).length ≤ sizeLine := by
      have := congrArg List.length h1
      simp at this
      simp [this]
      exact hl
    have hz' : st.length ≤ sizeLine := by simpa using hz
    exact ⟨st, h1, ms, by simp [hz']⟩
theorem store_of_tup (ns : List Int) {ws : List (List Nat)} (hl : ws.length ≤ sizeLine) : ∃ st ns', st.map (·.1) = ws ∧ s__law_store_of [ow (nums ns), fz (.tup (txtL ws))] = some (fz (stD st), [ow (nums ns')]) := by
  obtain ⟨v, hv, h⟩ := store_of_aux ns _ ws ⟨.tup (txtL ws), rfl, rfl⟩ hl
  injection hv with hv _
  subst hv
  exact h
theorem store_of_lst (ns : List Int) {ws : List (List Nat)} (hl : ws.length ≤ sizeLine) : ∃ st ns', st.map (·.1) = ws ∧ s__law_store_of [ow (nums ns), fz (.lst (txtL ws))] = some (fz (stD st), [ow (nums ns')]) := by
  obtain ⟨v, hv, h⟩ := store_of_aux ns _ ws ⟨.lst (txtL ws), rfl, rfl⟩ hl
  injection hv with hv _
  subst hv
  exact h
theorem k_spec (ns : List Int) : ∃ (k : Nat) (ns' : List Int), 1 ≤ k ∧ k ≤ 10 ∧ s__law_k [ow (nums ns)] = some (fz (.int k), [ow (nums ns')]) := by
  obtain ⟨x, ns', hx, e⟩ := pick_lst ns (xs := [.int 1, .int 1, .int 2, .int 2, .int 3, .int 3, .int 4, .int 5, .int 8, .int 10]) (by simp)
  obtain ⟨k, rfl, k1, k2⟩ : ∃ k : Nat, x = .int k ∧ 1 ≤ k ∧ k ≤ 10 := by
    simp at hx
    rcases hx with rfl | rfl | rfl | rfl | rfl | rfl | rfl
    · exact ⟨1, rfl, by omega, by omega⟩
    · exact ⟨2, rfl, by omega, by omega⟩
    · exact ⟨3, rfl, by omega, by omega⟩
    · exact ⟨4, rfl, by omega, by omega⟩
    · exact ⟨5, rfl, by omega, by omega⟩
    · exact ⟨8, rfl, by omega, by omega⟩
    · exact ⟨10, rfl, by omega, by omega⟩
  exact ⟨k, ns', k1, k2, by simp [s__law_k_eq, d__law_k, e]⟩
/-- what somebody types -/
theorem typed_spec {ls : List (List Nat)} (hl : Lets ls) (ns : List Int) {ws : List (List Nat)} (hw : ∀ w ∈ ws, w.length ≤ 40 ∧ AZ w) (hz : ws.length ≤ 1000) : ∃ t ns', t.length ≤ 41 ∧ AZ t ∧ s__law_typed [ow (nums ns), fz (.lst (txtL ls)), fz (.tup (txtL ws))] = some (fz (.str t), [ow (nums ns')]) := by
  obtain ⟨r, ns1, r0, r1, e1⟩ := take_spec ns (m := 6) (by omega)
  by_cases h0 : r = 0
  · subst h0
    exact ⟨[], ns1, by simp, .nil, by simp [s__law_typed_eq, d__law_typed, e1]⟩
  by_cases h1 : r = 1 ∨ ws = []
  · obtain ⟨t, ns2, ht, ht', e2⟩ := text_spec hl ns1 (m := 3) (by omega) (by omega)
    refine ⟨t, ns2, by omega, ht', ?_⟩
    by_cases h2 : r = 1
    · subst h2
      simp [s__law_typed_eq, d__law_typed, e1, e2]
    · have h3 := h1.resolve_left h2
      subst h3
      simp [s__law_typed_eq, d__law_typed, e1, h0, h2, e2]
  · obtain ⟨h1, h2⟩ := not_or.mp h1
    obtain ⟨w, ns2, hwm, e2⟩ := pick_txtT ns1 h2
    have ⟨hwl, hwa⟩ := hw w hwm
    by_cases h3 : r = 2
    · subst h3
      exact ⟨w, ns2, by omega, hwa, by simp [s__law_typed_eq, d__law_typed, e1, h2, e2]⟩
    · by_cases h4 : r = 3
      · subst h4
        obtain ⟨c, ns3, hc, e3⟩ := pick_txt ns2 hl.ne
        have hc1 := hl.one c hc
        have hs : w.length + c.length ≤ sizeLine := by rw [sizeL]; omega
        exact ⟨w ++ c, ns3, by simp; omega, hwa.app (hl.az c hc), by simp [s__law_typed_eq, d__law_typed, e1, h2, e2, e3, hs]⟩
      · obtain ⟨q, ns3, q0, q1, e3⟩ := take_spec ns2 (m := min (w.length : Int) 3 + 1) (by omega)
        exact ⟨w.take q.toNat, ns3, by rw [List.length_take]; omega, hwa.take _, by simp [s__law_typed_eq, d__law_typed, e1, h0, h1, h2, h3, h4, e2, e3, cutL_to, q0]⟩
theorem words_of_spec (st : List (List Nat × Int)) (hz : st.length ≤ sizeLine) : s__law_words_of [fz (stD st)] = some (fz (.tup (txtL (st.map (·.1)))), []) := by
  simp [s__law_words_of_eq, d__law_words_of]
  generalize hG : lcL _ _ _ _ _ _ = G
  obtain rfl := lcL_mapA (enc := prD) (l := st) hG (fun p => .str p.1) (fun p _ => by simp)
  simp [hz, Function.comp_def]
end Wk
end

section
/-! P3: trees, rules, the draws. -/
namespace Wk
open PySem PySem.Spec PyProof.Rows L2

theorem tree_spec {ls : List (List Nat)} (hl : Lets ls) (ns : List Int) {k : Nat} (hk1 : 1 ≤ k) (hk : k ≤ 1000) : ∃ ws st ns', Wds 6 12 ws ∧ st.map (·.1) = ws.mergeSort leT ∧ s__law_tree [ow (nums ns), fz (.lst (txtL ls)), fz (.int k)] = some (fz (stD st), [ow (nums ns')]) := by
  obtain ⟨r, ns1, r0, r1, e1⟩ := take_spec ns (m := 3) (by omega)
  have c1 : -4611686018427387904 ≤ 1 + r := by omega
  have c2 : 1 + r < 4611686018427387904 := by omega
  simp [s__law_tree_eq, d__law_tree, e1, c1, c2]
  generalize hF : forL _ _ _ _ = F
  obtain ⟨env', rfl, ms, ws, a, b, c, d, rfl, q⟩ := forL_of hF (fun i env => ∃ ms ws a b c d, env = [some (ow (nums ms)), some (fz (.lst (txtL ls))), some (fz (.int k)), some (ow (.lst (txtL ws))), a, b, c, d] ∧ Wds 6 12 ws)
    ⟨ns1, [], none, none, none, none, rfl, .nil⟩ (by
      rintro j dd env hd ⟨ms, ws, a, b, c, d, rfl, q⟩
      obtain ⟨hj, rfl⟩ := intsFrom_get hd
      obtain ⟨t, ms1, ht, hta, e2⟩ := text_spec hl ms (m := 3) (by omega) (by omega)
      obtain ⟨x, ms2, hx, e3⟩ := pick_lst ms1 (xs := [.int 1, .int (min k 6), .int (min k 6), .int (min (k + 1) 6)]) (by simp)
      obtain ⟨y, rfl, y0, y1⟩ : ∃ y : Int, x = .int y ∧ 0 ≤ y ∧ y ≤ 6 := by
        simp at hx
        rcases hx with rfl | rfl | rfl
        · exact ⟨1, rfl, by omega, by omega⟩
        · exact ⟨_, rfl, by omega, by omega⟩
        · exact ⟨_, rfl, by omega, by omega⟩
      have c3 : -4611686018427387904 ≤ y := by omega
      have c4 : y < 4611686018427387904 := by omega
      simp [e2, e3, c3, c4]
      generalize hF2 : forL _ _ _ _ = F2
      obtain ⟨env', rfl, ms3, ws3, b3, c3', rfl, q3⟩ := forL_of hF2 (fun i env => ∃ ms ws b c, env = [some (ow (nums ms)), some (fz (.lst (txtL ls))), some (fz (.int k)), some (ow (.lst (txtL ws))), some (fz (.int j)), some (fz (.str t)), b, c] ∧ Wds 6 12 ws)
        ⟨ms2, ws, c, d, rfl, q⟩ (by
          rintro j2 dd env hd2 ⟨ms, ws, b, c, rfl, q⟩
          obtain ⟨hj2, rfl⟩ := intsFrom_get hd2
          obtain ⟨t2, ms1, ht2, hta2, e4⟩ := text_spec hl ms (m := 3) (by omega) (by omega)
          have hz : t.length + t2.length ≤ sizeLine := by rw [sizeL]; omega
          have hzw : ws.length < sizeLine := by rw [sizeL]; have := q.few; omega
          by_cases h0 : t ++ t2 = []
          · obtain ⟨h1, h2⟩ := List.append_eq_nil_iff.mp h0
            subst h1 h2
            exact ⟨.nx, [some (ow (nums ms1)), some (fz (.lst (txtL ls))), some (fz (.int k)), some (ow (.lst (txtL ws))), some (fz (.int j)), some (fz (.str [])), some (fz (.int j2)), some (fz (.str []))], by simp [e4], .inl rfl, ms1, ws, _, _, rfl, q⟩
          · have h0' : t = [] → ¬ t2 = [] := fun h1 h2 => h0 (by rw [h1, h2]; rfl)
            by_cases hm : t ++ t2 ∈ ws
            · exact ⟨.nx, [some (ow (nums ms1)), some (fz (.lst (txtL ls))), some (fz (.int k)), some (ow (.lst (txtL ws))), some (fz (.int j)), some (fz (.str t)), some (fz (.int j2)), some (fz (.str (t ++ t2)))], by
                by_cases ht0 : t = []
                · have h00 := h0' ht0
                  subst ht0
                  simp at hm hz
                  simp [e4, hz, h00, hm]
                · simp [e4, hz, ht0, hm], .inl rfl, ms1, ws, _, _, rfl, q⟩
            · by_cases hlw : (ws.length : Int) < 12
              · have h3 := List.length_pos_iff.mpr h0
                exact ⟨.nx, [some (ow (nums ms1)), some (fz (.lst (txtL ls))), some (fz (.int k)), some (ow (.lst (txtL (ws ++ [t ++ t2])))), some (fz (.int j)), some (fz (.str t)), some (fz (.int j2)), some (fz (.str (t ++ t2)))], by
                  by_cases ht0 : t = []
                  · have h00 := h0' ht0
                    subst ht0
                    simp at hm hz
                    simp [e4, hz, h00, hm, hlw, hzw]
                  · simp [e4, hz, ht0, hm, hlw, hzw], .inl rfl, ms1, ws ++ [t ++ t2], _, _, rfl,
                  ⟨(q.snoc hm h3 (by rw [List.length_append]; omega) (hta.app hta2)).nd, (q.snoc hm h3 (by rw [List.length_append]; omega) (hta.app hta2)).len, by simp; omega, (q.snoc hm h3 (by rw [List.length_append]; omega) (hta.app hta2)).az⟩⟩
              · exact ⟨.nx, [some (ow (nums ms1)), some (fz (.lst (txtL ls))), some (fz (.int k)), some (ow (.lst (txtL ws))), some (fz (.int j)), some (fz (.str t)), some (fz (.int j2)), some (fz (.str (t ++ t2)))], by
                  by_cases ht0 : t = []
                  · have h00 := h0' ht0
                    subst ht0
                    simp at hm hz
                    simp [e4, hz, h00, hm, hlw]
                  · simp [e4, hz, ht0, hm, hlw], .inl rfl, ms1, ws, _, _, rfl, q⟩)
      exact ⟨.nx, _, rfl, .inl rfl, ms3, ws3, ⟨_, _, _, _, rfl⟩, q3⟩)
  have hz : ws.length ≤ sizeLine := by rw [sizeL]; have := q.few; omega
  have hz2 : (ws.mergeSort leT).length ≤ sizeLine := by rw [List.length_mergeSort]; exact hz
  obtain ⟨st, ms', hst, e⟩ := store_of_lst ms hz2
  refine ⟨ws, q, st, hst, ms', ?_⟩
  simp [-sortD_lst, sortD_txt, hz, e]
theorem rule_spec {ls : List (List Nat)} (hl : Lets ls) (ns : List Int) {st : List (List Nat × Int)} (hz : st.length ≤ 1000) : ∃ ws ns', ws.length ≤ 1003 ∧ s__law_rule [ow (nums ns), fz (.lst (txtL ls)), fz (stD st)] = some (fz (.tup (txtL ws)), [ow (nums ns')]) := by
  simp [s__law_rule_eq, d__law_rule]
  generalize hG : lcL _ _ _ _ _ _ = G
  obtain ⟨out, env', rfl, ho, hlen, ms, rfl⟩ := lcL_some_of hG (fun env => ∃ ms, env = [some (ow (nums ms)), some (fz (.lst (txtL ls))), some (fz (stD st)), none, none, none]) (fun x => ∃ s, x = .str s) ⟨ns, rfl⟩ (by
    rintro d hd env ⟨ms, rfl⟩
    obtain ⟨p, _, rfl⟩ := List.mem_map.mp hd
    obtain ⟨r, ms', r0, r1, e⟩ := take_spec ms (m := 3) (by omega)
    by_cases h : r = 0
    · subst h
      exact ⟨some (.str p.1), [some (ow (nums ms')), some (fz (.lst (txtL ls))), some (fz (stD st)), none, none, none], by simp [e], (fun x hx => by injection hx with hx; exact ⟨p.1, hx.symm⟩), ms', rfl⟩
    · exact ⟨none, [some (ow (nums ms')), some (fz (.lst (txtL ls))), some (fz (stD st)), none, none, none], by simp [e, h], (fun x hx => by cases hx), ms', rfl⟩)
  have aux : ∀ {out : List D}, (∀ x ∈ out, ∃ s, x = .str s) → ∃ ws, out = txtL ws := by
    intro out
    induction out with
    | nil => intro _; exact ⟨[], rfl⟩
    | cons x out ih =>
      intro h
      obtain ⟨s, rfl⟩ := h x List.mem_cons_self
      obtain ⟨ws, rfl⟩ := ih fun y hy => h y (List.mem_cons_of_mem _ hy)
      exact ⟨s :: ws, rfl⟩
  obtain ⟨fs, rfl⟩ := aux ho
  have hfl : fs.length ≤ 1000 := by simp at hlen; omega
  have hfz : fs.length ≤ sizeLine := by rw [sizeL]; omega
  obtain ⟨us, ms2, hu, e2⟩ := words_spec hl ms (m := 3) (by omega)
  simp at e2
  simp [hfz, e2]
  generalize hF : forL _ _ _ _ = F
  have hul : (us.mergeSort leT).length ≤ 3 := by rw [List.length_mergeSort]; exact hu.few
  obtain ⟨env', rfl, gs, c, rfl, q⟩ := forL_of hF (fun i env => ∃ gs c, env = [some (ow (nums ms2)), some (fz (.lst (txtL ls))), some (fz (stD st)), none, some (ow (.lst (txtL gs))), c] ∧ gs.length ≤ 1000 + i)
    ⟨fs, none, rfl, by omega⟩ (by
      rintro j d env hd ⟨gs, c, rfl, q⟩
      have hj := (List.getElem?_eq_some_iff.mp hd).1
      rw [List.length_map] at hj
      obtain ⟨w, _, rfl⟩ := List.mem_map.mp (List.mem_of_getElem? hd)
      have hz : gs.length < sizeLine := by rw [sizeL]; omega
      by_cases hm : w ∈ gs
      · exact ⟨.nx, [some (ow (nums ms2)), some (fz (.lst (txtL ls))), some (fz (stD st)), none, some (ow (.lst (txtL gs))), some (fz (.str w))], by simp [hm], .inl rfl, gs, _, rfl, by omega⟩
      · exact ⟨.nx, [some (ow (nums ms2)), some (fz (.lst (txtL ls))), some (fz (stD st)), none, some (ow (.lst (txtL (gs ++ [w])))), some (fz (.str w))], by simp [hm, hz], .inl rfl, gs ++ [w], _, rfl, by simp; omega⟩)
  rw [List.length_map] at q
  have hgz : gs.length ≤ sizeLine := by rw [sizeL]; omega
  refine ⟨gs.mergeSort leT, by rw [List.length_mergeSort]; omega, ms2, ?_⟩
  simp [-sortD_lst, sortD_txt, hgz]
end Wk
end

section
/-! P4: the draws out of a script. -/
namespace Wk
open PySem PySem.Spec PyProof.Rows L2

theorem numsMap (l : List Int) (f : Int → Int) : (l.map fun i => D.int (f i)) = (l.map f).map D.int := by simp
theorem pow_pos' (n : Nat) : (0 : Int) < 2 ^ n := Int.pow_pos (by decide)
/-- the bound of a cell -/
def big7200 : Int := 1 * 2 ^ (7200 : Int).toNat
theorem big_pos : 0 < big7200 := Int.mul_pos (by decide) (pow_pos' _)
theorem shl7200 : shlD (.int 1) (.int 7200) = some (fz (.int big7200)) := by
  rw [shlD_int, if_pos (by decide)]
  rfl
theorem get_nums {cs : List Int} {j : Nat} (h : j < cs.length) : ∃ c, (cs.map D.int)[j]? = some (.int c) := ⟨cs[j], by simp [h]⟩
theorem draws_body (ns : List Int) {m : Nat} (hm : m ≤ 100000) : ∀ cs : List Int, cs ≠ [] → cs.length ≤ sizeLine → ∃ ms x y z ls, forL (gN 6) (bCons (sSet (gN 7) (eApp (g2 modD) [.e (eApp (g1 intD) [.s 6]), .e (eApp (g1 lenD) [.s 3])])) (bCons (sIf (Wk.tAnd (tOf (eApp (g2 geD) [.e (eApp (g2 ixD) [.s 3, .s 7]), .e (eApp (g2 powD) [.e (eC (.int 10)), .e (eC (.int 18))])])) (tOf (eApp (g2 gtD) [.e (eApp (g2 ixD) [.s 4, .s 7]), .e (eC (.int 0))]))) (bCons (sDrop (eMut 5 isLstB muApp [.e (eFz (eApp (g2 modD) [.e (eApp (g1 intD) [.e (eApp (g2 ixD) [.s 4, .s 7])]), .e (eC (.int 1000))]))])) (bCons (sSet (gS 4 (eV 7)) (eFz (eApp (g2 fdivD) [.e (eApp (g2 ixD) [.s 4, .s 7]), .e (eC (.int 1000))]))) (bNil))) (bCons (sSet (gN 8) (eApp (g2 modD) [.e (eApp (g1 intD) [.e (eApp (g2 addD) [.e (eApp (g2 addD) [.e (eApp (g2 mulD) [.e (eApp (g2 ixD) [.s 3, .s 7]), .e (eC (.int 48271))]), .e (eApp (g2 mulD) [.s 6, .e (eC (.int 69621))])]), .e (eC (.int 11))])]), .e (eC (.int 2147483647))])) (bCons (sDrop (eMut 5 isLstB muApp [.e (eFz (eApp (g2 modD) [.e (eApp (g1 intD) [.e (eApp (g2 addD) [.e (eApp (g2 addD) [.e (eApp (g2 mulD) [.s 8, .s 8]), .e (eApp (g2 mulD) [.e (eC (.int 3)), .s 8])]), .s 6])]), .e (eC (.int 1000003))]))])) (bNil)))) (bNil)))
      (intsFrom 0 m) [some (fz (.scr (ns.map D.int))), some (fz (.int m)), none, some (ow (nums cs)), some (ow (nums cs)), some (ow (.lst [])), none, none, none] = some (.nx, [some (fz (.scr (ns.map D.int))), some (fz (.int m)), none, some (ow (nums cs)), some (ow (nums ls)), some (ow (nums ms)), x, y, z]) := by
    intro cs hne hcl
    have hpos := List.length_pos_iff.mpr hne
    generalize hF : forL _ _ _ _ = F
    obtain ⟨env', rfl, ls, ms, x, y, z, rfl, q1, q2⟩ := forL_of hF (fun i env => ∃ ls ms x y z, env = [some (fz (.scr (ns.map D.int))), some (fz (.int m)), none, some (ow (nums cs)), some (ow (nums ls)), some (ow (nums ms)), x, y, z] ∧ ls.length = cs.length ∧ ms.length = i)
      ⟨cs, [], none, none, none, rfl, rfl, rfl⟩ (by
        rintro j d env hd ⟨ls, ms, x, y, z, rfl, q1, q2⟩
        obtain ⟨hj, rfl⟩ := intsFrom_get hd
        have hc0 : (0 : Int) < cs.length := by omega
        have hmod0 : (0 : Int) ≤ (j : Int) % cs.length := Int.emod_nonneg _ (by omega)
        have hmod1 : (j : Int) % cs.length < cs.length := Int.emod_lt_of_pos _ hc0
        obtain ⟨p, hp⟩ := Int.eq_ofNat_of_zero_le hmod0
        have hpc : p < cs.length := by omega
        have hpl : p < ls.length := by omega
        have g1 : atI (cs.map D.int) (p : Int) = some (.int cs[p]) := by rw [atI_nat]; simp [hpc]
        have g2' : atI (ls.map D.int) (p : Int) = some (.int ls[p]) := by rw [atI_nat]; simp [hpl]
        have hz : ms.length < sizeLine := by rw [sizeL]; omega
        have modJ : modD (.int (j : Int)) (.int (cs.length : Int)) = some (fz (.int p)) := by rw [modD_int, if_pos hc0, hp]
        have hix : ixN ls.length (p : Int) = some p := by unfold ixN; rw [if_pos (by omega), if_pos (by omega)]; rfl
        by_cases hb : 1000000000000000000 ≤ cs[p] ∧ 0 < ls[p]
        · refine ⟨.nx, [some (fz (.scr (ns.map D.int))), some (fz (.int m)), none, some (ow (nums cs)), some (ow (nums (ls.set p (ls[p] / 1000)))), some (ow (nums (ms ++ [ls[p] % 1000]))), some (fz (.int j)), some (fz (.int p)), z], ?_, .inl rfl, _, _, _, _, _, rfl, by simp [q1], by simp [q2]⟩
          simp [hpos, hp, g1, g2', hb.1, hb.2, hz, putD, hix, List.map_set]
        · obtain ⟨u1, hu1⟩ : ∃ u, mulD (.int cs[p]) (.int 48271) = some (fz (.int u)) := ⟨_, by simp; rfl⟩
          obtain ⟨u2, hu2⟩ : ∃ u, mulD (.int (j : Int)) (.int 69621) = some (fz (.int u)) := ⟨_, by simp; rfl⟩
          obtain ⟨mx, hmx, m0, m1⟩ : ∃ mx, modD (.int (u1 + u2 + 11)) (.int 2147483647) = some (fz (.int mx)) ∧ 0 ≤ mx ∧ mx < 2147483647 := ⟨_, by simp; rfl, Int.emod_nonneg _ (by decide), Int.emod_lt_of_pos _ (by decide)⟩
          have c1 : -18446744073709551616 < mx := by omega
          have c2 : mx < 18446744073709551616 := by omega
          obtain ⟨u3, hu3⟩ : ∃ u, mulD (.int mx) (.int mx) = some (fz (.int u)) := ⟨_, by simp [c1, c2]; rfl⟩
          obtain ⟨u4, hu4⟩ : ∃ u, mulD (.int 3) (.int mx) = some (fz (.int u)) := ⟨_, by simp; rfl⟩
          obtain ⟨v, hv⟩ : ∃ v, modD (.int (u3 + u4 + (j : Int))) (.int 1000003) = some (fz (.int v)) := ⟨_, by simp; rfl⟩
          refine ⟨.nx, [some (fz (.scr (ns.map D.int))), some (fz (.int m)), none, some (ow (nums cs)), some (ow (nums ls)), some (ow (nums (ms ++ [v]))), some (fz (.int j)), some (fz (.int p)), some (fz (.int mx))], ?_, .inl rfl, _, _, _, _, _, rfl, q1, by simp [q2]⟩
          by_cases hb1 : 1000000000000000000 ≤ cs[p]
          · have hb2 : ¬ 0 < ls[p] := fun h => hb ⟨hb1, h⟩
            simp [-mulD_int, -modD_int, modJ, hpos, hp, g1, g2', hb1, hb2, hz, hu1, hu2, hmx, hu3, hu4, hv]
          · simp [-mulD_int, -modD_int, modJ, hpos, hp, g1, g2', hb1, hz, hu1, hu2, hmx, hu3, hu4, hv])
    exact ⟨ms, x, y, z, ls, rfl⟩
theorem draws_spec (ns : List Int) {m : Nat} (hm : m ≤ 100000) : ∃ ms, s__law_draws [fz (.scr (ns.map D.int)), fz (.int m)] = some (ow (nums ms), []) := by
  simp [-shlD_int, s__law_draws_eq, d__law_draws]
  generalize hG : lcL _ _ _ _ _ _ = G
  have hcut : cutL (ns.map D.int) none (some 63) = (ns.take 63).map D.int := by rw [cutL_to (by decide), List.map_take]; rfl
  rw [hcut] at hG
  obtain ⟨P, hp, hP⟩ : ∃ P, 0 < P ∧ shlD (.int 1) (.int 7200) = some (fz (.int P)) := ⟨_, big_pos, shl7200⟩
  obtain rfl := lcL_mapA (enc := D.int) hG (fun i => .int (i % P)) (fun i _ => by simp [-shlD_int, hP, hp])
  have hz : (min 63 ns.length) ≤ sizeLine := by rw [sizeL]; omega
  have hz2 : (ns.take 63).length ≤ sizeLine := by rw [List.length_take]; exact hz
  rw [numsMap]
  generalize hcs : (ns.take 63).map (fun i => i % P) = cs
  have hcl : cs.length ≤ sizeLine := by rw [← hcs, List.length_map]; exact hz2
  have hcl' : cs.length < sizeLine := by rw [← hcs, List.length_map, List.length_take, sizeL]; omega
  clear hG hcs
  have d1 : (-4611686018427387904 : Int) ≤ m := by omega
  have d2 : (m : Int) < 4611686018427387904 := by omega
  by_cases hc : cs = []
  · subst hc
    obtain ⟨ms, x, y, z, ls, e⟩ := draws_body ns hm [0] (by simp) (by rw [sizeL]; decide)
    have hs0 : 0 < sizeLine := by rw [sizeL]; decide
    simp [nums] at e
    exact ⟨ms.reverse, by simp [hs0, d1, d2, e]⟩
  · obtain ⟨ms, x, y, z, ls, e⟩ := draws_body ns hm cs hc hcl
    have hc' : ¬ (cs.length : Int) = 0 := by
      have := List.length_pos_iff.mpr hc
      omega
    exact ⟨ms.reverse, by simp [hcl, hc, hc', d1, d2, e]⟩
end Wk
end

section
/-! P5: rows. -/
namespace Wk
open PySem PySem.Spec PyProof.Rows L2

/-! ### _law_same of a thing and itself -/
mutual
def szD : D → Bool
  | .tup xs => decide (xs.length ≤ sizeLine) && szL xs
  | .lst xs => decide (xs.length ≤ sizeLine) && szL xs
  | _ => true
def szL : List D → Bool
  | [] => true
  | x :: xs => szD x && szL xs
end
theorem szL_mem : ∀ {ds : List D}, szL ds = true → ∀ d ∈ ds, szD d = true
  | [], _, d, h => by cases h
  | x :: xs, e, d, h => by
    simp [szL] at e
    rcases List.mem_cons.mp h with rfl | h
    · exact e.1
    · exact szL_mem e.2 d h
section
variable {Ts : List String} {xs : List D} {i : Int} {s : List Nat} {b : Bool}
@[simp] theorem isiD_tup : isiD Ts (.tup xs) = some (fz (.bl (Ts.any fun T => subTy "tuple" T))) := id rfl
@[simp] theorem isiD_lst : isiD Ts (.lst xs) = some (fz (.bl (Ts.any fun T => subTy "list" T))) := id rfl
@[simp] theorem isiD_int : isiD Ts (.int i) = some (fz (.bl (Ts.any fun T => subTy "int" T))) := id rfl
@[simp] theorem isiD_str : isiD Ts (.str s) = some (fz (.bl (Ts.any fun T => subTy "str" T))) := id rfl
@[simp] theorem isiD_bl : isiD Ts (.bl b) = some (fz (.bl (Ts.any fun T => subTy "bool" T))) := id rfl
@[simp] theorem isiD_non : isiD Ts .non = some (fz (.bl (Ts.any fun T => subTy "NoneType" T))) := id rfl
end
theorem bls_in (bs : List Bool) (b : Bool) : inOk (.bl b) (bs.map D.bl) = true ∧ memB (.bl b) (bs.map D.bl) = decide (b ∈ bs) := by
  constructor
  · have h1 : dataL (bs.map D.bl) = true ∧ depL (bs.map D.bl) = 0 := by
      induction bs with
      | nil => exact ⟨rfl, rfl⟩
      | cons x bs ih => simp [dataL, dataD, depL, depD, ih]
    unfold inOk
    rw [h1.1, h1.2]
    simp [dataD, depD]
  · induction bs with
    | nil => rfl
    | cons x bs ih =>
      unfold memB at ih ⊢
      simp only [List.map_cons, List.any_cons, deq_bl]
      rw [ih]
      cases x <;> cases b <;> simp
theorem intsFrom_map (n : Nat) : intsFrom 0 n = (List.range n).map fun k : Nat => D.int (k : Int) := by
  unfold intsFrom
  simp
theorem sub_int_str : subTy "int" "tuple" = false ∧ subTy "int" "list" = false := ⟨by decide, by decide⟩
theorem same_spec : ∀ (n : Nat) (d : D), dataD d = true → szD d = true → depD d < n → s__law_same n [fz d, fz d] = some (fz (.bl true), [])
  | 0, d, _, _, h => by omega
  | n + 1, d, h1, h2, h3 => by
    rw [s__law_same_eq]
    have seq : ∀ xs : List D, dataL xs = true → szL xs = true → depL xs < n → ∀ k, k < xs.length → ∃ x, xs[k]? = some x ∧ s__law_same n [fz x, fz x] = some (fz (.bl true), []) := by
      intro xs a1 a2 a3 k hk
      refine ⟨xs[k], List.getElem?_eq_getElem hk, same_spec n _ (dataL_mem a1 _ (List.getElem_mem hk)) (szL_mem a2 _ (List.getElem_mem hk)) ?_⟩
      have := depL_mem _ (List.getElem_mem hk)
      omega
    cases d with
    | tup xs =>
      simp [szD] at h2
      have c2 : (xs.length : Int) < 4611686018427387904 := by have := h2.1; rw [sizeL] at this; omega
      have c1 : (-4611686018427387904 : Int) ≤ xs.length := by omega
      have step := seq xs (by simpa [dataD] using h1) h2.2 (by simp [depD] at h3; omega)
      simp [d__law_same, subTy, c1, c2]
      generalize hG : lcL _ _ _ _ _ _ = G
      rw [intsFrom_map] at hG
      obtain rfl := lcL_mapA hG (fun _ => .bl true) (fun k hk => by
        obtain ⟨x, e1, e2⟩ := step k (by simpa using hk)
        simp [atI_nat, e1, e2])
      have e : (List.range xs.length).map (fun _ => D.bl true) = (List.replicate xs.length true).map D.bl := by
        rw [List.map_const', List.length_range, List.map_replicate]
      rw [e]
      obtain ⟨b1, b2⟩ := bls_in (List.replicate xs.length true) false
      simp [h2.1, b1, b2, -List.map_replicate]
    | lst xs =>
      simp [szD] at h2
      have c2 : (xs.length : Int) < 4611686018427387904 := by have := h2.1; rw [sizeL] at this; omega
      have c1 : (-4611686018427387904 : Int) ≤ xs.length := by omega
      have step := seq xs (by simpa [dataD] using h1) h2.2 (by simp [depD] at h3; omega)
      simp [d__law_same, subTy, c1, c2]
      generalize hG : lcL _ _ _ _ _ _ = G
      rw [intsFrom_map] at hG
      obtain rfl := lcL_mapA hG (fun _ => .bl true) (fun k hk => by
        obtain ⟨x, e1, e2⟩ := step k (by simpa using hk)
        simp [atI_nat, e1, e2])
      have e : (List.range xs.length).map (fun _ => D.bl true) = (List.replicate xs.length true).map D.bl := by
        rw [List.map_const', List.length_range, List.map_replicate]
      rw [e]
      obtain ⟨b1, b2⟩ := bls_in (List.replicate xs.length true) false
      simp [h2.1, b1, b2, -List.map_replicate]
    | int i => simp [d__law_same, subTy]
    | str s => simp [d__law_same, subTy]
    | bl b => simp [d__law_same, subTy]
    | non => simp [d__law_same, subTy, okEq, scalD, deq]
    | scr xs => simp [dataD] at h1
    | dct ks vs => simp [dataD] at h1
    | obj c ns vs => simp [dataD] at h1
theorem szL_txt (l : List (List Nat)) : szL (txtL l) = true := by
  induction l with
  | nil => rfl
  | cons x l ih => simp [szL, szD, ih]
theorem same_txt {l : List (List Nat)} (h : l.length ≤ sizeLine) : s__law_same 8 [fz (.tup (txtL l)), fz (.tup (txtL l))] = some (fz (.bl true), []) :=
  same_spec 8 _ (by simp [dataD, dataL_strs]) (by simp [szD, szL_txt, h]) (by simp [depD, depL_strs])
end Wk
end

section
/-! P6: rows of stores. -/
namespace Wk
open PySem PySem.Spec PyProof.Rows L2

abbrev St := List (List Nat × Int)
/-- what a pair is ranked by -/
abbrev rkD (p : List Nat × Int) : D := .tup [.int (-p.2), .str p.1]
def leP (p q : List Nat × Int) : Bool := leB (rkD p) (rkD q)
def ordP (st : St) : St := st.mergeSort leP
theorem rank_spec (p : List Nat × Int) : s_rank_of [fz (prD p)] = some (fz (rkD p), []) := by
  simp [s_rank_of_eq, d_rank_of]
theorem keys_spec : ∀ st : St, keysM s_rank_of (prL st) = some (st.map rkD)
  | [] => rfl
  | p :: st => by
    show (s_rank_of [fz (prD p)]).bind _ = _
    rw [rank_spec]
    simp only [Option.bind_some]
    rw [keys_spec st]
    rfl
theorem rk_data (st : St) : dataL (st.map rkD) = true ∧ depL (st.map rkD) ≤ 1 := by
  induction st with
  | nil => exact ⟨rfl, by simp [depL]⟩
  | cons p st ih =>
    refine ⟨by simp [dataL, dataD, ih.1], ?_⟩
    have := ih.2
    simp [depL, depD] at this ⊢
    omega
theorem rk_ok (st : St) (h : st.length ≤ sizeLine) : sortOk (st.map rkD) = true := by
  obtain ⟨h1, h2⟩ := rk_data st
  unfold sortOk
  rw [h1]
  have h3 : ((st.map rkD).all fun a => (st.map rkD).all fun b => alikeD a b) = true := by
    rw [List.all_eq_true]
    intro a ha
    rw [List.all_eq_true]
    intro b hb
    obtain ⟨x, _, rfl⟩ := List.mem_map.mp ha
    obtain ⟨y, _, rfl⟩ := List.mem_map.mp hb
    simp [alikeD, py, pyL, PySem.W.alike, PySem.W.alikeAll]
  have h4 : (st.map rkD).all isTupB = true := by
    rw [List.all_eq_true]
    intro a ha
    obtain ⟨x, _, rfl⟩ := List.mem_map.mp ha
    rfl
  rw [h3, h4]
  simp
  exact ⟨by omega, h⟩
theorem zip_map_same {α β γ : Type} (f : α → β) (g : α → γ) : ∀ l : List α, (l.map f).zip (l.map g) = l.map fun a => (f a, g a)
  | [] => rfl
  | a :: l => by simp [zip_map_same f g l]
theorem sortK_spec (st : St) (h : st.length ≤ sizeLine) : sortKD s_rank_of (.lst (prL st)) = some (ow (.lst (prL (ordP st)))) := by
  rw [sortKD_lst, keys_spec]
  simp only [Option.bind_some]
  rw [if_pos (rk_ok st h), zip_map_same]
  have e := PySem.W.sort_maps (fun p : List Nat × Int => (prD p, rkD p)) (l := st) (r := leP) (s := fun p q => leB p.2 q.2) fun a _ b _ => rfl
  rw [← e, List.map_map]
  rfl
theorem ordP_len (st : St) : (ordP st).length = st.length := List.length_mergeSort st
theorem best_spec (st : St) (k : Nat) (h : st.length ≤ sizeLine) : s_best_of [fz (.lst (prL st)), fz (.int k)] = some (fz (.tup (txtL (((ordP st).take k).map (·.1)))), []) := by
  simp [-sortKD_lst, s_best_of_eq, d_best_of, sortK_spec st h]
  generalize hG : lcL _ _ _ _ _ _ = G
  rw [← List.map_take] at hG
  obtain rfl := lcL_mapA (enc := prD) hG (fun p => .str p.1) (fun p _ => by simp)
  have hz : min k (ordP st).length ≤ sizeLine := by rw [ordP_len]; omega
  simp [hz]
  rfl
theorem lbest_spec (st : St) (k : Nat) (h : st.length ≤ sizeLine) : s__law_best [fz (.lst (prL st)), fz (.int k)] = some (fz (.tup (txtL (((ordP st).take k).map (·.1)))), []) := by
  simp [-sortD_lst, s__law_best_eq, d__law_best]
  generalize hG : lcL _ _ _ _ _ _ = G
  obtain rfl := lcL_mapA (enc := prD) hG rkD (fun p _ => by simp)
  have es : sortD (.lst (st.map rkD)) = some (ow (.lst ((ordP st).map rkD))) := by
    rw [sortD_lst, if_pos (rk_ok st h)]
    rw [← PySem.W.sort_maps rkD (l := st) (r := leP) (s := leB) fun a _ b _ => rfl]
    rfl
  simp [-sortD_lst, h, es]
  generalize hG2 : lcL _ _ _ _ _ _ = G2
  rw [← List.map_take] at hG2
  obtain rfl := lcL_mapA (enc := rkD) hG2 (fun p => .str p.1) (fun p _ => by simp)
  have hz : min k (ordP st).length ≤ sizeLine := by rw [ordP_len]; omega
  simp [hz]
  rfl
/-- the pairs that begin so -/
abbrev begP (st : St) (t : List Nat) : St := st.filter fun p => t.isPrefixOf p.1
theorem pre_take (t s : List Nat) : (s.take t.length == t) = t.isPrefixOf s := by
  rw [Bool.eq_iff_iff, beq_iff_eq, List.isPrefixOf_iff_prefix, List.prefix_iff_eq_take]
  exact eq_comm
theorem begin_spec (st : St) (t : List Nat) (h : st.length ≤ sizeLine) : s_beginning_with [fz (stD st), fz (.str t)] = some (ow (.lst (prL (begP st t))), []) := by
  simp [s_beginning_with_eq, d_beginning_with]
  generalize hG : lcL _ _ _ _ _ _ = G
  obtain rfl := lcL_filA (enc := prD) hG (fun p => t.isPrefixOf p.1) prD (fun p _ => by
    cases e : t.isPrefixOf p.1 <;> simp [e])
  have hz : (begP st t).length ≤ sizeLine := Nat.le_trans (List.length_filter_le _ _) h
  simp [hz]
theorem behind_spec (st : St) (t : List Nat) (h : st.length ≤ sizeLine) : s__law_behind [fz (stD st), fz (.str t)] = some (ow (.lst (prL (begP st t))), []) := by
  simp [s__law_behind_eq, d__law_behind]
  generalize hG : lcL _ _ _ _ _ _ = G
  obtain rfl := lcL_filA (enc := prD) hG (fun p => t.isPrefixOf p.1) prD (fun p _ => by
    have e0 := pre_take t p.1
    cases e : t.isPrefixOf p.1 <;> rw [e] at e0 <;> simp [e0])
  have hz : (begP st t).length ≤ sizeLine := Nat.le_trans (List.length_filter_le _ _) h
  simp [hz]
/-- the row of a text -/
def rowW (st : St) (t : List Nat) (k : Nat) : List (List Nat) := ((ordP (begP st t)).take k).map (·.1)
theorem row_spec (st : St) (t : List Nat) (k : Nat) (h : st.length ≤ sizeLine) : s_row [fz (stD st), fz (.str t), fz (.int k)] = some (fz (.tup (txtL (rowW st t k))), []) := by
  have hz : (begP st t).length ≤ sizeLine := Nat.le_trans (List.length_filter_le _ _) h
  simp [s_row_eq, d_row, begin_spec st t h, best_spec _ k hz, rowW]
theorem lrow_spec (st : St) (t : List Nat) (k : Nat) (h : st.length ≤ sizeLine) : s__law_row [fz (stD st), fz (.str t), fz (.int k)] = some (fz (.tup (txtL (rowW st t k))), []) := by
  have hz : (begP st t).length ≤ sizeLine := Nat.le_trans (List.length_filter_le _ _) h
  simp [s__law_row_eq, d__law_row, behind_spec st t h, lbest_spec _ k hz, rowW]
theorem rowW_len (st : St) (t : List Nat) (k : Nat) : (rowW st t k).length ≤ st.length := by
  unfold rowW
  rw [List.length_map, List.length_take, ordP_len]
  have : (begP st t).length ≤ st.length := List.length_filter_le _ _
  omega

/-! ### words taken out -/
theorem filt_data {l : St} {p : List Nat × Int → Bool} (h : l.length ≤ sizeLine) : (l.filter p).length ≤ sizeLine := Nat.le_trans (List.length_filter_le _ _) h
theorem lwithout_spec (st : St) (ws : List (List Nat)) (h : st.length ≤ sizeLine) : s__law_without [fz (stD st), fz (.tup (txtL ws))] = some (fz (stD (st.filter fun p => !decide (p.1 ∈ ws))), []) := by
  simp [s__law_without_eq, d__law_without]
  generalize hG : lcL _ _ _ _ _ _ = G
  obtain rfl := lcL_filA (enc := prD) hG (fun p => !decide (p.1 ∈ ws)) prD (fun p _ => by
    by_cases e : p.1 ∈ ws <;> simp [e])
  have hz : (st.filter fun p => !decide (p.1 ∈ ws)).length ≤ sizeLine := filt_data h
  simp [hz]
/-- a dict with texts for keys -/
theorem dget_txt (w : List Nat) : ∀ {kk : List (List Nat)} {vs : List D}, vs.length = kk.length → (dget (txtL kk) vs (.str w)).isSome = decide (w ∈ kk)
  | [], [], _ => rfl
  | k :: kk, v :: vs, h => by
    show (if deq (.str k) (.str w) = true then some v else dget (txtL kk) vs (.str w)).isSome = _
    by_cases e : k = w
    · subst e; simp
    · have e' : ¬ w = k := fun z => e z.symm
      have ih := dget_txt w (kk := kk) (vs := vs) (by simpa using h)
      simp [e, e', ih]
theorem any_txt (w : List Nat) (kk : List (List Nat)) : ((txtL kk).any fun k => deq k (.str w)) = decide (w ∈ kk) := memB_strs w kk
theorem dput_txt (kk : List (List Nat)) (vs : List D) (w : List Nat) (y : D) (h : vs.length = kk.length) : ∃ kk' vs', dput (txtL kk) vs (.str w) y = (txtL kk', vs') ∧ vs'.length = kk'.length ∧ kk'.length ≤ kk.length + 1 ∧ ∀ x, x ∈ kk' ↔ x ∈ kk ∨ x = w := by
  unfold dput
  rw [any_txt]
  by_cases e : w ∈ kk
  · rw [if_pos (by simpa using e)]
    refine ⟨kk, _, rfl, by simp [h], by omega, fun x => ⟨.inl, fun z => z.elim id fun z => z ▸ e⟩⟩
  · rw [if_neg (by simpa using e)]
    refine ⟨kk ++ [w], vs ++ [y], by simp, by simp [h], by simp, fun x => by simp⟩
theorem dcL_txt {g : Val → En → Option En} {t : XT} {fk fv : XE} {own : List Nat} {env : En} : ∀ {ws : List (List Nat)} {kk : List (List Nat)} {vs : List D}, vs.length = kk.length → kk.length + ws.length ≤ sizeLine →
    (∀ w ∈ ws, ∃ e1 e2 e3 e4 o o' y, g (fz (.str w)) env = some e1 ∧ t e1 = some (true, e2) ∧ fk e2 = some (⟨o, .str w⟩, e3) ∧ fv e3 = some (⟨o', y⟩, e4) ∧ wipeE e4 own = env) →
    ∃ kk' vs', dcL g t fk fv own (txtL ws) env (txtL kk) vs = some ((txtL kk', vs'), env) ∧ vs'.length = kk'.length ∧ ∀ x, x ∈ kk' ↔ x ∈ kk ∨ x ∈ ws
  | [], kk, vs, h, _, _ => ⟨kk, vs, rfl, h, fun x => by simp⟩
  | w :: ws, kk, vs, h, hz, hs => by
    obtain ⟨e1, e2, e3, e4, o, o', y, h1, h2, h3, h4, h5⟩ := hs w List.mem_cons_self
    obtain ⟨kk1, vs1, p1, p2, p3, p4⟩ := dput_txt kk vs w y h
    have hl : kk1.length + ws.length ≤ sizeLine := by simp at hz; omega
    obtain ⟨kk', vs', q1, q2, q3⟩ := dcL_txt (g := g) (t := t) (fk := fk) (fv := fv) (own := own) (env := env) (ws := ws) p2 hl fun w' hw => hs w' (List.mem_cons_of_mem _ hw)
    refine ⟨kk', vs', ?_, q2, fun x => by rw [q3, p4]; simp [or_assoc]⟩
    have hk : (txtL kk).length < sizeLine := by simp at hz ⊢; omega
    show (g (fz (.str w)) env).bind _ = _
    rw [h1]
    simp only [Option.bind_some]
    rw [h2]
    simp only [Option.bind_some, if_true]
    rw [h3]
    simp only [Option.bind_some]
    rw [h4]
    simp only [Option.bind_some]
    rw [if_pos ⟨rfl, hk⟩, h5, p1]
    exact q1
@[simp] theorem notInD_dct {w : List Nat} {ks vs : List D} : notInD (.str w) (.dct ks vs) = some (fz (.bl (!(dget ks vs (.str w)).isSome))) := by
  simp [notInD, inB, keyD]
@[simp] theorem inD_dct {w : List Nat} {ks vs : List D} : inD (.str w) (.dct ks vs) = some (fz (.bl (dget ks vs (.str w)).isSome)) := by
  simp [inD, inB, keyD]
theorem without_spec (st : St) (ws : List (List Nat)) (h : st.length ≤ sizeLine) (hw : ws.length ≤ sizeLine) : s_store_without [fz (stD st), fz (.tup (txtL ws))] = some (fz (stD (st.filter fun p => !decide (p.1 ∈ ws))), []) := by
  simp [s_store_without_eq, d_store_without]
  generalize hG : dcL _ _ _ _ _ _ _ _ _ = G
  obtain ⟨kk, vs, e, h1, h2⟩ := dcL_txt (g := gN 2) (t := Wk.tYes) (fk := eV 2) (fv := eC (.bl true)) (own := [2]) (env := [some (fz (stD st)), some (fz (.tup (txtL ws))), none, none, none]) (ws := ws) (kk := []) (vs := []) rfl (by simpa using hw) (fun w _ => ⟨[some (fz (stD st)), some (fz (.tup (txtL ws))), some (fz (.str w)), none, none], [some (fz (stD st)), some (fz (.tup (txtL ws))), some (fz (.str w)), none, none], [some (fz (stD st)), some (fz (.tup (txtL ws))), some (fz (.str w)), none, none], [some (fz (stD st)), some (fz (.tup (txtL ws))), some (fz (.str w)), none, none], false, false, .bl true, by simp, by simp, by simp, by simp, by simp⟩)
  have e0 : G = some ((txtL kk, vs), [some (fz (stD st)), some (fz (.tup (txtL ws))), none, none, none]) := hG.symm.trans e
  subst e0
  simp
  generalize hG2 : lcL _ _ _ _ _ _ = G2
  obtain rfl := lcL_filA (enc := prD) hG2 (fun p => !decide (p.1 ∈ ws)) prD (fun p _ => by
    have e1 := dget_txt p.1 h1
    have e2 := h2 p.1
    by_cases e : p.1 ∈ ws
    · have : p.1 ∈ kk := e2.mpr (.inr e)
      simp [e, e1, this]
    · have : p.1 ∉ kk := fun z => e ((e2.mp z).resolve_left (by simp))
      simp [e, e1, this])
  have hz : (st.filter fun p => !decide (p.1 ∈ ws)).length ≤ sizeLine := filt_data h
  simp [hz]
theorem sifted_spec (us ws : List (List Nat)) (h : us.length ≤ sizeLine) : s_sifted [fz (.tup (txtL us)), fz (.tup (txtL ws))] = some (fz (.tup (txtL (us.filter fun w => !decide (w ∈ ws)))), []) := by
  simp [s_sifted_eq, d_sifted]
  generalize hG : lcL _ _ _ _ _ _ = G
  obtain rfl := lcL_filA (enc := D.str) hG (fun w => !decide (w ∈ ws)) D.str (fun w _ => by
    by_cases e : w ∈ ws <;> simp [e])
  have hz : (us.filter fun w => !decide (w ∈ ws)).length ≤ sizeLine := Nat.le_trans (List.length_filter_le _ _) h
  simp [hz]
theorem clean_row_spec (st : St) (ws : List (List Nat)) (t : List Nat) (k : Nat) (h : st.length ≤ sizeLine) (hw : ws.length ≤ sizeLine) :
    s_clean_row [fz (stD st), fz (.tup (txtL ws)), fz (.str t), fz (.int k)] = some (fz (.tup (txtL (rowW (st.filter fun p => !decide (p.1 ∈ ws)) t k))), []) := by
  simp [s_clean_row_eq, d_clean_row, without_spec st ws h hw, row_spec _ t k (filt_data h)]
theorem sifted_row_spec (st : St) (ws : List (List Nat)) (t : List Nat) (k : Nat) (h : st.length ≤ sizeLine) :
    s_sifted_row [fz (stD st), fz (.tup (txtL ws)), fz (.str t), fz (.int k)] = some (fz (.tup (txtL ((rowW st t k).filter fun w => !decide (w ∈ ws)))), []) := by
  have hz := Nat.le_trans (rowW_len st t k) h
  simp [s_sifted_row_eq, d_sifted_row, row_spec st t k h, sifted_spec _ ws hz]
end Wk
end

section
/-! P7: the order of pairs, and what filters keep. -/
namespace Wk
open PySem PySem.Spec PyProof.Rows L2
theorem leP_total : PySem.W.TotalLe leP :=
  PySem.W.sortLe_total (listOrd itemOrd) false fun p : List Nat × Int => PySem.W.keyToks (py (rkD p))
theorem ordP_filter (p : List Nat × Int → Bool) (st : St) : ordP (st.filter p) = (ordP st).filter p := by
  refine (PySem.W.sort_unique leP_total ?_ fun c => ?_).symm
  · exact (PySem.W.sort_pairwise leP_total st).sublist List.filter_sublist
  · have e := PySem.W.sort_stable leP_total st c
    rw [List.filter_filter, List.filter_filter]
    have h : ∀ l : St, (l.filter fun a => PySem.W.sameRank leP c a && p a) = (l.filter (PySem.W.sameRank leP c)).filter p := fun l => by
      rw [List.filter_filter]
      congr 1
      funext a
      exact Bool.and_comm _ _
    rw [h, h]
    exact congrArg (List.filter p) e
theorem filt_take {α : Type} (p : α → Bool) : ∀ (l : List α) (k : Nat), ((l.take k).filter p) <+: (l.filter p).take k
  | [], k => by simp
  | a :: l, 0 => by simp
  | a :: l, k + 1 => by
    rw [List.take_succ_cons]
    by_cases h : p a = true
    · rw [List.filter_cons_of_pos h, List.filter_cons_of_pos h, List.take_succ_cons]
      exact (List.prefix_cons_inj a).mpr (filt_take p l k)
    · rw [List.filter_cons_of_neg h, List.filter_cons_of_neg h]
      refine (filt_take p l k).trans ?_
      exact List.take_prefix_take_left (Nat.le_succ k)
/-- a row sifted is where the clean row begins -/
theorem rowW_sift (st : St) (ws : List (List Nat)) (t : List Nat) (k : Nat) : ((rowW st t k).filter fun w => !decide (w ∈ ws)) <+: rowW (st.filter fun p => !decide (p.1 ∈ ws)) t k := by
  unfold rowW begP
  rw [List.filter_map]
  have e : ((fun w => !decide (w ∈ ws)) ∘ fun p : List Nat × Int => p.1) = fun p => !decide (p.1 ∈ ws) := rfl
  rw [e]
  have e2 : ((st.filter fun p => !decide (p.1 ∈ ws)).filter fun p => t.isPrefixOf p.1) = ((st.filter fun p => t.isPrefixOf p.1).filter fun p => !decide (p.1 ∈ ws)) := by
    rw [List.filter_filter, List.filter_filter]
    congr 1
    funext a
    exact Bool.and_comm _ _
  rw [e2, ordP_filter (fun p => !decide (p.1 ∈ ws))]
  exact (filt_take _ _ k).map _
theorem pre_cut {α : Type} {a b : List α} (h : a <+: b) : b.take a.length = a := (List.prefix_iff_eq_take.mp h).symm
end Wk
end

section
/-! P8: tables whose keys are texts. -/
namespace Wk
open PySem PySem.Spec PyProof.Rows
abbrev Tab := List (List Nat × D)
abbrev tkD (t : Tab) : List D := t.map fun p => .str p.1
abbrev tvD (t : Tab) : List D := t.map (·.2)
def tget (t : Tab) (w : List Nat) : Option D := (t.find? fun p => p.1 == w).map (·.2)
def tput (t : Tab) (w : List Nat) (y : D) : Tab := if (t.any fun p => p.1 == w) = true then t.map (fun p => if (p.1 == w) = true then (p.1, y) else p) else t ++ [(w, y)]
theorem dget_tab (w : List Nat) : ∀ t : Tab, dget (tkD t) (tvD t) (.str w) = tget t w
  | [] => rfl
  | p :: t => by
    show (if deq (.str p.1) (.str w) = true then some p.2 else dget (tkD t) (tvD t) (.str w)) = _
    rw [dget_tab w t, deq_str]
    unfold tget
    rw [List.find?_cons]
    by_cases e : (p.1 == w) = true
    · rw [if_pos e, e]; rfl
    · rw [if_neg e]
      simp only [Bool.not_eq_true] at e
      rw [e]
theorem dput_tab (t : Tab) (w : List Nat) (y : D) : dput (tkD t) (tvD t) (.str w) y = (tkD (tput t w y), tvD (tput t w y)) := by
  unfold dput tput
  have h1 : ((tkD t).any fun k => deq k (.str w)) = t.any fun p => p.1 == w := by
    rw [List.any_map]
    congr 1
  rw [h1]
  by_cases e : (t.any fun p => p.1 == w) = true
  · rw [if_pos e, if_pos e]
    have h2 : List.zipWith (fun k v => if deq k (.str w) = true then y else v) (tkD t) (tvD t) = tvD (t.map fun p => if (p.1 == w) = true then (p.1, y) else p) := by
      clear e h1
      induction t with
      | nil => rfl
      | cons p t ih =>
        show (if deq (.str p.1) (.str w) = true then y else p.2) :: List.zipWith _ (tkD t) (tvD t) = _
        rw [ih, deq_str]
        by_cases e : (p.1 == w) = true
        · have e' : p.1 = w := by simpa using e
          rw [if_pos e]; simp [e']
        · have e' : ¬ p.1 = w := by simpa using e
          rw [if_neg e]; simp [e']
    have h3 : tkD (t.map fun p => if (p.1 == w) = true then (p.1, y) else p) = tkD t := by
      unfold tkD
      rw [List.map_map]
      apply List.map_congr_left
      intro p _
      simp only [Function.comp]
      split <;> rfl
    rw [h2, h3]
  · rw [if_neg e, if_neg e]
    simp
@[simp] theorem dget_tab' {w : List Nat} {t : Tab} : ixD (.dct (tkD t) (tvD t)) (.str w) = (tget t w).map fz := by
  show (if (keyD (.str w)).isSome = true then (dget (tkD t) (tvD t) (.str w)).map fz else none) = _
  rw [dget_tab]; rfl
@[simp] theorem put_tab {w : List Nat} {t : Tab} {y : D} : putD (.dct (tkD t) (tvD t)) (.str w) y = if t.length < sizeLine then some (.dct (tkD (tput t w y)) (tvD (tput t w y))) else none := by
  show (if (keyD (.str w)).isSome = true ∧ (tkD t).length < sizeLine then some (D.dct (dput (tkD t) (tvD t) (.str w) y).1 (dput (tkD t) (tvD t) (.str w) y).2) else none) = _
  rw [dput_tab, List.length_map]
  simp [keyD]
theorem tput_len (t : Tab) (w : List Nat) (y : D) : (tput t w y).length ≤ t.length + 1 := by
  unfold tput
  split
  · rw [List.length_map]; omega
  · simp
theorem tput_all {t : Tab} {w : List Nat} {y : D} {R : List Nat × D → Prop} (h : ∀ p ∈ t, R p) (hy : R (w, y)) : ∀ p ∈ tput t w y, R p := by
  intro p hp
  unfold tput at hp
  split at hp
  · obtain ⟨q, hq, rfl⟩ := List.mem_map.mp hp
    split
    · rename_i e
      have : q.1 = w := by simpa using e
      rw [this]; exact hy
    · exact h q hq
  · rcases List.mem_append.mp hp with hp | hp
    · exact h p hp
    · rw [List.mem_singleton] at hp; subst hp; exact hy
theorem tget_mem {t : Tab} {w : List Nat} (h : w ∈ t.map (·.1)) : ∃ y, tget t w = some y ∧ (w, y) ∈ t := by
  obtain ⟨p, hp, rfl⟩ := List.mem_map.mp h
  unfold tget
  cases e : t.find? fun q => q.1 == p.1 with
  | none =>
    have := List.find?_eq_none.mp e p hp
    simp at this
  | some q =>
    have h1 := List.mem_of_find?_eq_some e
    have h2 : q.1 = p.1 := by simpa using List.find?_some e
    exact ⟨q.2, rfl, by rw [← h2]; exact h1⟩
theorem sortD_tab {t : Tab} (h : t.length ≤ sizeLine) : sortD (.dct (tkD t) (tvD t)) = some (ow (.lst (txtL ((t.map (·.1)).mergeSort leT)))) := by
  have e : tkD t = txtL (t.map (·.1)) := by simp [tkD, Function.comp_def]
  have := sortD_txt (t.map (·.1)) (by rw [List.length_map]; exact h)
  rw [e]
  exact this
end Wk
end

section
/-! P9: nodes, big stores. -/
namespace Wk
open PySem PySem.Spec PyProof.Rows L2
/-- all beginnings -/
def begL (w : List Nat) : List (List Nat) := (List.range (w.length + 1)).map fun k => w.take k
theorem begL_len (w : List Nat) : (begL w).length = w.length + 1 := by simp [begL]
theorem begun_spec (w : List Nat) (h : w.length < 16000000) : s__law_begun [fz (.str w)] = some (ow (.lst (txtL (begL w))), []) := by
  have c1 : (-4611686018427387904 : Int) ≤ w.length + 1 := by omega
  have c2 : (w.length : Int) + 1 < 4611686018427387904 := by omega
  simp [s__law_begun_eq, d__law_begun, c1, c2]
  generalize hG : lcL _ _ _ _ _ _ = G
  rw [intsFrom_map] at hG
  obtain rfl := lcL_mapA hG (fun k => .str (w.take k)) (fun k _ => by simp)
  have hz : w.length + 1 ≤ sizeLine := by rw [sizeL]; omega
  simp [hz, begL]
/-- keys as they come -/
def addK (ks : List (List Nat)) (w : List Nat) : List (List Nat) := if w ∈ ks then ks else ks ++ [w]
def keysOf (l : List (List Nat)) : List (List Nat) := l.foldl addK []
theorem tput_keys (t : Tab) (w : List Nat) (y : D) : (tput t w y).map (·.1) = addK (t.map (·.1)) w := by
  unfold tput addK
  have h : ((t.any fun p => p.1 == w) = true) ↔ (w ∈ t.map (·.1)) := by simp
  by_cases e : w ∈ t.map (·.1)
  · rw [if_pos (h.mpr e), if_pos e, List.map_map]
    apply List.map_congr_left
    intro p _
    simp only [Function.comp]
    split <;> rfl
  · rw [if_neg (fun z => e (h.mp z)), if_neg e]
    simp
theorem addK_len (ks : List (List Nat)) (w : List Nat) : (addK ks w).length ≤ ks.length + 1 := by
  unfold addK
  split <;> simp
theorem foldK_len (l ks : List (List Nat)) : (l.foldl addK ks).length ≤ ks.length + l.length := by
  induction l generalizing ks with
  | nil => simp
  | cons w l ih =>
    have h1 := ih (addK ks w)
    have h2 := addK_len ks w
    simp only [List.foldl_cons, List.length_cons]
    omega
theorem addK_mem {ks : List (List Nat)} {w x : List Nat} : x ∈ addK ks w ↔ x ∈ ks ∨ x = w := by
  unfold addK
  split
  · rename_i h
    exact ⟨.inl, fun z => z.elim id fun e => e ▸ h⟩
  · simp
theorem foldK_mem {l ks : List (List Nat)} {x : List Nat} : x ∈ l.foldl addK ks ↔ x ∈ ks ∨ x ∈ l := by
  induction l generalizing ks with
  | nil => simp
  | cons w l ih => rw [List.foldl_cons, ih, addK_mem, List.mem_cons, or_assoc]
theorem addK_nd {ks : List (List Nat)} {w : List Nat} (h : ks.Nodup) : (addK ks w).Nodup := by
  unfold addK
  split
  · exact h
  · rename_i hw
    rw [List.nodup_append]
    exact ⟨h, by simp, fun a ha b hb e => hw (by rw [List.mem_singleton] at hb; rw [← hb, ← e]; exact ha)⟩
theorem foldK_nd {l ks : List (List Nat)} (h : ks.Nodup) : (l.foldl addK ks).Nodup := by
  induction l generalizing ks with
  | nil => exact h
  | cons w l ih => exact ih (addK_nd h)
theorem tput_foldK (l : List (List Nat)) (f : List Nat → D) (t : Tab) : (l.foldl (fun t w => tput t w (f w)) t).map (·.1) = l.foldl addK (t.map (·.1)) := by
  induction l generalizing t with
  | nil => rfl
  | cons w l ih => rw [List.foldl_cons, ih, tput_keys]; rfl
def nodesL (ws : List (List Nat)) : List (List Nat) := (keysOf (ws.flatMap begL)).mergeSort leT
theorem flat_beg_len (ws : List (List Nat)) : (ws.flatMap begL).length = (ws.map fun w => w.length + 1).sum := by
  induction ws with
  | nil => rfl
  | cons w ws ih => rw [List.flatMap_cons, List.length_append, ih, begL_len]; rfl
theorem nodes_aux (v : D) (ws : List (List Nat)) (hv : itemsOf v = some (txtL ws)) (h : (ws.map fun w => w.length + 1).sum < 16000000) : s__law_nodes [fz v] = some (ow (.lst (txtL (nodesL ws))), []) := by
  simp [s__law_nodes_eq, d__law_nodes, hv]
  generalize hF : forL _ _ _ _ = F
  let step : Tab → List Nat → Tab := fun t w => (begL w).foldl (fun t x => tput t x (.bl true)) t
  have key : ∀ (l : List (List Nat)), (l.foldl step []).map (·.1) = keysOf (l.flatMap begL) := by
    intro l
    have : ∀ (l : List (List Nat)) (t : Tab), (l.foldl step t).map (·.1) = (l.flatMap begL).foldl addK (t.map (·.1)) := by
      intro l
      induction l with
      | nil => intro t; rfl
      | cons w l ih =>
        intro t
        rw [List.foldl_cons, ih, List.flatMap_cons, List.foldl_append]
        congr 1
        exact tput_foldK (begL w) (fun _ => .bl true) t
    exact this l []
  have len : ∀ (l : List (List Nat)), (l.foldl step []).length ≤ (l.map fun w => w.length + 1).sum := by
    intro l
    have e := congrArg List.length (key l)
    rw [List.length_map] at e
    rw [e, ← flat_beg_len]
    have := foldK_len (l.flatMap begL) []
    rwa [List.length_nil, Nat.zero_add] at this
  have mono : ∀ {l : List (List Nat)}, l <+: ws → (l.map fun w => w.length + 1).sum < 16000000 := by
    rintro l ⟨r, rfl⟩
    rw [List.map_append, List.sum_append] at h
    omega
  obtain ⟨e, rfl, x, y, rfl⟩ := forFP hF (fun t env => ∃ x y, env = [some (fz v), some (ow (.dct (tkD t) (tvD t))), x, y]) step [] ⟨_, _, rfl⟩ (by
    rintro pre w hp env ⟨x, y, rfl⟩
    have hb := mono hp
    have hl := len pre
    rw [List.map_append, List.sum_append] at hb
    simp at hb
    generalize pre.foldl step [] = t at hl
    simp [begun_spec w (by omega)]
    generalize hF2 : forL _ _ _ _ = F2
    obtain ⟨e, rfl, y, rfl⟩ := forFP hF2 (fun t env => ∃ y, env = [some (fz v), some (ow (.dct (tkD t) (tvD t))), some (fz (.str w)), y]) (fun t x => tput t x (.bl true)) t ⟨_, rfl⟩ (by
      rintro pre2 u hp2 env ⟨y, rfl⟩
      have e1 : (pre2.foldl (fun t x => tput t x (.bl true)) t).length ≤ t.length + pre2.length := by
        have e := congrArg List.length (tput_foldK pre2 (fun _ => .bl true) t)
        rw [List.length_map] at e
        rw [e]
        have := foldK_len pre2 (t.map (·.1))
        rwa [List.length_map] at this
      have e2 : pre2.length < w.length + 1 := by
        have := hp2.length_le
        rw [begL_len] at this
        simp at this
        omega
      have e3 : (pre2.foldl (fun t x => tput t x (.bl true)) t).length < sizeLine := by rw [sizeL]; omega
      generalize pre2.foldl (fun t x => tput t x (.bl true)) t = t2 at e3
      simp [e3])
    simp
    exact ⟨rfl, rfl⟩)
  have hz : (ws.foldl step []).length ≤ sizeLine := by rw [sizeL]; have := len ws; omega
  have e1 := sortD_tab hz
  rw [key] at e1
  simp [-sortD_dct, e1]
  rfl
theorem nodes_tup (ws : List (List Nat)) (h : (ws.map fun w => w.length + 1).sum < 16000000) : s__law_nodes [fz (.tup (txtL ws))] = some (ow (.lst (txtL (nodesL ws))), []) := nodes_aux _ _ rfl h
theorem nodes_lst (ws : List (List Nat)) (h : (ws.map fun w => w.length + 1).sum < 16000000) : s__law_nodes [fz (.lst (txtL ws))] = some (ow (.lst (txtL (nodesL ws))), []) := nodes_aux _ _ rfl h
theorem nodesL_mem {ws : List (List Nat)} {x : List Nat} : x ∈ nodesL ws ↔ ∃ w ∈ ws, x <+: w := by
  unfold nodesL keysOf
  rw [List.mem_mergeSort, foldK_mem, List.mem_flatMap]
  simp only [List.not_mem_nil, false_or]
  constructor
  · rintro ⟨w, hw, hx⟩
    obtain ⟨k, _, rfl⟩ := List.mem_map.mp hx
    exact ⟨w, hw, List.take_prefix _ _⟩
  · rintro ⟨w, hw, hx⟩
    refine ⟨w, hw, List.mem_map.mpr ⟨x.length, ?_, ?_⟩⟩
    · rw [List.mem_range]
      have := hx.length_le
      omega
    · exact (List.prefix_iff_eq_take.mp hx).symm
end Wk
end

section
/-! P10: stores, as drawn. -/
namespace Wk
open PySem PySem.Spec PyProof.Rows L2
/-! ### the order of texts -/
theorem leT_iff {a b : List Nat} : leT a b = true ↔ a ≤ b := by
  unfold leT
  rw [Bool.not_eq_true', decide_eq_false_iff_not, List.not_lt]
theorem leT_trans (a b c : List Nat) (h : leT a b = true) (h' : leT b c = true) : leT a c = true := by
  rw [leT_iff] at *
  exact List.le_trans h h'
theorem leT_total (a b : List Nat) : (leT a b || leT b a) = true := by
  rw [Bool.or_eq_true, leT_iff, leT_iff]
  exact List.le_total a b
theorem ltT_of {a b : List Nat} (h : a ≤ b) (hn : a ≠ b) : a < b := by
  rcases List.le_iff_lt_or_eq.mp h with h | h
  · exact h
  · exact absurd h hn
/-- ascending, each once -/
abbrev Asc (ws : List (List Nat)) : Prop := ws.Pairwise (· < ·)
theorem asc_sort {ws : List (List Nat)} (h : ws.Nodup) : Asc (ws.mergeSort leT) := by
  have h1 := List.pairwise_mergeSort (le := leT) leT_trans leT_total ws
  have h2 : (ws.mergeSort leT).Nodup := (List.mergeSort_perm ws leT).symm.nodup_iff.mp h
  refine (h1.and h2).imp ?_
  rintro a b ⟨h3, h4⟩
  exact ltT_of (leT_iff.mp h3) h4
theorem Asc.nd {ws : List (List Nat)} (h : Asc ws) : ws.Nodup := h.imp fun {a b} h e => by subst e; exact List.lt_irrefl _ h
theorem asc_same {ws : List (List Nat)} (h : Asc ws) : ws.mergeSort leT = ws := by
  refine List.mergeSort_of_pairwise (h.imp fun {a b} h => ?_)
  rw [leT_iff]
  exact List.le_of_lt h
theorem asc_ext {a b : List (List Nat)} (ha : Asc a) (hb : Asc b) (h : ∀ x, x ∈ a ↔ x ∈ b) : a = b := by
  have p : a.Perm b := (List.perm_ext_iff_of_nodup ha.nd hb.nd).mpr h
  refine List.Perm.eq_of_pairwise (fun x y _ _ h1 h2 => ?_) ha hb p
  exact absurd (List.lt_trans h1 h2) (List.lt_irrefl _)
/-- a store: at most m words of at most n letters -/
structure Sto (n m : Nat) (st : St) : Prop where
  asc : Asc (st.map (·.1))
  len : ∀ p ∈ st, 1 ≤ p.1.length ∧ p.1.length ≤ n
  few : st.length ≤ m
  az : ∀ p ∈ st, AZ p.1
theorem Sto.mono {n m n' m' : Nat} {st : St} (h : Sto n m st) (hn : n ≤ n') (hm : m ≤ m') : Sto n' m' st := ⟨h.asc, fun p hp => ⟨(h.len p hp).1, Nat.le_trans (h.len p hp).2 hn⟩, Nat.le_trans h.few hm, h.az⟩
theorem Sto.sz {n m : Nat} {st : St} (h : Sto n m st) (hm : m ≤ 1000 := by omega) : st.length ≤ sizeLine := by rw [sizeL]; have := h.few; omega
theorem Sto.nil {n m : Nat} : Sto n m [] := ⟨List.Pairwise.nil, (fun p h => by cases h), Nat.zero_le _, (fun p h => by cases h)⟩
theorem Sto.ofWds {n m : Nat} {ws : List (List Nat)} {st : St} (h : Wds n m ws) (e : st.map (·.1) = ws.mergeSort leT) : Sto n m st := by
  have hs := h.sort
  have hm : ∀ p ∈ st, p.1 ∈ ws.mergeSort leT := fun p hp => by rw [← e]; exact List.mem_map.mpr ⟨p, hp, rfl⟩
  refine ⟨by rw [e]; exact asc_sort h.nd, fun p hp => hs.len _ (hm p hp), ?_, fun p hp => hs.az _ (hm p hp)⟩
  have := congrArg List.length e
  rw [List.length_map] at this
  rw [this]
  exact hs.few
theorem Sto.words {n m : Nat} {st : St} (h : Sto n m st) (hn : n ≤ 40 := by omega) : ∀ w ∈ st.map (·.1), w.length ≤ 40 ∧ AZ w := fun w hw => by
  obtain ⟨p, hp, rfl⟩ := List.mem_map.mp hw
  have := h.len p hp
  exact ⟨by omega, h.az p hp⟩
theorem Sto.sum {n m : Nat} {st : St} (h : Sto n m st) (hn : n ≤ 40 := by omega) (hm : m ≤ 1000 := by omega) : ((st.map (·.1)).map fun w => w.length + 1).sum < 16000000 := by
  have h1 := h.few
  have h2 : ∀ ws : List (List Nat), (∀ w ∈ ws, w.length ≤ 40) → (ws.map fun w => w.length + 1).sum ≤ 41 * ws.length := by
    intro ws
    induction ws with
    | nil => intro _; exact Nat.le_refl _
    | cons w ws ih =>
      intro hw
      have h3 := ih fun x hx => hw x (List.mem_cons_of_mem _ hx)
      have h4 := hw w List.mem_cons_self
      simp only [List.map_cons, List.sum_cons, List.length_cons]
      omega
  have h3 := h2 (st.map (·.1)) fun w hw => (h.words hn w hw).1
  rw [List.length_map] at h3
  omega
theorem store_spec {ls : List (List Nat)} (hl : Lets ls) (ns : List Int) {m : Nat} (h1 : m ≤ 1000) : ∃ st ns', Sto 18 m st ∧ s__law_store [ow (nums ns), fz (.lst (txtL ls)), fz (.int m)] = some (fz (stD st), [ow (nums ns')]) := by
  obtain ⟨ws, ns1, hw, e1⟩ := words_spec hl ns h1
  have hs := hw.sort
  obtain ⟨st, ns2, hst, e2⟩ := store_of_tup ns1 (ws := ws.mergeSort leT) (by rw [sizeL]; have := hs.few; omega)
  exact ⟨st, ns2, .ofWds hw hst, by simp [s__law_store_eq, d__law_store, e1, e2]⟩
theorem tree_sto {ls : List (List Nat)} (hl : Lets ls) (ns : List Int) {k : Nat} (hk1 : 1 ≤ k) (hk : k ≤ 1000) : ∃ st ns', Sto 6 12 st ∧ s__law_tree [ow (nums ns), fz (.lst (txtL ls)), fz (.int k)] = some (fz (stD st), [ow (nums ns')]) := by
  obtain ⟨ws, st, ns', h1, h2, e⟩ := tree_spec hl ns hk1 hk
  exact ⟨st, ns', .ofWds h1 h2, e⟩
theorem lets_ab : Lets [[97], [98]] := ⟨by decide, by decide, by decide, by decide, by decide⟩
theorem lets_abc3 : Lets [[97], [98], [99]] := ⟨by decide, by decide, by decide, by decide, by decide⟩
theorem abc_at (i : Int) : ∃ c, atI [97, 98, 99] (i % 3) = some c ∧ 97 ≤ c ∧ c ≤ 122 := by
  have h0 := Int.emod_nonneg i (b := 3) (by decide)
  have h1 := Int.emod_lt_of_pos i (b := 3) (by decide)
  rw [atI_of h0]
  have : (i % 3).toNat < 3 := by omega
  match h : (i % 3).toNat with
  | 0 => exact ⟨97, rfl, by omega, by omega⟩
  | 1 => exact ⟨98, rfl, by omega, by omega⟩
  | 2 => exact ⟨99, rfl, by omega, by omega⟩
  | n + 3 => omega
/-- all have it -/
def AllP {α : Type} (R : α → Prop) (l : List α) : Prop := ∀ x ∈ l, R x
theorem big_spec (ns : List Int) : ∃ st ns', Sto 18 80 st ∧ 0 < st.length ∧ s__law_big_store [ow (nums ns)] = some (fz (stD st), [ow (nums ns')]) := by
  obtain ⟨hd, ns1, hh, ha, e1⟩ := text_spec lets_ab ns (m := 12) (by omega) (by omega)
  obtain ⟨r1, ns2, a1, b1, e2⟩ := take_spec ns1 (m := 5) (by omega)
  obtain ⟨r2, ns3, a2, b2, e3⟩ := take_spec ns2 (m := 40) (by omega)
  obtain ⟨r3, ns4, a3, b3, e4⟩ := take_spec ns3 (m := 30) (by omega)
  obtain ⟨r4, ns5, a4, b4, e5⟩ := take_spec ns4 (m := 20) (by omega)
  have c1 : -4611686018427387904 ≤ 61 + r4 := by omega
  have c2 : 61 + r4 < 4611686018427387904 := by omega
  simp at e1
  simp [s__law_big_store_eq, d__law_big_store, e1, e2, e3, e4, e5, c1, c2]
  generalize hF : forL _ _ _ _ = F
  let Good : List Nat × D → Prop := fun p => (1 ≤ p.1.length ∧ p.1.length ≤ 18 ∧ AZ p.1) ∧ ∃ i, p.2 = .int i
  obtain ⟨e, rfl, t, x, y, z, u, rfl, q1, q2, q3, q4⟩ := forN hF (fun i env => ∃ (t : Tab) (x y z u : Slo), env = [some (ow (nums ns5)), some (fz (.str hd)), some (fz (.int (1 + r1))), some (fz (.int (1 + r2))), some (fz (.int (1 + r3))), some (ow (.dct (tkD t) (tvD t))), x, y, z, u] ∧ t.length ≤ i ∧ AllP Good t ∧ (t.map (·.1)).Nodup ∧ (0 < i → 0 < t.length))
    ⟨[], _, _, _, _, rfl, Nat.le_refl _, (fun p h => by cases h), List.nodup_nil, fun h => absurd h (Nat.lt_irrefl _)⟩ (by
      rintro j d env hd' ⟨t, x, y, z, u, rfl, q1, q2, q3, q4⟩
      obtain ⟨hj, rfl⟩ := intsFrom_get hd'
      have m1 : -18446744073709551616 < (j : Int) + 1 := by omega
      have m2 : (j : Int) + 1 < 18446744073709551616 := by omega
      have n0 : 0 < ((j : Int) + 1) * (1 + r1) := Int.mul_pos (by omega) (by omega)
      generalize hN : ((j : Int) + 1) * (1 + r1) = N at n0
      simp [m1, m2, hN]
      generalize hF2 : forL _ _ _ _ = F2
      obtain ⟨e, rfl, n, w, u, rfl, p1, p2, p3, p4, p5⟩ := forN hF2 (fun i env => ∃ (n : Int) (w : List Nat) (u : Slo), env = [some (ow (nums ns5)), some (fz (.str hd)), some (fz (.int (1 + r1))), some (fz (.int (1 + r2))), some (fz (.int (1 + r3))), some (ow (.dct (tkD t) (tvD t))), some (fz (.int j)), some (fz (.int n)), some (fz (.str w)), u] ∧ 0 ≤ n ∧ w.length ≤ i ∧ AZ w ∧ (i = 0 → 0 < n) ∧ (0 < i → 0 < w.length))
        ⟨N, [], _, rfl, by omega, Nat.le_refl _, .nil, fun _ => n0, fun h => absurd h (Nat.lt_irrefl _)⟩ (by
          rintro i d env hd2 ⟨n, w, u, rfl, p1, p2, p3, p4, p5⟩
          obtain ⟨hi, rfl⟩ := intsFrom_get hd2
          by_cases hn : 0 < n
          · obtain ⟨c, g1, g2, g3⟩ := abc_at n
            have hz : 1 + w.length ≤ sizeLine := by rw [sizeL]; omega
            simp [hn, g1, hz]
            have az : AZ (c :: w) := fun x hx => by
              rcases List.mem_cons.mp hx with rfl | hx
              · exact ⟨g2, g3⟩
              · exact p3 x hx
            exact ⟨_, _, ⟨rfl, rfl⟩, by omega, by simp; omega, az, by simp⟩
          · simp [hn]
            exact ⟨_, _, ⟨rfl, rfl⟩, p1, by omega, p3, by omega⟩)
      rw [intsFrom_len] at p2 p5
      have p6 : 0 < w.length := p5 (by decide)
      have hz : hd.length + w.length ≤ sizeLine := by rw [sizeL]; omega
      have ht : t.length < sizeLine := by rw [sizeL]; omega
      have i1 : -18446744073709551616 < (j : Int) := by omega
      have i2 : (j : Int) < 18446744073709551616 := by omega
      have i3 : 0 < 1 + r3 := by omega
      have fin : ∀ (v : List Nat) (d : D) (i : Int), 1 ≤ v.length → v.length ≤ 18 → AZ v → d = .int i → ((tput t v d).length ≤ j + 1 ∧ AllP Good (tput t v d) ∧ ((tput t v d).map (·.1)).Nodup ∧ 0 < (tput t v d).length) := by
        rintro v _ i v1 v2 v3 rfl
        refine ⟨by have := tput_len t v (.int i); omega, tput_all q2 ⟨⟨v1, v2, v3⟩, i, rfl⟩, ?_, ?_⟩
        · rw [tput_keys]
          exact addK_nd q3
        · unfold tput
          split
          · rename_i h
            rw [List.length_map]
            cases t with
            | nil => simp at h
            | cons a b => simp
          · simp
      by_cases hm : 0 < (j : Int) % 3
      · simp [hm, hz, ht, i1, i2, i3]
        exact ⟨_, ⟨rfl, rfl⟩, fin _ _ _ (by simp; omega) (by simp; omega) (ha.app p3) rfl⟩
      · simp [hm, ht, i1, i2, i3]
        exact ⟨_, ⟨rfl, rfl⟩, fin _ _ _ (by omega) (by omega) p3 rfl⟩)
  rw [intsFrom_len] at q1 q4
  have hz : t.length ≤ sizeLine := by rw [sizeL]; omega
  have hk : (t.map (·.1)).mergeSort leT = (t.map (·.1)).mergeSort leT := rfl
  generalize hws : (t.map (·.1)).mergeSort leT = ws at hk
  have hwm : ∀ w ∈ ws, ∃ i, tget t w = some (.int i) ∧ 1 ≤ w.length ∧ w.length ≤ 18 ∧ AZ w := by
    intro w hw
    rw [← hws, List.mem_mergeSort] at hw
    obtain ⟨y, h1, h2⟩ := tget_mem hw
    obtain ⟨⟨g1, g2, g3⟩, i, rfl⟩ := q2 _ h2
    exact ⟨i, h1, g1, g2, g3⟩
  have hst : ∃ st : St, st.map (·.1) = ws ∧ ∀ p ∈ st, tget t p.1 = some (.int p.2) := by
    clear hws hk
    induction ws with
    | nil => exact ⟨[], rfl, fun p h => by cases h⟩
    | cons w ws ih =>
      obtain ⟨st, h1, h2⟩ := ih fun x hx => hwm x (List.mem_cons_of_mem _ hx)
      obtain ⟨i, h3, _⟩ := hwm w List.mem_cons_self
      exact ⟨(w, i) :: st, by simp [h1], fun p hp => by
        rcases List.mem_cons.mp hp with rfl | hp
        · exact h3
        · exact h2 p hp⟩
  obtain ⟨st, h1, h2⟩ := hst
  have hlen : st.length = t.length := by
    have := congrArg List.length h1
    rw [List.length_map, ← hws, List.length_mergeSort, List.length_map] at this
    exact this
  have hmem : ∀ p ∈ st, p.1 ∈ ws := fun p hp => by rw [← h1]; exact List.mem_map.mpr ⟨p, hp, rfl⟩
  refine ⟨st, ⟨by rw [h1, ← hws]; exact asc_sort q3, fun p hp => ?_, by omega, fun p hp => ?_⟩, by have := q4 (by omega); omega, ns5, ?_⟩
  · obtain ⟨i, _, g1, g2, _⟩ := hwm _ (hmem p hp)
    exact ⟨g1, g2⟩
  · obtain ⟨i, _, _, _, g3⟩ := hwm _ (hmem p hp)
    exact g3
  simp [-sortD_dct, sortD_tab hz, hws, ← h1]
  generalize hG : lcL _ _ _ _ _ _ = G
  have e9 : (st.map fun a => D.str a.1) = st.map fun p => D.str p.1 := rfl
  obtain rfl := lcL_mapA (enc := fun p : List Nat × Int => D.str p.1) (l := st) (by exact hG) prD (fun p hp => by
    have := h2 p hp
    simp [this])
  have hz2 : st.length ≤ sizeLine := by omega
  simp [hz2]
end Wk
end

section
/-! P11: alike things, texts in lists. -/
namespace Wk
open PySem PySem.Spec PyProof.Rows L2
@[simp] theorem txtL_len (l : List (List Nat)) : (txtL l).length = l.length := List.length_map _
theorem same_int (i : Int) : s__law_same 8 [fz (.int i), fz (.int i)] = some (fz (.bl true), []) := same_spec 8 _ (by simp [dataD]) (by simp [szD]) (by simp [depD])
theorem same_non : s__law_same 8 [fz .non, fz .non] = some (fz (.bl true), []) := same_spec 8 _ (by simp [dataD]) (by simp [szD]) (by simp [depD])
theorem same_str (s : List Nat) : s__law_same 8 [fz (.str s), fz (.str s)] = some (fz (.bl true), []) := same_spec 8 _ (by simp [dataD]) (by simp [szD]) (by simp [depD])
theorem same_bl (s : Bool) : s__law_same 8 [fz (.bl s), fz (.bl s)] = some (fz (.bl true), []) := same_spec 8 _ (by simp [dataD]) (by simp [szD]) (by simp [depD])
/-- data of lists of data -/
theorem data_map {α : Type} {f : α → D} {n : Nat} {l : List α} (h : ∀ a ∈ l, dataD (f a) = true ∧ szD (f a) = true ∧ depD (f a) ≤ n) : dataL (l.map f) = true ∧ szL (l.map f) = true ∧ depL (l.map f) ≤ n := by
  induction l with
  | nil => exact ⟨rfl, rfl, Nat.zero_le _⟩
  | cons a l ih =>
    obtain ⟨h1, h2, h3⟩ := h a List.mem_cons_self
    obtain ⟨q1, q2, q3⟩ := ih fun b hb => h b (List.mem_cons_of_mem _ hb)
    refine ⟨by simp [dataL, h1, q1], by simp [szL, h2, q2], ?_⟩
    simp only [List.map_cons, depL]
    omega
/-- good data: may be looked at by _law_same -/
structure Gd (n : Nat) (d : D) : Prop where
  data : dataD d = true
  sz : szD d = true
  dep : depD d ≤ n
theorem Gd.int (n : Nat) (i : Int) : Gd n (.int i) := ⟨by simp [dataD], by simp [szD], by simp [depD]⟩
theorem Gd.str (n : Nat) (i : List Nat) : Gd n (.str i) := ⟨by simp [dataD], by simp [szD], by simp [depD]⟩
theorem Gd.bl (n : Nat) (i : Bool) : Gd n (.bl i) := ⟨by simp [dataD], by simp [szD], by simp [depD]⟩
theorem Gd.non (n : Nat) : Gd n .non := ⟨by simp [dataD], by simp [szD], by simp [depD]⟩
theorem Gd.tupM {α : Type} {f : α → D} {n : Nat} {l : List α} (hl : l.length ≤ sizeLine) (h : ∀ a ∈ l, Gd n (f a)) : Gd (n + 1) (.tup (l.map f)) := by
  obtain ⟨h1, h2, h3⟩ := data_map (n := n) fun a ha => ⟨(h a ha).data, (h a ha).sz, (h a ha).dep⟩
  exact ⟨by simpa [dataD] using h1, by simpa [szD, hl] using h2, by simp only [depD]; omega⟩
theorem Gd.lstM {α : Type} {f : α → D} {n : Nat} {l : List α} (hl : l.length ≤ sizeLine) (h : ∀ a ∈ l, Gd n (f a)) : Gd (n + 1) (.lst (l.map f)) := by
  obtain ⟨h1, h2, h3⟩ := data_map (n := n) fun a ha => ⟨(h a ha).data, (h a ha).sz, (h a ha).dep⟩
  exact ⟨by simpa [dataD] using h1, by simpa [szD, hl] using h2, by simp only [depD]; omega⟩
theorem Gd.tup {n : Nat} {l : List D} (hl : l.length ≤ sizeLine) (h : ∀ a ∈ l, Gd n a) : Gd (n + 1) (.tup l) := by
  have := Gd.tupM (f := id) hl h
  rwa [List.map_id] at this
theorem Gd.mono {n m : Nat} {d : D} (h : Gd n d) (hm : n ≤ m) : Gd m d := ⟨h.data, h.sz, Nat.le_trans h.dep hm⟩
theorem Gd.txt {l : List (List Nat)} (hl : l.length ≤ sizeLine) : Gd 1 (.tup (txtL l)) := .tupM hl fun s _ => .str 0 s
theorem Gd.txtl {l : List (List Nat)} (hl : l.length ≤ sizeLine) : Gd 1 (.lst (txtL l)) := .lstM hl fun s _ => .str 0 s
theorem Gd.pr (p : List Nat × Int) : Gd 1 (prD p) := .tup (by simp [sizeL]) fun a ha => by
  simp at ha
  rcases ha with rfl | rfl
  · exact .str 0 _
  · exact .int 0 _
theorem Gd.st {st : St} (hl : st.length ≤ sizeLine) : Gd 2 (stD st) := .tupM hl fun p _ => .pr p
theorem Gd.same {d : D} (h : Gd 7 d) : s__law_same 8 [fz d, fz d] = some (fz (.bl true), []) := same_spec 8 d h.data h.sz (by have := h.dep; omega)
theorem same_lst {l : List (List Nat)} (h : l.length ≤ sizeLine) : s__law_same 8 [fz (.lst (txtL l)), fz (.lst (txtL l))] = some (fz (.bl true), []) := ((Gd.txtl h).mono (by omega)).same
theorem same_st {st : St} (h : st.length ≤ sizeLine) : s__law_same 8 [fz (stD st), fz (stD st)] = some (fz (.bl true), []) := ((Gd.st h).mono (by omega)).same
/-- a list of trues has no False -/
theorem no_false (n : Nat) : memB (.bl false) (List.replicate n (.bl true)) = false ∧ inOk (.bl false) (List.replicate n (.bl true)) = true := by
  obtain ⟨b1, b2⟩ := bls_in (List.replicate n true) false
  rw [List.map_replicate] at b1 b2
  refine ⟨?_, b1⟩
  rw [b2]
  simp
theorem rowW_sz {st : St} {t : List Nat} {k : Nat} (h : st.length ≤ sizeLine) : (rowW st t k).length ≤ sizeLine := Nat.le_trans (rowW_len st t k) h
/-- both rows are the same -/
theorem row_same (st : St) (t : List Nat) (k : Nat) (h : st.length ≤ sizeLine) : s__law_same 8 [fz (.tup (txtL (rowW st t k))), fz (.tup (txtL (rowW st t k)))] = some (fz (.bl true), []) := same_txt (rowW_sz h)
/-- clean values -/
@[simp] theorem clean_st (st : St) : cleanV (fz (stD st)) = true := by
  have : immL (prL st) = true := by
    induction st with
    | nil => simp [immL]
    | cons p st ih => simp [immL, imm] at ih ⊢; exact ih
  simpa [cleanV, imm] using this
@[simp] theorem clean_txt (l : List (List Nat)) : cleanV (fz (.tup (txtL l))) = true := by
  have : immL (txtL l) = true := by
    induction l with
    | nil => simp [immL]
    | cons p st ih => simp [immL, imm] at ih ⊢; exact ih
  simpa [cleanV, imm] using this
end Wk
end

section
/-! P12: the order of pairs, place by place. -/
namespace Wk
open PySem PySem.Spec PyProof.Rows L2
/-- p stands ahead of q -/
def ltP (p q : List Nat × Int) : Bool := decide (q.2 < p.2 ∨ (p.2 = q.2 ∧ p.1 < q.1))
theorem ltP_iff {p q : List Nat × Int} : ltP p q = true ↔ q.2 < p.2 ∨ (p.2 = q.2 ∧ p.1 < q.1) := by simp [ltP]
theorem strCps (s : List Nat) : (PySem.Str.mk s.toArray).cps.toList = s := by simp
theorem ltB_rk (p q : List Nat × Int) : ltB (rkD p) (rkD q) = ltP p q := by
  show PySem.W.dataLt (.tuple [.int (-p.2), .str ⟨p.1.toArray⟩]) (.tuple [.int (-q.2), .str ⟨q.1.toArray⟩]) = _
  rw [PySem.W.dataLt_pair (by simp [PySem.W.alike]) (by simp [PySem.W.alike]), PySem.W.dataLt_int, PySem.W.dataLt_str, strCps, strCps]
  unfold ltP
  simp only [PyData.eqv, beq_iff_eq]
  by_cases h1 : -p.2 = -q.2
  · have e : p.2 = q.2 := by omega
    rw [if_pos h1]
    by_cases h2 : p.1 = q.1
    · simp [e, h2, List.lt_irrefl]
    · have h3 : ¬ ((PySem.Str.mk p.1.toArray) == (PySem.Str.mk q.1.toArray)) = true := by
        simp only [beq_iff_eq, PySem.Str.mk.injEq]
        intro h
        exact h2 (by have := congrArg Array.toList h; simpa using this)
      rw [if_neg (by simpa using h3)]
      simp [e]
  · rw [if_neg h1]
    have e : ¬ p.2 = q.2 := fun e => h1 (by rw [e])
    simp only [e, false_and, or_false]
    congr 1
    exact propext ⟨fun _ => by omega, fun _ => by omega⟩
theorem leP_eq (p q : List Nat × Int) : leP p q = !ltP q p := by
  unfold leP leB
  rw [ltB_rk]
theorem ltP_irr (p : List Nat × Int) : ltP p p = false := by
  simp [ltP, List.lt_irrefl]
theorem ltP_trans {p q r : List Nat × Int} (h : ltP p q = true) (h' : ltP q r = true) : ltP p r = true := by
  rw [ltP_iff] at *
  rcases h with h | ⟨h1, h2⟩ <;> rcases h' with h' | ⟨h3, h4⟩
  · exact .inl (by omega)
  · exact .inl (by omega)
  · exact .inl (by omega)
  · exact .inr ⟨by omega, List.lt_trans h2 h4⟩
theorem ltP_asymm {p q : List Nat × Int} (h : ltP p q = true) : ltP q p = false := by
  cases e : ltP q p with
  | false => rfl
  | true => have := ltP_trans h e; rw [ltP_irr] at this; cases this
theorem ltP_tot {p q : List Nat × Int} (h : p.1 ≠ q.1) : ltP p q = true ∨ ltP q p = true := by
  rw [ltP_iff, ltP_iff]
  by_cases h1 : q.2 < p.2
  · exact .inl (.inl h1)
  · by_cases h2 : p.2 < q.2
    · exact .inr (.inl h2)
    · rcases List.le_total p.1 q.1 with h3 | h3
      · exact .inl (.inr ⟨by omega, ltT_of h3 h⟩)
      · exact .inr (.inr ⟨by omega, ltT_of h3 fun e => h e.symm⟩)
theorem cmpOk_rk (p q : List Nat × Int) : cmpOk (rkD p) (rkD q) = true := by simp [cmpOk, dataD, dataL, py, pyL, PySem.W.alike, PySem.W.alikeAll, depD, depL]
@[simp] theorem ltD_rk (p q : List Nat × Int) : ltD (rkD p) (rkD q) = some (fz (.bl (ltP p q))) := by simp [ltD_eq, ltD0, cmpOk_rk, ltB_rk]
@[simp] theorem gtD_rk (p q : List Nat × Int) : gtD (rkD p) (rkD q) = some (fz (.bl (ltP q p))) := by simp [gtD_eq, gtD0, cmpOk_rk, ltB_rk]
theorem ordP_perm (st : St) : (ordP st).Perm st := List.mergeSort_perm st leP
theorem ordP_mem {st : St} {p : List Nat × Int} : p ∈ ordP st ↔ p ∈ st := List.mem_mergeSort
/-- strictly in order, if the words are different -/
theorem ordP_strict {st : St} (h : (st.map (·.1)).Nodup) : (ordP st).Pairwise fun p q => ltP p q = true := by
  have h1 := PySem.W.sort_pairwise leP_total st
  have h2 : ((ordP st).map (·.1)).Nodup := ((ordP_perm st).map _).symm.nodup_iff.mp h
  rw [List.Nodup, List.pairwise_map] at h2
  refine (h1.and h2).imp ?_
  rintro p q ⟨h3, h4⟩
  rw [leP_eq] at h3
  rcases ltP_tot h4 with h5 | h5
  · exact h5
  · rw [h5] at h3; cases h3
/-- those ahead of one: the first ones -/
theorem ahead_take {l : St} (h : l.Pairwise fun p q => ltP p q = true) {p : List Nat × Int} {i : Nat} (hp : l[i]? = some p) : l.filter (fun q => ltP q p) = l.take i := by
  induction l generalizing i with
  | nil => simp at hp
  | cons q l ih =>
    obtain ⟨h1, h2⟩ := List.pairwise_cons.mp h
    cases i with
    | zero =>
      simp at hp
      subst hp
      rw [List.filter_cons_of_neg (by rw [ltP_irr]; simp), List.take_zero, List.filter_eq_nil_iff]
      intro r hr
      rw [ltP_asymm (h1 r hr)]
      simp
    | succ i =>
      simp at hp
      rw [List.filter_cons, if_pos (h1 p (List.mem_of_getElem? hp)), List.take_succ_cons, ih h2 hp]
theorem begP_sub (st : St) (t : List Nat) : (begP st t).Sublist st := List.filter_sublist
theorem nd_sub {st st' : St} (h : st'.Sublist st) (hn : (st.map (·.1)).Nodup) : (st'.map (·.1)).Nodup := hn.sublist (h.map _)
/-- one pair for one word -/
theorem pair_one {st : St} (hn : (st.map (·.1)).Nodup) {p q : List Nat × Int} (hp : p ∈ st) (hq : q ∈ st) (e : p.1 = q.1) : p = q := by
  rw [List.Nodup, List.pairwise_map] at hn
  induction st with
  | nil => cases hp
  | cons r st ih =>
    obtain ⟨h1, h2⟩ := List.pairwise_cons.mp hn
    rcases List.mem_cons.mp hp with e1 | h3 <;> rcases List.mem_cons.mp hq with e2 | h4
    · rw [e1, e2]
    · exact absurd (e1 ▸ e) (h1 q h4)
    · exact absurd (e2 ▸ e.symm) (h1 p h3)
    · exact ih h2 h3 h4
/-! ### places of texts in lists -/
theorem idx_find (l : List (List Nat)) (w : List Nat) (h : w ∈ l) : (txtL l).findIdx? (fun x => deq x (.str w)) = some (l.idxOf w) := by
  induction l with
  | nil => cases h
  | cons x l ih =>
    show (D.str x :: txtL l).findIdx? _ = _
    rw [List.findIdx?_cons, deq_str, List.idxOf_cons]
    by_cases e : x = w
    · subst e; simp
    · have e' : (x == w) = false := by simpa using e
      rw [e']
      have := ih ((List.mem_cons.mp h).resolve_left fun z => e z.symm)
      simp [this]
end Wk
namespace Wk
open PySem PySem.Spec PyProof.Rows L2
@[simp] theorem indexD_txt {l : List (List Nat)} {w : List Nat} (h : w ∈ l) : indexD (.lst (txtL l)) (.str w) = some (fz (.int (l.idxOf w))) := by
  have e : indexD (.lst (txtL l)) (.str w) = if (dataL (txtL l) && decide (depL (txtL l) < 64) && dataD (.str w) && decide (depD (.str w) ≤ 64)) = true then ((txtL l).findIdx? fun z => deq z (.str w)).map (fun j : Nat => fz (.int (j : Int))) else none := id rfl
  rw [e, idx_find l w h]
  simp [dataL_strs, depL_strs, dataD, depD]
theorem atI_neg1 {α : Type} {l : List α} : atI l (-1) = l.getLast? := by
  unfold atI ixN
  rw [if_neg (by omega), List.getLast?_eq_getElem?]
  by_cases h : 1 ≤ l.length
  · rw [if_pos (by omega)]
    have e : (-1 + (l.length : Int)).toNat = l.length - 1 := by omega
    rw [e]
    rfl
  · rw [if_neg (by omega)]
    have : l = [] := List.eq_nil_of_length_eq_zero (by omega)
    subst this
    rfl
/-! ### equal things -/
theorem deqL_dec {α : Type} [DecidableEq α] {f : α → D} (h : ∀ a b, deq (f a) (f b) = decide (a = b)) : ∀ l l' : List α, deqL (l.map f) (l'.map f) = decide (l = l')
  | [], [] => by simp [deqL]
  | [], _ :: _ => by simp [deqL]
  | _ :: _, [] => by simp [deqL]
  | a :: l, b :: l' => by
    simp only [List.map_cons, deqL, h, deqL_dec h l l']
    by_cases e : a = b <;> simp [e]
@[simp] theorem deq_tup {a b : List D} : deq (.tup a) (.tup b) = deqL a b := by simp [deq]
@[simp] theorem deq_lst {a b : List D} : deq (.lst a) (.lst b) = deqL a b := by simp [deq]
@[simp] theorem deqL_txt {a b : List (List Nat)} : deqL (txtL a) (txtL b) = decide (a = b) := deqL_dec (fun a b => by rw [deq_str, Bool.eq_iff_iff]; simp) a b
@[simp] theorem deq_pr {p q : List Nat × Int} : deq (prD p) (prD q) = decide (p = q) := by
  obtain ⟨a, b⟩ := p
  obtain ⟨c, d⟩ := q
  rw [Bool.eq_iff_iff]; simp [deqL]
@[simp] theorem deqL_pr {a b : St} : deqL (prL a) (prL b) = decide (a = b) := deqL_dec (fun a b => deq_pr) a b
theorem okEq_gd {a b : D} (h : Gd 64 a) (h' : Gd 64 b) : okEq a b = true := by
  have h1 := h.dep
  have h2 := h'.dep
  simp [okEq, h.data, h'.data, h1, h2]
theorem dataL_pr (l : St) : dataL (prL l) = true ∧ depL (prL l) ≤ 1 := by
  have := data_map (f := prD) (n := 1) (l := l) fun p _ => ⟨(Gd.pr p).data, (Gd.pr p).sz, (Gd.pr p).dep⟩
  exact ⟨this.1, this.2.2⟩
@[simp] theorem okEq_txT {a b : List (List Nat)} : okEq (.tup (txtL a)) (.tup (txtL b)) = true := by simp [okEq, dataD, dataL_strs, depD, depL_strs]
@[simp] theorem okEq_txL {a b : List (List Nat)} : okEq (.lst (txtL a)) (.lst (txtL b)) = true := by simp [okEq, dataD, dataL_strs, depD, depL_strs]
@[simp] theorem okEq_st {a b : St} : okEq (stD a) (stD b) = true := by
  have h1 := dataL_pr a
  have h2 := dataL_pr b
  simp [okEq, dataD, depD, h1.1, h2.1]
  omega
@[simp] theorem okEq_pr {p q : List Nat × Int} : okEq (prD p) (prD q) = true := by simp [okEq, dataD, dataL, depD, depL]
@[simp] theorem itemsOf_stD {st : St} : itemsOf (stD st) = some (prL st) := rfl
/-! ### the worth of a word -/
def worthD (st : St) (w : List Nat) : D := match st.find? (fun p => p.1 == w) with
  | some p => .int p.2
  | none => .non
theorem worthD_of {st : St} (hn : (st.map (·.1)).Nodup) {p : List Nat × Int} (hp : p ∈ st) : worthD st p.1 = .int p.2 := by
  unfold worthD
  cases e : st.find? fun q => q.1 == p.1 with
  | none => have := List.find?_eq_none.mp e p hp; simp at this
  | some q =>
    have h1 := List.mem_of_find?_eq_some e
    have h2 : q.1 = p.1 := by simpa using List.find?_some e
    rw [pair_one hn h1 hp h2]
theorem worth_of_spec (st : St) (w : List Nat) : s_worth_of [fz (stD st), fz (.str w)] = some (fz (worthD st w), []) := by
  simp [s_worth_of_eq, d_worth_of]
  generalize hF : forL _ _ _ _ = F
  rcases forFind hF (fun p => p.1 == w) (fun p => fz (.int p.2)) (fun env => ∃ x y, env = [some (fz (stD st)), some (fz (.str w)), x, y]) ⟨_, _, rfl⟩ (by
    rintro p hp env ⟨x, y, rfl⟩
    by_cases e : p.1 = w
    · simp [e]
    · simp [e]) with ⟨h1, e, rfl, x, y, rfl⟩ | ⟨p, e, h1, _, rfl, x, y, rfl⟩
  · simp [worthD, h1]
  · simp [worthD, h1]
end Wk
end

section
/-! P13: where words stand. -/
namespace Wk
open PySem PySem.Spec PyProof.Rows L2
/-- the better ones of a word -/
def betW (st : St) (p : List Nat × Int) (t : List Nat) : List (List Nat) := (ordP ((begP st t).filter fun q => ltP q p)).map (·.1)
theorem betW_len (st : St) (p : List Nat × Int) (t : List Nat) : (betW st p t).length ≤ st.length := by
  unfold betW
  rw [List.length_map, ordP_len]
  exact Nat.le_trans (List.length_filter_le _ _) (List.length_filter_le _ _)
theorem bet_place {st : St} (hn : (st.map (·.1)).Nodup) {p : List Nat × Int} {t : List Nat} (hp : p ∈ begP st t) : ∃ i, (ordP (begP st t))[i]? = some p ∧ i < (ordP (begP st t)).length ∧ betW st p t = ((ordP (begP st t)).take i).map (·.1) ∧ (betW st p t).length = i := by
  obtain ⟨i, hi⟩ := List.getElem?_of_mem (ordP_mem.mpr hp)
  obtain ⟨hl, _⟩ := List.getElem?_eq_some_iff.mp hi
  have hs := ordP_strict (nd_sub (begP_sub st t) hn)
  have e : betW st p t = ((ordP (begP st t)).take i).map (·.1) := by
    unfold betW
    rw [ordP_filter, ahead_take hs hi]
  exact ⟨i, hi, hl, e, by rw [e, List.length_map, List.length_take]; omega⟩
theorem idxOf_place {l : St} (hn : (l.map (·.1)).Nodup) {p : List Nat × Int} {i : Nat} (h : l[i]? = some p) : (l.map (·.1)).idxOf p.1 = i := by
  obtain ⟨hl, e⟩ := List.getElem?_eq_some_iff.mp h
  have h1 : (l.map (·.1))[i]'(by rw [List.length_map]; exact hl) = p.1 := by rw [List.getElem_map, e]
  rw [← h1]
  exact hn.idxOf_getElem i _
theorem mem_begP {st : St} {t : List Nat} {p : List Nat × Int} : p ∈ begP st t ↔ p ∈ st ∧ t <+: p.1 := by
  rw [List.mem_filter, List.isPrefixOf_iff_prefix]
theorem lbetter_spec {st : St} (hn : (st.map (·.1)).Nodup) (hz : st.length ≤ sizeLine) {p : List Nat × Int} {t : List Nat} (hp : p ∈ st) (ht : t <+: p.1) : s__law_better [fz (stD st), fz (.str p.1), fz (.str t)] = some (fz (.tup (txtL (betW st p t))), []) := by
  have hb : p ∈ begP st t := mem_begP.mpr ⟨hp, ht⟩
  obtain ⟨i, hi, hl, e, _⟩ := bet_place hn hb
  have hn2 : ((ordP (begP st t)).map (·.1)).Nodup := ((ordP_perm _).map _).symm.nodup_iff.mp (nd_sub (begP_sub st t) hn)
  have hx := idxOf_place hn2 hi
  have hr : rowW st t st.length = (ordP (begP st t)).map (·.1) := by
    unfold rowW
    rw [List.take_of_length_le]
    rw [ordP_len]
    exact List.length_filter_le _ _
  have hm : p.1 ∈ (ordP (begP st t)).map (·.1) := List.mem_map.mpr ⟨p, ordP_mem.mpr hb, rfl⟩
  have q := lrow_spec st t st.length hz
  rw [hr] at q
  have hll : (ordP (begP st t)).length ≤ sizeLine := by rw [ordP_len]; exact Nat.le_trans (List.length_filter_le _ _) hz
  have e2 : betW st p t = ((ordP (begP st t)).map (·.1)).take i := by rw [e, List.map_take]
  rw [e2]
  generalize (ordP (begP st t)).map (·.1) = R at *
  simp [s__law_better_eq, d__law_better, q, hm, hx, ← List.map_take]
theorem better_spec {st : St} (hn : (st.map (·.1)).Nodup) (hz : st.length ≤ sizeLine) {p : List Nat × Int} (t : List Nat) (hp : p ∈ st) : s_better_ones [fz (stD st), fz (.str p.1), fz (.str t)] = some (fz (.tup (txtL (betW st p t))), []) := by
  have r1 := rank_spec p
  simp [s_better_ones_eq, d_better_ones, worth_of_spec, worthD_of hn hp, r1, begin_spec st t hz]
  generalize hG : lcL _ _ _ _ _ _ = G
  have hz1 : (begP st t).length ≤ sizeLine := filt_data hz
  obtain rfl := lcL_filA (enc := prD) hG (fun q => ltP q p) prD (fun q _ => by
    have r2 := rank_spec q
    have r3 := ltD_rk q p
    cases e : ltP q p <;> simp [r2, r3, e])
  have hz2 : ((begP st t).filter fun q => ltP q p).length ≤ sizeLine := filt_data hz1
  generalize hB : (begP st t).filter (fun q => ltP q p) = B at *
  have b := best_spec B B.length hz2
  have e : (ordP B).take B.length = ordP B := List.take_of_length_le (by rw [ordP_len]; exact Nat.le_refl _)
  rw [e] at b
  have e3 : betW st p t = (ordP B).map (·.1) := by unfold betW; rw [hB]
  rw [e3]
  generalize (ordP B).map (·.1) = R at *
  simp [hz2, b]
theorem places_spec {st : St} (hn : (st.map (·.1)).Nodup) (hz : st.length ≤ sizeLine) {p : List Nat × Int} (hp : p ∈ st) (hl : p.1.length ≤ 1000) : s_places_by_length [fz (stD st), fz (.str p.1)] = some (fz (.tup ((List.range (p.1.length + 1)).map fun m => .int (betW st p (p.1.take m)).length)), []) := by
  have c1 : (-4611686018427387904 : Int) ≤ p.1.length + 1 := by omega
  have c2 : (p.1.length : Int) + 1 < 4611686018427387904 := by omega
  simp [s_places_by_length_eq, d_places_by_length, c1, c2]
  generalize hG : lcL _ _ _ _ _ _ = G
  rw [intsFrom_map] at hG
  obtain rfl := lcL_mapA hG (fun m => .int (betW st p (p.1.take m)).length) (fun m _ => by simp [better_spec hn hz (p.1.take m) hp])
  have hz2 : p.1.length + 1 ≤ sizeLine := by rw [sizeL]; omega
  simp [hz2]
theorem leastk_spec {st : St} (hn : (st.map (·.1)).Nodup) (hz : st.length ≤ sizeLine) {p : List Nat × Int} (hp : p ∈ st) (hl : p.1.length ≤ 1000) : s_least_k [fz (stD st), fz (.str p.1)] = some (fz (.int ((betW st p p.1).length + 1)), []) := by
  simp [s_least_k_eq, d_least_k, places_spec hn hz hp hl, atI_neg1, List.range_succ]
theorem reached_spec {st : St} (hn : (st.map (·.1)).Nodup) (hz : st.length ≤ sizeLine) (hl : ∀ p ∈ st, p.1.length ≤ 1000) (k : Nat) : s_reached_words [fz (stD st), fz (.int k)] = some (fz (.int (st.filter fun p => decide ((betW st p p.1).length < k)).length), []) := by
  simp [s_reached_words_eq, d_reached_words]
  generalize hG : lcL _ _ _ _ _ _ = G
  obtain rfl := lcL_filA (enc := prD) hG (fun p => decide ((betW st p p.1).length < k)) (fun p => .str p.1) (fun p hp => by
    by_cases e : (betW st p p.1).length < k
    · have e' : ((betW st p p.1).length : Int) + 1 ≤ k := by omega
      simp [leastk_spec hn hz hp (hl p hp), e, e']
    · have e' : ¬ ((betW st p p.1).length : Int) + 1 ≤ k := by omega
      simp [leastk_spec hn hz hp (hl p hp), e, e'])
  have hz2 : (st.filter fun p => decide ((betW st p p.1).length < k)).length ≤ sizeLine := filt_data hz
  simp [hz2]
/-- those that go out with a letter -/
def goneW (st : St) (p : List Nat × Int) (j : Nat) : List (List Nat) := (betW st p (p.1.take j)).filter fun w => !decide (w ∈ betW st p (p.1.take (j + 1)))
theorem overtaken_spec {st : St} (hn : (st.map (·.1)).Nodup) (hz : st.length ≤ sizeLine) {p : List Nat × Int} (hp : p ∈ st) (hl : p.1.length ≤ 1000) : s_overtaken [fz (stD st), fz (.str p.1)] = some (fz (.tup ((List.range p.1.length).map fun j => .tup (txtL (goneW st p j)))), []) := by
  have c1 : (-4611686018427387904 : Int) ≤ p.1.length := by omega
  have c2 : (p.1.length : Int) < 4611686018427387904 := by omega
  simp [s_overtaken_eq, d_overtaken, c1, c2]
  generalize hF : forL _ _ _ _ = F
  obtain ⟨e, rfl, a, b, c, rfl⟩ := forN hF (fun i env => ∃ a b c, env = [some (fz (stD st)), some (fz (.str p.1)), some (ow (.lst ((List.range i).map fun j => .tup (txtL (goneW st p j))))), a, b, c]) ⟨_, _, _, rfl⟩ (by
    rintro j d env hd ⟨a, b, c, rfl⟩
    obtain ⟨hj, rfl⟩ := intsFrom_get hd
    have b1 := better_spec hn hz (p.1.take (j + 1)) hp
    have b2 := better_spec hn hz (p.1.take j) hp
    have e1 : ((j : Int) + 1) = ((j + 1 : Nat) : Int) := by omega
    simp [e1, b1, b2, -Int.natCast_add]
    generalize hG : lcL _ _ _ _ _ _ = G
    obtain rfl := lcL_filA (enc := D.str) hG (fun w => !decide (w ∈ betW st p (p.1.take (j + 1)))) D.str (fun w _ => by
      by_cases e : w ∈ betW st p (p.1.take (j + 1)) <;> simp [e])
    have hz2 : ((betW st p (p.1.take j)).filter fun w => !decide (w ∈ betW st p (p.1.take (j + 1)))).length ≤ sizeLine := Nat.le_trans (List.length_filter_le _ _) (Nat.le_trans (betW_len _ _ _) hz)
    have hz3 : j < sizeLine := by rw [sizeL]; omega
    simp [hz2, hz3, List.range_succ]
    rfl)
  simp
end Wk
end

section
/-! P14: changes of stores. -/
namespace Wk
open PySem PySem.Spec PyProof.Rows L2
/-! ### pairs by their words -/
def leW (p q : List Nat × Int) : Bool := leB (prD p) (prD q)
theorem ltB_pr (p q : List Nat × Int) : ltB (prD p) (prD q) = decide (p.1 < q.1 ∨ (p.1 = q.1 ∧ p.2 < q.2)) := by
  show PySem.W.dataLt (.tuple [.str ⟨p.1.toArray⟩, .int p.2]) (.tuple [.str ⟨q.1.toArray⟩, .int q.2]) = _
  rw [PySem.W.dataLt_pair (by simp [PySem.W.alike]) (by simp [PySem.W.alike]), PySem.W.dataLt_int, PySem.W.dataLt_str, strCps, strCps]
  simp only [PyData.eqv, beq_iff_eq]
  by_cases h1 : p.1 = q.1
  · have h3 : (PySem.Str.mk p.1.toArray) = (PySem.Str.mk q.1.toArray) := by rw [h1]
    rw [if_pos h3]
    by_cases h2 : p.2 = q.2
    · simp [h1, h2, List.lt_irrefl]
    · simp [h1, h2, List.lt_irrefl]
  · have h3 : ¬ (PySem.Str.mk p.1.toArray) = (PySem.Str.mk q.1.toArray) := by
      simp only [PySem.Str.mk.injEq]
      intro h
      exact h1 (by have := congrArg Array.toList h; simpa using this)
    rw [if_neg h3]
    simp [h1]
theorem leW_total : PySem.W.TotalLe leW := PySem.W.sortLe_total (listOrd itemOrd) false fun p : List Nat × Int => PySem.W.keyToks (py (prD p))
theorem leW_eq (p q : List Nat × Int) : leW p q = !decide (q.1 < p.1 ∨ (q.1 = p.1 ∧ q.2 < p.2)) := by
  unfold leW leB
  rw [ltB_pr]
def ordW (st : St) : St := st.mergeSort leW
theorem ordW_mem {st : St} {p : List Nat × Int} : p ∈ ordW st ↔ p ∈ st := List.mem_mergeSort
theorem ordW_len (st : St) : (ordW st).length = st.length := List.length_mergeSort st
theorem ordW_asc {st : St} (h : (st.map (·.1)).Nodup) : Asc ((ordW st).map (·.1)) := by
  have h1 := PySem.W.sort_pairwise leW_total st
  have h2 : ((ordW st).map (·.1)).Nodup := ((List.mergeSort_perm st leW).map _).symm.nodup_iff.mp h
  rw [List.Nodup, List.pairwise_map] at h2
  refine List.pairwise_map.mpr ((h1.and h2).imp ?_)
  rintro p q ⟨h3, h4⟩
  rw [leW_eq] at h3
  simp only [Bool.not_eq_true', decide_eq_false_iff_not, not_or] at h3
  exact ltT_of (List.not_lt.mp h3.1) h4
theorem asc_ext_st {a b : St} (ha : Asc (a.map (·.1))) (hb : Asc (b.map (·.1))) (h : ∀ p, p ∈ a ↔ p ∈ b) : a = b := by
  have na : a.Nodup := by
    have := ha.nd
    rw [List.Nodup, List.pairwise_map] at this
    exact this.imp fun h e => h (congrArg _ e)
  have nb : b.Nodup := by
    have := hb.nd
    rw [List.Nodup, List.pairwise_map] at this
    exact this.imp fun h e => h (congrArg _ e)
  have p : a.Perm b := (List.perm_ext_iff_of_nodup na nb).mpr h
  have ha := List.pairwise_map.mp ha
  have hb := List.pairwise_map.mp hb
  refine List.Perm.eq_of_pairwise (le := fun x y : List Nat × Int => x.1 < y.1) (fun x y _ _ h1 h2 => ?_) ha hb p
  exact absurd (List.lt_trans h1 h2) (List.lt_irrefl _)
theorem sortOk_pr (l : St) (h : l.length ≤ sizeLine) : sortOk (prL l) = true := by
  obtain ⟨h1, h2⟩ := dataL_pr l
  unfold sortOk
  rw [h1]
  have h3 : ((prL l).all fun a => (prL l).all fun b => alikeD a b) = true := by
    rw [List.all_eq_true]
    intro a ha
    rw [List.all_eq_true]
    intro b hb
    obtain ⟨x, _, rfl⟩ := List.mem_map.mp ha
    obtain ⟨y, _, rfl⟩ := List.mem_map.mp hb
    simp [alikeD, py, pyL, PySem.W.alike, PySem.W.alikeAll]
  have h4 : (prL l).all isTupB = true := by
    rw [List.all_eq_true]
    intro a ha
    obtain ⟨x, _, rfl⟩ := List.mem_map.mp ha
    rfl
  rw [h3, h4]
  simp
  exact ⟨by omega, h⟩
theorem sortD_pr (l : St) (h : l.length ≤ sizeLine) : sortD (.lst (prL l)) = some (ow (.lst (prL (ordW l)))) := by
  rw [sortD_lst, if_pos (sortOk_pr l h)]
  rw [← PySem.W.sort_maps prD (l := l) (r := leW) (s := leB) fun a _ b _ => rfl]
  rfl
/-! ### changes -/
abbrev Chg := List Nat × Option Int
def oD : Option Int → D
  | none => .non
  | some i => .int i
abbrev cgD (c : Chg) : D := .tup [.str c.1, oD c.2]
def withoutW (st : St) (w : List Nat) : St := st.filter fun p => !decide (p.1 ∈ [w])
def withW (st : St) (w : List Nat) (x : Int) : St := ordW (withoutW st w ++ [(w, x)])
def chgW (st : St) (c : Chg) : St := match c.2 with
  | none => withoutW st c.1
  | some x => withW st c.1 x
theorem withoutW_mem {st : St} {w : List Nat} {p : List Nat × Int} : p ∈ withoutW st w ↔ p ∈ st ∧ p.1 ≠ w := by
  unfold withoutW
  rw [List.mem_filter]
  simp
theorem withW_mem {st : St} {w : List Nat} {x : Int} {p : List Nat × Int} : p ∈ withW st w x ↔ (p ∈ st ∧ p.1 ≠ w) ∨ p = (w, x) := by
  unfold withW
  rw [ordW_mem, List.mem_append, withoutW_mem, List.mem_singleton]
theorem withoutW_len (st : St) (w : List Nat) : (withoutW st w).length ≤ st.length := List.length_filter_le _ _
theorem withW_len (st : St) (w : List Nat) (x : Int) : (withW st w x).length ≤ st.length + 1 := by
  unfold withW
  rw [ordW_len, List.length_append, List.length_singleton]
  have := withoutW_len st w
  omega
theorem withoutW_asc {st : St} (h : Asc (st.map (·.1))) (w : List Nat) : Asc ((withoutW st w).map (·.1)) := h.sublist (List.filter_sublist.map _)
theorem withW_asc {st : St} (h : Asc (st.map (·.1))) (w : List Nat) (x : Int) : Asc ((withW st w x).map (·.1)) := by
  refine ordW_asc ?_
  rw [List.map_append, List.map_singleton, List.nodup_append]
  refine ⟨(withoutW_asc h w).nd, by simp, fun a ha b hb e => ?_⟩
  obtain ⟨p, hp, rfl⟩ := List.mem_map.mp ha
  rw [List.mem_singleton] at hb
  exact (withoutW_mem.mp hp).2 (by rw [e, hb])
theorem chgW_asc {st : St} (h : Asc (st.map (·.1))) (c : Chg) : Asc ((chgW st c).map (·.1)) := by
  unfold chgW
  split
  · exact withoutW_asc h _
  · exact withW_asc h _ _
theorem chgW_len (st : St) (c : Chg) : (chgW st c).length ≤ st.length + 1 := by
  unfold chgW
  split
  · have := withoutW_len st c.1; omega
  · exact withW_len _ _ _
theorem chgW_mem {st : St} {c : Chg} {p : List Nat × Int} : p ∈ chgW st c ↔ (p ∈ st ∧ p.1 ≠ c.1) ∨ (p.1 = c.1 ∧ c.2 = some p.2) := by
  obtain ⟨w, x⟩ := c
  obtain ⟨v, y⟩ := p
  unfold chgW
  cases x with
  | none => simp [withoutW_mem]
  | some x =>
    simp only [withW_mem, Prod.mk.injEq, Option.some.injEq]
    constructor
    · rintro (h | ⟨h1, h2⟩)
      · exact .inl h
      · exact .inr ⟨h1, h2.symm⟩
    · rintro (h | ⟨h1, h2⟩)
      · exact .inl h
      · exact .inr ⟨h1, h2.symm⟩
theorem Sto.chg {n m : Nat} {st : St} (h : Sto n m st) {c : Chg} (h1 : 1 ≤ c.1.length) (h2 : c.1.length ≤ n) (h3 : AZ c.1) : Sto n (m + 1) (chgW st c) := by
  refine ⟨chgW_asc h.asc c, fun p hp => ?_, Nat.le_trans (chgW_len st c) (by have := h.few; omega), fun p hp => ?_⟩
  · rcases chgW_mem.mp hp with h4 | h4
    · exact h.len p h4.1
    · rw [h4.1]; exact ⟨h1, h2⟩
  · rcases chgW_mem.mp hp with h4 | h4
    · exact h.az p h4.1
    · rw [h4.1]; exact h3
/-- the worth, or nothing -/
def worthO (st : St) (w : List Nat) : Option Int := (st.find? fun p => p.1 == w).map (·.2)
theorem worthD_O (st : St) (w : List Nat) : worthD st w = oD (worthO st w) := by
  unfold worthD worthO
  cases st.find? fun p => p.1 == w <;> rfl
theorem worthO_iff {st : St} (hn : (st.map (·.1)).Nodup) {w : List Nat} {x : Int} : worthO st w = some x ↔ (w, x) ∈ st := by
  unfold worthO
  constructor
  · intro h
    obtain ⟨p, h1, h2⟩ := Option.map_eq_some_iff.mp h
    have h3 := List.mem_of_find?_eq_some h1
    have h4 : p.1 = w := by simpa using List.find?_some h1
    rw [← h4, ← h2]
    exact h3
  · intro h
    cases e : st.find? fun p => p.1 == w with
    | none => have := List.find?_eq_none.mp e _ h; simp at this
    | some q =>
      have h3 := List.mem_of_find?_eq_some e
      have h4 : q.1 = w := by simpa using List.find?_some e
      have := pair_one hn h3 h h4
      rw [this]
      rfl
/-- changed back -/
theorem chg_back {st : St} (h : Asc (st.map (·.1))) (c : Chg) : chgW (chgW st c) (c.1, worthO st c.1) = st := by
  refine asc_ext_st (chgW_asc (chgW_asc h c) _) h fun p => ?_
  rw [chgW_mem, chgW_mem]
  simp only
  constructor
  · rintro (⟨h1 | h1, h2⟩ | ⟨h1, h2⟩)
    · exact h1.1
    · exact absurd h1.1 h2
    · rw [worthO_iff h.nd, ← h1] at h2
      exact h2
  · intro hp
    by_cases e : p.1 = c.1
    · refine .inr ⟨e, ?_⟩
      rw [worthO_iff h.nd, ← e]
      exact hp
    · exact .inl ⟨.inl ⟨hp, e⟩, e⟩
theorem begP_asc {st : St} (h : Asc (st.map (·.1))) (t : List Nat) : Asc ((begP st t).map (·.1)) := h.sublist ((begP_sub st t).map _)
/-- a change does not touch what does not begin the word -/
theorem chg_row {st : St} (h : Asc (st.map (·.1))) (c : Chg) {t : List Nat} (ht : ¬ t <+: c.1) (k : Nat) : rowW (chgW st c) t k = rowW st t k := by
  have e : begP (chgW st c) t = begP st t := by
    refine asc_ext_st (begP_asc (chgW_asc h c) t) (begP_asc h t) fun p => ?_
    rw [mem_begP, mem_begP, chgW_mem]
    constructor
    · rintro ⟨h1 | h1, h2⟩
      · exact ⟨h1.1, h2⟩
      · exact absurd (h1.1 ▸ h2) ht
    · rintro ⟨h1, h2⟩
      exact ⟨.inl ⟨h1, fun e => ht (e ▸ h2)⟩, h2⟩
  unfold rowW
  rw [e]
theorem begL_mem {w t : List Nat} : t ∈ begL w ↔ t <+: w := by
  unfold begL
  rw [List.mem_map]
  constructor
  · rintro ⟨k, _, rfl⟩
    exact List.take_prefix _ _
  · intro h
    exact ⟨t.length, List.mem_range.mpr (by have := h.length_le; omega), (List.prefix_iff_eq_take.mp h).symm⟩
/-! ### what the defs tell -/
theorem beginnings_spec (w : List Nat) (h : w.length < 16000000) : s_beginnings [fz (.str w)] = some (ow (.lst (txtL (begL w))), []) := by
  have c1 : (-4611686018427387904 : Int) ≤ w.length + 1 := by omega
  have c2 : (w.length : Int) + 1 < 4611686018427387904 := by omega
  simp [s_beginnings_eq, d_beginnings, c1, c2]
  generalize hG : lcL _ _ _ _ _ _ = G
  rw [intsFrom_map] at hG
  obtain rfl := lcL_mapA hG (fun k => .str (w.take k)) (fun k _ => by simp)
  have hz : w.length + 1 ≤ sizeLine := by rw [sizeL]; omega
  simp [hz, begL]
theorem s1L : 1 ≤ sizeLine := by rw [sizeL]; decide
theorem without1 (st : St) (w : List Nat) (h : st.length ≤ sizeLine) : s_store_without [fz (stD st), fz (.tup [.str w])] = some (fz (stD (withoutW st w)), []) := without_spec st [w] h s1L
theorem lwithout1 (st : St) (w : List Nat) (h : st.length ≤ sizeLine) : s__law_without [fz (stD st), fz (.tup [.str w])] = some (fz (stD (withoutW st w)), []) := lwithout_spec st [w] h
theorem with_spec (st : St) (w : List Nat) (x : Int) (h : st.length < sizeLine) : s_store_with [fz (stD st), fz (.str w), fz (.int x)] = some (fz (stD (withW st w x)), []) := by
  have hl := withoutW_len st w
  have q := sortD_pr (withoutW st w ++ [(w, x)]) (by rw [List.length_append, List.length_singleton]; omega)
  have hz : (withoutW st w).length + 1 ≤ sizeLine := by omega
  simp [-sortD_lst] at q
  simp [-sortD_lst, s_store_with_eq, d_store_with, without1 st w (by omega), hz, q]
  rfl
theorem lwith_spec (st : St) (w : List Nat) (x : Int) (h : st.length < sizeLine) : s__law_with [fz (stD st), fz (.str w), fz (.int x)] = some (fz (stD (withW st w x)), []) := by
  have hl := withoutW_len st w
  have q := sortD_pr (withoutW st w ++ [(w, x)]) (by rw [List.length_append, List.length_singleton]; omega)
  have hz : (withoutW st w).length + 1 ≤ sizeLine := by omega
  simp [-sortD_lst] at q
  simp [-sortD_lst, s__law_with_eq, d__law_with, lwithout1 st w (by omega), hz, q]
  rfl
theorem changed_spec (st : St) (c : Chg) (h : st.length < sizeLine) : s_changed_store [fz (stD st), fz (cgD c)] = some (fz (stD (chgW st c)), []) := by
  obtain ⟨w, x⟩ := c
  cases x with
  | none => simp [s_changed_store_eq, d_changed_store, oD, without1 st w (by omega), chgW]
  | some x => simp [s_changed_store_eq, d_changed_store, oD, with_spec st w x h, chgW]
theorem lchanged_spec (st : St) (c : Chg) (h : st.length < sizeLine) : s__law_changed [fz (stD st), fz (cgD c)] = some (fz (stD (chgW st c)), []) := by
  obtain ⟨w, x⟩ := c
  cases x with
  | none => simp [s__law_changed_eq, d__law_changed, oD, lwithout1 st w (by omega), chgW]
  | some x => simp [s__law_changed_eq, d__law_changed, oD, lwith_spec st w x h, chgW]
/-- the beginnings whose rows change -/
def dueW (st st' : St) (w : List Nat) (k : Nat) : List (List Nat) := (begL w).filter fun t => !decide (rowW st t k = rowW st' t k)
theorem due_spec (st st' : St) (w : List Nat) (k : Nat) (h : st.length ≤ sizeLine) (h' : st'.length ≤ sizeLine) (hw : w.length < 16000000) : s__law_due [fz (stD st), fz (stD st'), fz (.str w), fz (.int k)] = some (fz (.tup (txtL (dueW st st' w k))), []) := by
  simp [s__law_due_eq, d__law_due, begun_spec w hw]
  generalize hG : lcL _ _ _ _ _ _ = G
  obtain rfl := lcL_filA (enc := D.str) hG (fun t => !decide (rowW st t k = rowW st' t k)) D.str (fun t _ => by
    by_cases e : rowW st t k = rowW st' t k <;> simp [lrow_spec st t k h, lrow_spec st' t k h', e])
  have hz : (dueW st st' w k).length ≤ sizeLine := Nat.le_trans (List.length_filter_le _ _) (by rw [begL_len, sizeL]; omega)
  have hz' : ((begL w).filter fun t => !decide (rowW st t k = rowW st' t k)).length ≤ sizeLine := hz
  simp [hz']
  rfl
theorem changedb_spec (st : St) (c : Chg) (k : Nat) (h : st.length < sizeLine) (hw : c.1.length < 16000000) : s_changed_beginnings [fz (stD st), fz (cgD c), fz (.int k)] = some (fz (.tup (txtL (dueW st (chgW st c) c.1 k))), []) := by
  have hl := chgW_len st c
  have q := changed_spec st c h
  simp [s_changed_beginnings_eq, d_changed_beginnings, q, beginnings_spec c.1 hw]
  generalize hG : lcL _ _ _ _ _ _ = G
  obtain rfl := lcL_filA (enc := D.str) hG (fun t => !decide (rowW st t k = rowW (chgW st c) t k)) D.str (fun t _ => by
    by_cases e : rowW st t k = rowW (chgW st c) t k <;> simp [row_spec st t k (by omega), row_spec (chgW st c) t k (by omega), e])
  have hz : (dueW st (chgW st c) c.1 k).length ≤ sizeLine := Nat.le_trans (List.length_filter_le _ _) (by rw [begL_len, sizeL]; omega)
  have hz' : ((begL c.1).filter fun t => !decide (rowW st t k = rowW (chgW st c) t k)).length ≤ sizeLine := hz
  simp [hz']
  rfl
theorem worth_in_spec (st : St) (w : List Nat) (h : st.length < sizeLine) : s__law_worth_in [fz (stD st), fz (.str w)] = some (fz (worthD st w), []) := by
  simp [s__law_worth_in_eq, d__law_worth_in]
  generalize hG : lcL _ _ _ _ _ _ = G
  obtain rfl := lcL_filA (enc := prD) hG (fun p => p.1 == w) (fun p => .int p.2) (fun p _ => by
    by_cases e : p.1 = w <;> simp [e])
  have hz : (st.filter fun p => p.1 == w).length < sizeLine := Nat.lt_of_le_of_lt (List.length_filter_le _ _) h
  have hz1 : (st.filter fun p => p.1 == w).length ≤ sizeLine := by omega
  have hz2 : (st.filter fun p => p.1 == w).length + 1 ≤ sizeLine := by omega
  have e : worthD st w = match (st.filter fun p => p.1 == w) with
    | [] => .non
    | p :: _ => .int p.2 := by
    unfold worthD
    rw [← List.head?_filter]
    cases st.filter fun p => p.1 == w <;> rfl
  rw [e]
  simp [hz1, hz2]
  cases st.filter fun p => p.1 == w with
  | nil => simp
  | cons p l => simp
end Wk
end

section
/-! P15: changes, as drawn. -/
namespace Wk
open PySem PySem.Spec PyProof.Rows L2
@[simp] theorem mapPr_inj {a b : St} : a.map prD = b.map prD ↔ a = b :=
  ⟨fun h => List.map_inj_right (fun x y e => by
    obtain ⟨x1, x2⟩ := x
    obtain ⟨y1, y2⟩ := y
    simp at e
    rw [e.1, e.2]) |>.mp h, fun h => h ▸ rfl⟩
@[simp] theorem imm_o (o : Option Int) : imm (oD o) = true := by cases o <;> simp [oD, imm]
@[simp] theorem clean_o (o : Option Int) : cleanV (fz (oD o)) = true := by simp [cleanV]
@[simp] theorem clean_cg (c : Chg) : cleanV (fz (cgD c)) = true := by simp [cleanV, imm, immL]
@[simp] theorem clean_pr (p : List Nat × Int) : cleanV (fz (prD p)) = true := by simp [cleanV, imm, immL]
theorem pick_pr (ns : List Int) {st : St} (h : st ≠ []) : ∃ p ns', p ∈ st ∧ s__law_pick [ow (nums ns), fz (stD st)] = some (fz (prD p), [ow (nums ns')]) := by
  obtain ⟨x, ns', hx, e⟩ := pick_tup ns (xs := prL st) (by simpa using h)
  obtain ⟨p, hp, rfl⟩ := List.mem_map.mp hx
  exact ⟨p, ns', hp, e⟩
/-- a word of at most n letters -/
structure Wd (n : Nat) (w : List Nat) : Prop where
  one : 1 ≤ w.length
  few : w.length ≤ n
  az : AZ w
theorem Sto.wd {n m : Nat} {st : St} (h : Sto n m st) {p : List Nat × Int} (hp : p ∈ st) : Wd n p.1 := ⟨(h.len p hp).1, (h.len p hp).2, h.az p hp⟩
theorem change_spec {ls : List (List Nat)} (hl : Lets ls) (ns : List Int) {m : Nat} {st : St} (hs : Sto 18 m st) : ∃ c ns', Wd 18 c.1 ∧ s__law_change [ow (nums ns), fz (.lst (txtL ls)), fz (stD st)] = some (fz (cgD c), [ow (nums ns')]) := by
  obtain ⟨w, ns1, w1, w2, w3, e1⟩ := word_spec hl ns
  have fin : ∀ (v : List Nat) (ns2 : List Int), Wd 18 v → (∀ ns3, s__law_take [ow (nums ns2), fz (.int 3)] = some (fz (.int 0), [ow (nums ns3)]) → s__law_change [ow (nums ns), fz (.lst (txtL ls)), fz (stD st)] = some (fz (cgD (v, none)), [ow (nums ns3)])) →
      (∀ r ns3 x ns4, r ≠ 0 → s__law_take [ow (nums ns2), fz (.int 3)] = some (fz (.int r), [ow (nums ns3)]) → s__law_worth [ow (nums ns3)] = some (fz (.int x), [ow (nums ns4)]) → s__law_change [ow (nums ns), fz (.lst (txtL ls)), fz (stD st)] = some (fz (cgD (v, some x)), [ow (nums ns4)])) →
      ∃ c ns', Wd 18 c.1 ∧ s__law_change [ow (nums ns), fz (.lst (txtL ls)), fz (stD st)] = some (fz (cgD c), [ow (nums ns')]) := by
    intro v ns2 hv h1 h2
    obtain ⟨r, ns3, r0, r1, e2⟩ := take_spec ns2 (m := 3) (by omega)
    by_cases h : r = 0
    · subst h
      exact ⟨_, _, hv, h1 ns3 e2⟩
    · obtain ⟨x, ns4, e3⟩ := worth_spec ns3
      exact ⟨_, _, hv, h2 r ns3 x ns4 h e2 e3⟩
  by_cases hne : st = []
  · subst hne
    refine fin w ns1 ⟨w1, w2, w3⟩ (fun ns3 e => ?_) (fun r ns3 x ns4 hr e e' => ?_)
    · simp [s__law_change_eq, d__law_change, e1, e, oD]
    · simp [s__law_change_eq, d__law_change, e1, e, hr, e', oD]
  · have hp : 0 < st.length := List.length_pos_iff.mpr hne
    obtain ⟨q, ns2, q0, q1, e2⟩ := take_spec ns1 (m := 3) (by omega)
    by_cases hq : 0 < q
    · obtain ⟨p, ns3, hp', e3⟩ := pick_pr ns2 hne
      refine fin p.1 ns3 (hs.wd hp') (fun ns4 e => ?_) (fun r ns4 x ns5 hr e e' => ?_)
      · simp [s__law_change_eq, d__law_change, e1, hp, e2, hq, e3, e, oD]
      · simp [s__law_change_eq, d__law_change, e1, hp, e2, hq, e3, e, hr, e', oD]
    · refine fin w ns2 ⟨w1, w2, w3⟩ (fun ns3 e => ?_) (fun r ns3 x ns4 hr e e' => ?_)
      · simp [s__law_change_eq, d__law_change, e1, hp, e2, hq, e, oD]
      · simp [s__law_change_eq, d__law_change, e1, hp, e2, hq, e, hr, e', oD]
end Wk
end

section
/-! P16: tongues, by what they tell. -/
namespace Wk
open PySem PySem.Spec PyProof.Rows L2
abbrev Pr := List Nat × List Nat
abbrev Tg := List Pr
abbrev tpD (p : Pr) : D := .tup [.str p.1, .str p.2]
abbrev tgL (T : Tg) : List D := T.map tpD
abbrev tgD (T : Tg) : D := .tup (tgL T)
def oP : Option Pr → D
  | none => .non
  | some p => tpD p
@[simp] theorem oP_none : oP none = .non := rfl
@[simp] theorem oP_some (p : Pr) : oP (some p) = tpD p := rfl
def lpS (x : List Nat) (f : Option Pr) (p : Pr) : Option Pr := if (p.1.isPrefixOf x && f.all fun q => decide (q.1.length < p.1.length)) = true then some p else f
def lpW (T : Tg) (x : List Nat) : Option Pr := T.foldl (lpS x) none
def takenW (T : Tg) (x : List Nat) : Pr := (lpW T x).getD (x.take 1, x.take 1)
def growW (T : Tg) (x : List Nat) : Bool := T.any fun p => decide (x.length < p.1.length) && x.isPrefixOf p.1
structure TgOk (T : Tg) : Prop where
  one : ∀ p ∈ T, 1 ≤ p.1.length
  fr : ∀ p ∈ T, p.1.length ≤ 20
  to : ∀ p ∈ T, p.2.length ≤ 20
  few : T.length ≤ 1000
/-- what it gives has at most three letters -/
def To3 (T : Tg) : Prop := ∀ p ∈ T, p.2.length ≤ 3
/-- a chain of few tongues -/
structure PtC (C : List Tg) : Prop where
  ok : ∀ T ∈ C, TgOk T
  few : C.length ≤ 3
  to3 : ∀ T ∈ C, To3 T
theorem foldl_lpS {x : List Nat} : ∀ {T : Tg} {f : Option Pr} {p : Pr}, T.foldl (lpS x) f = some p → f = some p ∨ (p ∈ T ∧ p.1.isPrefixOf x = true)
  | [], f, p, h => .inl h
  | a :: T, f, p, h => by
    rw [List.foldl_cons] at h
    rcases foldl_lpS h with h | ⟨h1, h2⟩
    · unfold lpS at h
      split at h
      · rename_i hc
        injection h with h; subst h
        rw [Bool.and_eq_true] at hc
        exact .inr ⟨List.mem_cons_self, hc.1⟩
      · exact .inl h
    · exact .inr ⟨List.mem_cons_of_mem _ h1, h2⟩
theorem lpW_mem {T : Tg} {x : List Nat} {p : Pr} (h : lpW T x = some p) : p ∈ T ∧ p.1.isPrefixOf x = true := by
  rcases foldl_lpS h with h | h
  · cases h
  · exact h
theorem lpW_take {T : Tg} {x : List Nat} {j : Nat} {p : Pr} (h : T[j]? = some p) : lpW (T.take (j + 1)) x = lpS x (lpW (T.take j) x) p := by
  unfold lpW
  rw [List.take_add_one, h, List.foldl_append]
  rfl
theorem takenW_ok {T : Tg} (ok : TgOk T) {x : List Nat} (hx : x ≠ []) : 1 ≤ (takenW T x).1.length ∧ (takenW T x).1.isPrefixOf x = true ∧ (takenW T x).2.length ≤ 20 := by
  unfold takenW
  cases h : lpW T x with
  | none =>
    cases x with
    | nil => exact absurd rfl hx
    | cons c x => simp
  | some p =>
    obtain ⟨h1, h2⟩ := lpW_mem h
    exact ⟨ok.one p h1, h2, ok.to p h1⟩
theorem takenW_3 {T : Tg} (h3 : To3 T) {x : List Nat} : (takenW T x).2.length ≤ 3 := by
  unfold takenW
  cases h : lpW T x with
  | none => simp; omega
  | some p => exact h3 p (lpW_mem h).1
theorem pre_len {a b : List Nat} (h : a.isPrefixOf b = true) : a.length ≤ b.length := (List.isPrefixOf_iff_prefix.mp h).length_le
theorem pre_at {s p : List Nat} {n : Nat} (hn : n ≤ s.length) : (decide (n + p.length ≤ s.length) && p.isPrefixOf (s.drop n)) = p.isPrefixOf (s.drop n) := by
  cases h : p.isPrefixOf (s.drop n) with
  | false => simp
  | true =>
    have := pre_len h
    rw [List.length_drop] at this
    simp; omega
theorem tg_ind {T : Tg} (ok : TgOk T) {P : List Nat → Prop} (h0 : P []) (h1 : ∀ x, x ≠ [] → P (x.drop (takenW T x).1.length) → P x) (x : List Nat) : P x := by
  have : ∀ n (x : List Nat), x.length ≤ n → P x := by
    intro n
    induction n with
    | zero =>
      intro x hx
      have : x = [] := List.eq_nil_of_length_eq_zero (by omega)
      rw [this]; exact h0
    | succ n ih =>
      intro x hx
      by_cases hn : x = []
      · rw [hn]; exact h0
      · refine h1 x hn (ih _ ?_)
        have := (takenW_ok ok hn).1
        rw [List.length_drop]; omega
  exact this _ x (Nat.le_refl _)
def writF (T : Tg) : Nat → List Nat → List Nat
  | 0, _ => []
  | n + 1, x => if x = [] then [] else (takenW T x).2 ++ writF T n (x.drop (takenW T x).1.length)
def writW (T : Tg) (x : List Nat) : List Nat := writF T x.length x
theorem writF_more {T : Tg} (ok : TgOk T) : ∀ (n m : Nat) (x : List Nat), x.length ≤ n → x.length ≤ m → writF T n x = writF T m x
  | 0, 0, _, _, _ => rfl
  | 0, m + 1, x, h, _ => by
    have : x = [] := List.eq_nil_of_length_eq_zero (by omega)
    subst this; rfl
  | n + 1, 0, x, _, h => by
    have : x = [] := List.eq_nil_of_length_eq_zero (by omega)
    subst this; rfl
  | n + 1, m + 1, x, h1, h2 => by
    unfold writF
    split
    · rfl
    · rename_i hx
      have := (takenW_ok ok hx).1
      rw [writF_more ok n m _ (by rw [List.length_drop]; omega) (by rw [List.length_drop]; omega)]
theorem writW_nil (T : Tg) : writW T [] = [] := rfl
theorem writW_step {T : Tg} (ok : TgOk T) {x : List Nat} (hx : x ≠ []) : writW T x = (takenW T x).2 ++ writW T (x.drop (takenW T x).1.length) := by
  have h1 := (takenW_ok ok hx).1
  have e : writW T x = writF T (x.length + 1) x := writF_more ok _ _ x (Nat.le_refl _) (by omega)
  rw [e, writF, if_neg hx, writW, writF_more ok x.length _ _ (by rw [List.length_drop]; omega) (Nat.le_refl _)]
theorem writW_len {T : Tg} (ok : TgOk T) (x : List Nat) : (writW T x).length ≤ 20 * x.length := by
  refine tg_ind ok (P := fun x => (writW T x).length ≤ 20 * x.length) (by simp [writW_nil]) (fun x hx ih => ?_) x
  obtain ⟨h1, h2, h3⟩ := takenW_ok ok hx
  have := pre_len h2
  rw [List.length_drop] at ih
  rw [writW_step ok hx, List.length_append]
  omega
theorem writW_len3 {T : Tg} (ok : TgOk T) (t3 : To3 T) (x : List Nat) : (writW T x).length ≤ 3 * x.length := by
  refine tg_ind ok (P := fun x => (writW T x).length ≤ 3 * x.length) (by simp [writW_nil]) (fun x hx ih => ?_) x
  obtain ⟨h1, h2, _⟩ := takenW_ok ok hx
  have h3 := takenW_3 t3 (x := x)
  have := pre_len h2
  rw [List.length_drop] at ih
  rw [writW_step ok hx, List.length_append]
  omega
def firmF (T : Tg) : Nat → List Nat → List Nat × List Nat
  | 0, x => ([], x)
  | n + 1, x => if x = [] ∨ growW T x = true then ([], x) else ((takenW T x).2 ++ (firmF T n (x.drop (takenW T x).1.length)).1, (firmF T n (x.drop (takenW T x).1.length)).2)
def firmW (T : Tg) (x : List Nat) : List Nat × List Nat := firmF T x.length x
theorem firmF_more {T : Tg} (ok : TgOk T) : ∀ (n m : Nat) (x : List Nat), x.length ≤ n → x.length ≤ m → firmF T n x = firmF T m x
  | 0, 0, _, _, _ => rfl
  | 0, m + 1, x, h, _ => by
    have : x = [] := List.eq_nil_of_length_eq_zero (by omega)
    subst this; simp [firmF]
  | n + 1, 0, x, _, h => by
    have : x = [] := List.eq_nil_of_length_eq_zero (by omega)
    subst this; simp [firmF]
  | n + 1, m + 1, x, h1, h2 => by
    unfold firmF
    split
    · rfl
    · rename_i hx
      have := (takenW_ok ok (fun e => hx (.inl e))).1
      rw [firmF_more ok n m _ (by rw [List.length_drop]; omega) (by rw [List.length_drop]; omega)]
theorem firmW_stop {T : Tg} {x : List Nat} (h : x = [] ∨ growW T x = true) : firmW T x = ([], x) := by
  unfold firmW
  cases x with
  | nil => rfl
  | cons c x => rw [List.length_cons, firmF, if_pos h]
theorem firmW_step {T : Tg} (ok : TgOk T) {x : List Nat} (hx : x ≠ []) (hg : growW T x = false) : firmW T x = ((takenW T x).2 ++ (firmW T (x.drop (takenW T x).1.length)).1, (firmW T (x.drop (takenW T x).1.length)).2) := by
  have h1 := (takenW_ok ok hx).1
  have e : firmW T x = firmF T (x.length + 1) x := firmF_more ok _ _ x (Nat.le_refl _) (by omega)
  rw [e, firmF, if_neg (by simp [hx, hg]), firmW, firmF_more ok x.length _ _ (by rw [List.length_drop]; omega) (Nat.le_refl _)]
/-- what may not grow is taken alike before whatever comes -/
theorem lpW_app {T : Tg} {x y : List Nat} (hg : growW T x = false) : lpW T (x ++ y) = lpW T x := by
  unfold lpW
  have hg' : ∀ p ∈ T, p.1.isPrefixOf (x ++ y) = p.1.isPrefixOf x := by
    intro p hp
    have h1 : (decide (x.length < p.1.length) && x.isPrefixOf p.1) = false := by
      rw [growW, List.any_eq_false] at hg
      exact Bool.eq_false_iff.mpr (hg p hp)
    rw [Bool.eq_iff_iff, List.isPrefixOf_iff_prefix, List.isPrefixOf_iff_prefix]
    refine ⟨fun h => ?_, fun h => h.trans (List.prefix_append _ _)⟩
    by_cases hl : p.1.length ≤ x.length
    · exact List.prefix_of_prefix_length_le h (List.prefix_append _ _) hl
    · have : x <+: p.1 := List.prefix_of_prefix_length_le (List.prefix_append _ _) h (by omega)
      have h3 : x.isPrefixOf p.1 = true := List.isPrefixOf_iff_prefix.mpr this
      rw [h3, Bool.and_true, decide_eq_false_iff_not] at h1
      omega
  suffices h : ∀ (T : Tg) (f : Option Pr), (∀ p ∈ T, p.1.isPrefixOf (x ++ y) = p.1.isPrefixOf x) → T.foldl (lpS (x ++ y)) f = T.foldl (lpS x) f from h T none hg'
  intro T
  induction T with
  | nil => intro f _; rfl
  | cons p T ih =>
    intro f h
    rw [List.foldl_cons, List.foldl_cons, ih _ fun q hq => h q (List.mem_cons_of_mem _ hq)]
    unfold lpS
    rw [h p List.mem_cons_self]
theorem takenW_app {T : Tg} {x y : List Nat} (hx : x ≠ []) (hg : growW T x = false) : takenW T (x ++ y) = takenW T x := by
  unfold takenW
  rw [lpW_app hg]
  cases x with
  | nil => exact absurd rfl hx
  | cons c x => rfl
/-- the firm part begins what is written, whatever comes -/
theorem firmW_app {T : Tg} (ok : TgOk T) (x y : List Nat) : writW T (x ++ y) = (firmW T x).1 ++ writW T ((firmW T x).2 ++ y) := by
  refine tg_ind ok (P := fun x => writW T (x ++ y) = (firmW T x).1 ++ writW T ((firmW T x).2 ++ y)) (by rw [firmW_stop (.inl rfl)]; rfl) (fun x hx ih => ?_) x
  cases hg : growW T x with
  | true => rw [firmW_stop (.inr hg)]; rfl
  | false =>
    have hl := pre_len (takenW_ok ok hx).2.1
    rw [firmW_step ok hx hg, writW_step ok (x := x ++ y) (by simp [hx]), takenW_app hx hg, List.drop_append_of_le_length hl, ih, List.append_assoc]
theorem firmW_len {T : Tg} (ok : TgOk T) (x : List Nat) : (firmW T x).1.length ≤ 20 * x.length ∧ (firmW T x).2.length ≤ x.length := by
  refine tg_ind ok (P := fun x => (firmW T x).1.length ≤ 20 * x.length ∧ (firmW T x).2.length ≤ x.length) (by rw [firmW_stop (.inl rfl)]; simp) (fun x hx ih => ?_) x
  cases hg : growW T x with
  | true => rw [firmW_stop (.inr hg)]; simp
  | false =>
    obtain ⟨h1, h2, h3⟩ := takenW_ok ok hx
    have := pre_len h2
    rw [List.length_drop] at ih
    rw [firmW_step ok hx hg]
    simp only [List.length_append]
    omega
theorem firmW_len3 {T : Tg} (ok : TgOk T) (t3 : To3 T) (x : List Nat) : (firmW T x).1.length ≤ 3 * x.length ∧ (firmW T x).2.length ≤ x.length := by
  refine tg_ind ok (P := fun x => (firmW T x).1.length ≤ 3 * x.length ∧ (firmW T x).2.length ≤ x.length) (by rw [firmW_stop (.inl rfl)]; simp) (fun x hx ih => ?_) x
  cases hg : growW T x with
  | true => rw [firmW_stop (.inr hg)]; simp
  | false =>
    obtain ⟨h1, h2, _⟩ := takenW_ok ok hx
    have h3 := takenW_3 t3 (x := x)
    have := pre_len h2
    rw [List.length_drop] at ih
    rw [firmW_step ok hx hg]
    simp only [List.length_append]
    omega
/-! ### chains -/
def chainW (C : List Tg) (x : List Nat) : List Nat := C.foldl (fun d T => writW T d) x
def stepW : List Tg → List (List Nat) → List Nat → List Nat × List (List Nat)
  | T :: Ts, r :: rs, d => ((stepW Ts rs (firmW T (r ++ d)).1).1, (firmW T (r ++ d)).2 :: (stepW Ts rs (firmW T (r ++ d)).1).2)
  | _, _, d => (d, [])
def endW : List Tg → List (List Nat) → List Nat → List Nat
  | T :: Ts, r :: rs, d => endW Ts rs (writW T (r ++ d))
  | _, _, d => d
theorem chain_firm : ∀ (C : List Tg) (x y : List Nat), (∀ T ∈ C, TgOk T) → chainW C (x ++ y) = (stepW C (List.replicate C.length []) x).1 ++ endW C (stepW C (List.replicate C.length []) x).2 y
  | [], x, y, _ => rfl
  | T :: C, x, y, h => by
    show chainW C (writW T (x ++ y)) = _
    rw [firmW_app (h T List.mem_cons_self), chain_firm C _ _ fun U hU => h U (List.mem_cons_of_mem _ hU)]
    rfl
end Wk
end

section
/-! P17: tongues, what the code tells. -/
namespace Wk
open PySem PySem.Spec PyProof.Rows L2
@[simp] theorem cutL_fromN {α : Type} {l : List α} {k : Nat} : cutL l (some (k : Int)) none = l.drop k := by rw [cutL_from (by omega)]; rfl
theorem longest_spec (T : Tg) (s : List Nat) {n : Nat} (hn : n ≤ s.length) : s_longest_pair [fz (tgD T), fz (.str s), fz (.int n)] = some (fz (oP (lpW T (s.drop n))), []) := by
  simp [s_longest_pair_eq, d_longest_pair]
  generalize hF : forL _ _ _ _ = F
  obtain ⟨e, rfl, x, rfl⟩ := forA hF (fun j env => ∃ x, env = [some (fz (tgD T)), some (fz (.str s)), some (fz (.int n)), some (fz (oP (lpW (T.take j) (s.drop n)))), x]) ⟨_, rfl⟩ (by
    rintro j p e hp ⟨x, rfl⟩
    rw [lpW_take hp]
    have hq := pre_at (p := p.1) hn
    generalize lpW (T.take j) (s.drop n) = f
    cases h1 : p.1.isPrefixOf (s.drop n) with
    | false =>
      rw [h1] at hq
      simp [hq, lpS, h1]
    | true =>
      rw [h1] at hq
      cases f with
      | none => simp [hq, lpS, h1]
      | some q =>
        by_cases hl : q.1.length < p.1.length
        · simp [hq, lpS, h1, hl]
        · simp [hq, lpS, h1, hl])
  rw [List.take_length]
  simp
theorem taken_spec (T : Tg) (s : List Nat) {n : Nat} (hn : n < s.length) : s_taken_at [fz (tgD T), fz (.str s), fz (.int n)] = some (fz (tpD (takenW T (s.drop n))), []) := by
  have e := longest_spec T s (Nat.le_of_lt hn)
  have e2 : (s.drop n).take 1 = [s[n]] := by rw [List.drop_eq_getElem_cons hn]; rfl
  have e3 : atI s (n : Int) = some s[n] := by rw [atI_of (by omega)]; simp [hn]
  cases h : lpW T (s.drop n) with
  | none =>
    rw [h] at e
    simp [s_taken_at_eq, d_taken_at, e, takenW, h, e2, e3]
  | some p =>
    rw [h] at e
    simp [s_taken_at_eq, d_taken_at, e, takenW, h]
@[simp] theorem blsD_nil : blsD [] = some [] := rfl
@[simp] theorem blsD_bl (i : Bool) (r : List D) : blsD (.bl i :: r) = (blsD r).map (i :: ·) := rfl
theorem blsD_map {α : Type} (f : α → Bool) (l : List α) : blsD (l.map fun a => D.bl (f a)) = some (l.map f) := by
  induction l with
  | nil => rfl
  | cons a l ih => simp [ih]
theorem grow_spec (T : Tg) (hz : T.length ≤ 1000) (s : List Nat) : s_may_grow [fz (tgD T), fz (.str s)] = some (fz (.bl (growW T s)), []) := by
  simp [s_may_grow_eq, d_may_grow]
  generalize hG : lcL _ _ _ _ _ _ = G
  have := lcL_mapA hG (fun p : Pr => D.bl (decide (s.length < p.1.length) && s.isPrefixOf p.1)) (by
    intro p hp
    simp
    by_cases h : s.length < p.1.length
    · simp [h]
    · simp [h])
  subst this
  have e := blsD_map (fun p : Pr => (decide (s.length < p.1.length) && s.isPrefixOf p.1)) T
  have hz2 : T.length ≤ sizeLine := by rw [sizeL]; omega
  simp [e, growW, List.any_map, Function.comp_def, hz2]

/-- the parts that are put in a line -/
def PtsLe (ps : List (List Nat)) (n : Nat) : Prop := (ps.map (·.length)).sum ≤ 20 * n ∧ ps.length ≤ n
theorem PtsLe.add {ps : List (List Nat)} {n k : Nat} {p : List Nat} (h : PtsLe ps n) (hk : 1 ≤ k) (hp : p.length ≤ 20) : PtsLe (ps ++ [p]) (n + k) := by
  unfold PtsLe at *
  simp; omega
theorem written_spec {T : Tg} (ok : TgOk T) (s : List Nat) (hs : s.length ≤ 800000) : s_written [fz (tgD T), fz (.str s)] = some (fz (.str (writW T s)), []) := by
  simp [s_written_eq, d_written]
  generalize hF : sWh _ _ _ = F
  obtain ⟨o, e, rfl, h⟩ := sWhT hF (fun m env => ∃ n ps a b, env = [some (fz (tgD T)), some (fz (.str s)), some (ow (.lst (txtL ps))), some (fz (.int (n : Nat))), a, b] ∧ m = s.length - n ∧ n ≤ s.length ∧ PtsLe ps n ∧ ps.flatten ++ writW T (s.drop n) = writW T s)
    (fun env => ∃ ps x a b, env = [some (fz (tgD T)), some (fz (.str s)), some (ow (.lst (txtL ps))), x, a, b] ∧ PtsLe ps s.length ∧ ps.flatten = writW T s) (fun _ _ => False) s.length ⟨0, [], none, none, rfl, by omega, by omega, by simp [PtsLe], by simp⟩ (by
    rintro m env ⟨n, ps, a, b, rfl, rfl, hn, hp, hw⟩
    by_cases h : n < s.length
    · have hne : s.drop n ≠ [] := fun z => by have := congrArg List.length z; simp at this; omega
      obtain ⟨t1, t2, t3⟩ := takenW_ok ok hne
      have t4 := pre_len t2
      rw [List.length_drop] at t4
      have e := taken_spec T s h
      have hst := writW_step ok hne
      rw [List.drop_drop] at hst
      refine ⟨true, _, by simp [h]; exact rfl, ?_⟩
      rw [if_pos rfl]
      generalize takenW T (s.drop n) = t at *
      have hz : ps.length < sizeLine := by rw [sizeL]; have := hp.2; omega
      simp [e, hz]
      refine ⟨s.length - (n + t.1.length), by omega, n + t.1.length, ps ++ [t.2], ⟨by simp, by omega⟩, rfl, by omega, hp.add t1 t3, ?_⟩
      rw [List.flatten_append, List.append_assoc, ← hw, hst]
      simp
    · have e0 : n = s.length := by omega
      subst e0
      rw [List.drop_length, writW_nil, List.append_nil] at hw
      exact ⟨false, _, by simp; exact rfl, by rw [if_neg (by simp)]; exact ⟨ps, _, _, _, rfl, hp, hw⟩⟩)
  rcases h with ⟨rfl, ps, x, a, b, rfl, hp, hw⟩ | ⟨v, _, hf⟩
  · unfold PtsLe at hp
    have hz : (ps.map (·.length)).sum ≤ 16777216 := by omega
    simp [joinD_lst, hz, hw]
  · exact hf.elim
theorem tg_bind {α β : Type} {a : α} {f : α → Option β} : (some a).bind f = f a := rfl
theorem firm_spec {T : Tg} (ok : TgOk T) (s : List Nat) (hs : s.length ≤ 800000) : s_firm_and_rest [fz (tgD T), fz (.str s)] = some (fz (.tup [.str (firmW T s).1, .str (firmW T s).2]), []) := by
  simp [s_firm_and_rest_eq, d_firm_and_rest]
  generalize hF : sWh _ _ _ = F
  obtain ⟨o, e, rfl, h⟩ := sWhT hF (fun m env => ∃ n ps a b, env = [some (fz (tgD T)), some (fz (.str s)), some (ow (.lst (txtL ps))), some (fz (.int (n : Nat))), a, b] ∧ m = s.length - n ∧ n ≤ s.length ∧ PtsLe ps n ∧ ps.flatten ++ (firmW T (s.drop n)).1 = (firmW T s).1 ∧ (firmW T (s.drop n)).2 = (firmW T s).2)
    (fun env => ∃ n ps a b, env = [some (fz (tgD T)), some (fz (.str s)), some (ow (.lst (txtL ps))), some (fz (.int (n : Nat))), a, b] ∧ n ≤ s.length ∧ PtsLe ps n ∧ ps.flatten = (firmW T s).1 ∧ s.drop n = (firmW T s).2) (fun _ _ => False) s.length ⟨0, [], none, none, rfl, by omega, by omega, by simp [PtsLe], by simp, by simp⟩ (by
    rintro m env ⟨n, ps, a, b, rfl, rfl, hn, hp, hw, hw2⟩
    by_cases h : n < s.length
    · have hne : s.drop n ≠ [] := fun z => by have := congrArg List.length z; simp at this; omega
      have eg := grow_spec T ok.few (s.drop n)
      have c : 0 ≤ (n : Int) := by omega
      cases hg : growW T (s.drop n) with
      | true =>
        rw [hg] at eg
        rw [firmW_stop (.inr hg)] at hw hw2
        exact ⟨false, _, by simp [h, eg]; exact rfl, by rw [if_neg (by simp)]; exact ⟨n, ps, _, _, rfl, hn, hp, by simpa using hw, hw2⟩⟩
      | false =>
      rw [hg] at eg
      obtain ⟨t1, t2, t3⟩ := takenW_ok ok hne
      have t4 := pre_len t2
      rw [List.length_drop] at t4
      have e := taken_spec T s h
      have hst := firmW_step ok hne hg
      rw [List.drop_drop] at hst
      refine ⟨true, _, by simp [h, eg]; exact rfl, ?_⟩
      rw [if_pos rfl]
      generalize takenW T (s.drop n) = t at *
      have hz : ps.length < sizeLine := by rw [sizeL]; have := hp.2; omega
      simp [e, hz]
      rw [hst] at hw hw2
      refine ⟨s.length - (n + t.1.length), by omega, n + t.1.length, ps ++ [t.2], ⟨by simp, by omega⟩, rfl, by omega, hp.add t1 t3, ?_, hw2⟩
      rw [← hw]
      simp
    · have e0 : n = s.length := by omega
      subst e0
      rw [List.drop_length, firmW_stop (.inl rfl)] at hw hw2
      exact ⟨false, _, by simp; exact rfl, by rw [if_neg (by simp)]; exact ⟨_, ps, _, _, rfl, hn, hp, by simpa using hw, by rw [List.drop_length]; exact hw2⟩⟩)
  rcases h with ⟨rfl, n, ps, a, b, rfl, hn, hp, hw, hw2⟩ | ⟨v, _, hf⟩
  · have hz : (ps.map (·.length)).sum ≤ 16777216 := by have := hp.1; omega
    simp [joinD_lst, hz, hw, hw2]
  · exact hf.elim
theorem chainw_spec {C : List Tg} (ok : PtC C) (s : List Nat) (hs : s.length ≤ 100) : s_chain_written [fz (.tup (C.map tgD)), fz (.str s)] = some (fz (.str (chainW C s)), []) ∧ (chainW C s).length ≤ 2700 := by
  simp [s_chain_written_eq, d_chain_written]
  generalize hF : forL _ _ _ _ = F
  obtain ⟨e, rfl, x, rfl, hb⟩ := forA hF (fun j env => ∃ x, env = [some (fz (.tup (C.map tgD))), some (fz (.str s)), some (fz (.str (chainW (C.take j) s))), x] ∧ (chainW (C.take j) s).length ≤ 3 ^ j * 100) ⟨_, rfl, by simpa [chainW] using hs⟩ (by
    rintro j T e hT ⟨x, rfl, hb⟩
    have ht : chainW (C.take (j + 1)) s = writW T (chainW (C.take j) s) := by
      unfold chainW
      rw [List.take_add_one, hT, List.foldl_append]
      rfl
    have hT' := List.mem_of_getElem? hT
    have hj : j < 3 := by
      have := (List.getElem?_eq_some_iff.mp hT).1
      have := ok.2
      omega
    have h9 : 3 ^ j ≤ 9 := by
      have := Nat.pow_le_pow_right (n := 3) (by omega) (show j ≤ 2 by omega)
      omega
    rw [ht]
    generalize chainW (C.take j) s = d at *
    have e := written_spec (ok.1 T hT') d (by omega)
    have := writW_len3 (ok.1 T hT') (ok.3 T hT') d
    simp [e]
    rw [Nat.pow_succ]
    omega)
  rw [List.take_length] at hb ⊢
  refine ⟨by simp, Nat.le_trans hb ?_⟩
  have h9 : 3 ^ C.length ≤ 3 ^ 3 := Nat.pow_le_pow_right (by omega) ok.2
  omega
end Wk
end

section
/-! P18: chains and the law's own going. -/
namespace Wk
open PySem PySem.Spec PyProof.Rows L2
theorem dataL_bls {α : Type} (f : α → Bool) (l : List α) : dataL (l.map fun a => D.bl (f a)) = true := by
  induction l with
  | nil => rfl
  | cons x l ih => simp [dataL, dataD, ih]
theorem depL_bls {α : Type} (f : α → Bool) (l : List α) : depL (l.map fun a => D.bl (f a)) = 0 := by
  induction l with
  | nil => rfl
  | cons x l ih => simp [depL, depD, ih]
theorem inOk_bls {α : Type} (f : α → Bool) (b : Bool) (l : List α) : inOk (.bl b) (l.map fun a => D.bl (f a)) = true := by
  unfold inOk
  rw [dataL_bls, depL_bls]
  simp [dataD, depD]
theorem memB_bls {α : Type} (f : α → Bool) (b : Bool) (l : List α) : memB (.bl b) (l.map fun a => D.bl (f a)) = l.any fun a => f a == b := by
  unfold memB
  rw [List.any_map]
  simp [Function.comp_def]
theorem stepW_cons {C : List Tg} {R : List (List Nat)} {j : Nat} {T : Tg} {r d : List Nat} (hT : C[j]? = some T) (hr : R[j]? = some r) :
    stepW (C.drop j) (R.drop j) d = ((stepW (C.drop (j + 1)) (R.drop (j + 1)) (firmW T (r ++ d)).1).1, (firmW T (r ++ d)).2 :: (stepW (C.drop (j + 1)) (R.drop (j + 1)) (firmW T (r ++ d)).1).2) := by
  obtain ⟨h1, h2⟩ := List.getElem?_eq_some_iff.mp hT
  obtain ⟨h3, h4⟩ := List.getElem?_eq_some_iff.mp hr
  rw [List.drop_eq_getElem_cons h1, List.drop_eq_getElem_cons h3, h2, h4]
  rfl
theorem endW_cons {C : List Tg} {R : List (List Nat)} {j : Nat} {T : Tg} {r d : List Nat} (hT : C[j]? = some T) (hr : R[j]? = some r) :
    endW (C.drop j) (R.drop j) d = endW (C.drop (j + 1)) (R.drop (j + 1)) (writW T (r ++ d)) := by
  obtain ⟨h1, h2⟩ := List.getElem?_eq_some_iff.mp hT
  obtain ⟨h3, h4⟩ := List.getElem?_eq_some_iff.mp hr
  rw [List.drop_eq_getElem_cons h1, List.drop_eq_getElem_cons h3, h2, h4]
  rfl
theorem stepW_nil (d : List Nat) : stepW [] [] d = (d, []) := rfl
theorem zip_get {C : List Tg} {R : List (List Nat)} (he : R.length = C.length) {j : Nat} {d : D} (h : (zipL (C.map tgD) (txtL R))[j]? = some d) : ∃ T r, C[j]? = some T ∧ R[j]? = some r ∧ d = .tup [tgD T, .str r] := by
  unfold zipL at h
  obtain ⟨x, y, h1, h2, h3⟩ := List.getElem?_zipWith_eq_some.mp h
  rw [List.getElem?_map] at h1 h2
  obtain ⟨T, hT, rfl⟩ := Option.map_eq_some_iff.mp h1
  obtain ⟨r, hr, rfl⟩ := Option.map_eq_some_iff.mp h2
  exact ⟨T, r, hT, hr, h3.symm⟩
theorem zip_len {C : List Tg} {R : List (List Nat)} (he : R.length = C.length) : (zipL (C.map tgD) (txtL R)).length = C.length := by
  unfold zipL
  simp [he]
theorem seven {j n : Nat} (h : j < n) (hn : n ≤ 3) : 7 ^ j ≤ 49 := Nat.pow_le_pow_right (n := 7) (by omega) (show j ≤ 2 by omega)
theorem behindt_spec {C : List Tg} (ok : PtC C) {R : List (List Nat)} (he : R.length = C.length) (hR : ∀ r ∈ R, r.length ≤ 3000) (s : List Nat) (hs : s.length ≤ 3000) :
    s_behind_text [fz (.tup (C.map tgD)), fz (.tup (txtL R)), fz (.str s)] = some (fz (.tup [.str (stepW C R s).1, .tup (txtL (stepW C R s).2)]), []) := by
  simp [s_behind_text_eq, d_behind_text]
  generalize hF : forL _ _ _ _ = F
  obtain ⟨e, rfl, f, fd, a, b, c, rfl, h1, h2, h3, h4⟩ := forN hF (fun j env => ∃ f fd a b c, env = [some (fz (.tup (C.map tgD))), some (fz (.tup (txtL R))), some (fz (.str s)), some (fz (.str f)), some (ow (.lst (txtL fd))), a, b, c] ∧
    (stepW (C.drop j) (R.drop j) f).1 = (stepW C R s).1 ∧ fd ++ (stepW (C.drop j) (R.drop j) f).2 = (stepW C R s).2 ∧ fd.length ≤ j ∧ f.length ≤ 3000 * 7 ^ j) ⟨_, [], _, _, _, rfl, rfl, by simp, by simp, by simpa using hs⟩ (by
    rintro j d e hd ⟨f, fd, a, b, c, rfl, h1, h2, h3, h4⟩
    obtain ⟨T, r, hT, hr, rfl⟩ := zip_get he hd
    rw [stepW_cons hT hr] at h1 h2
    have hj := seven (List.getElem?_eq_some_iff.mp hT).1 ok.2
    have hj1 : 1 ≤ 7 ^ j := Nat.one_le_pow _ _ (by omega)
    have hrl := hR r (List.mem_of_getElem? hr)
    have okT := ok.1 T (List.mem_of_getElem? hT)
    have e1 := firm_spec okT (r ++ f) (by rw [List.length_append]; omega)
    have e2 := (firmW_len3 okT (ok.3 T (List.mem_of_getElem? hT)) (r ++ f)).1
    have hj3 := (List.getElem?_eq_some_iff.mp hT).1
    rw [List.length_append] at e2
    generalize firmW T (r ++ f) = q at *
    have hz : fd.length < sizeLine := by rw [sizeL]; have := ok.2; omega
    have hz2 : r.length + f.length ≤ sizeLine := by rw [sizeL]; omega
    simp [e1, hz, hz2]
    refine ⟨_, fd ++ [q.2], ⟨rfl, by simp⟩, h1, by simpa using h2, by simp; omega, ?_⟩
    rw [Nat.pow_succ]
    omega)
  rw [zip_len he] at h1 h2 h3 h4
  rw [List.drop_length, ← he, List.drop_length, stepW_nil] at h1 h2
  simp at h2
  subst h1 h2
  have hz : (stepW C R s).2.length ≤ sizeLine := by rw [sizeL]; have := ok.2; omega
  simp [hz]
theorem end_spec {C : List Tg} (ok : PtC C) {R : List (List Nat)} (he : R.length = C.length) (hR : ∀ r ∈ R, r.length ≤ 3000) :
    s_end_of_rests [fz (.tup (C.map tgD)), fz (.tup (txtL R))] = some (fz (.str (endW C R [])), []) := by
  simp [s_end_of_rests_eq, d_end_of_rests]
  generalize hF : forL _ _ _ _ = F
  obtain ⟨e, rfl, f, a, b, rfl, h1, h4⟩ := forN hF (fun j env => ∃ f a b, env = [some (fz (.tup (C.map tgD))), some (fz (.tup (txtL R))), some (fz (.str f)), a, b] ∧
    endW (C.drop j) (R.drop j) f = endW C R [] ∧ f.length ≤ 3000 * 7 ^ j) ⟨_, _, _, rfl, rfl, by simp⟩ (by
    rintro j d e hd ⟨f, a, b, rfl, h1, h4⟩
    obtain ⟨T, r, hT, hr, rfl⟩ := zip_get he hd
    rw [endW_cons hT hr] at h1
    have hj := seven (List.getElem?_eq_some_iff.mp hT).1 ok.2
    have hj1 : 1 ≤ 7 ^ j := Nat.one_le_pow _ _ (by omega)
    have hrl := hR r (List.mem_of_getElem? hr)
    have okT := ok.1 T (List.mem_of_getElem? hT)
    have e1 := written_spec okT (r ++ f) (by rw [List.length_append]; omega)
    have e2 := writW_len3 okT (ok.3 T (List.mem_of_getElem? hT)) (r ++ f)
    rw [List.length_append] at e2
    have hz2 : r.length + f.length ≤ sizeLine := by rw [sizeL]; omega
    simp [e1, hz2]
    refine ⟨h1, ?_⟩
    rw [Nat.pow_succ]
    omega)
  rw [zip_len he, List.drop_length, ← he, List.drop_length] at h1
  subst h1
  simp [endW]
/-- how long they are -/
theorem stepW_len : ∀ {C : List Tg} (ok : ∀ T ∈ C, TgOk T) (to3 : ∀ T ∈ C, To3 T) (x : List Nat), (stepW C (List.replicate C.length []) x).1.length ≤ 3 ^ C.length * x.length ∧ (stepW C (List.replicate C.length []) x).2.length = C.length ∧ ∀ r ∈ (stepW C (List.replicate C.length []) x).2, r.length ≤ 3 ^ C.length * x.length
  | [], _, _, x => ⟨by simp [stepW], rfl, fun r h => by simp [stepW] at h⟩
  | T :: C, ok, to3, x => by
    obtain ⟨h1, h2⟩ := firmW_len3 (ok T List.mem_cons_self) (to3 T List.mem_cons_self) x
    obtain ⟨i1, i2, i3⟩ := stepW_len (C := C) (fun U hU => ok U (List.mem_cons_of_mem _ hU)) (fun U hU => to3 U (List.mem_cons_of_mem _ hU)) (firmW T x).1
    have e : stepW (T :: C) (List.replicate (T :: C).length []) x = ((stepW C (List.replicate C.length []) (firmW T x).1).1, (firmW T x).2 :: (stepW C (List.replicate C.length []) (firmW T x).1).2) := rfl
    have b : 3 ^ C.length * (firmW T x).1.length ≤ 3 ^ (T :: C).length * x.length := by
      rw [List.length_cons, Nat.pow_succ, Nat.mul_assoc]
      exact Nat.mul_le_mul_left _ h1
    have b2 : x.length ≤ 3 ^ (T :: C).length * x.length := Nat.le_mul_of_pos_left _ (Nat.pow_pos (by omega))
    rw [e]
    refine ⟨Nat.le_trans i1 b, by simp [i2], fun r hr => ?_⟩
    rcases List.mem_cons.mp hr with rfl | hr
    · omega
    · exact Nat.le_trans (i3 r hr) b
theorem state_spec {C : List Tg} (ok : PtC C) (h0 : C ≠ []) (s : List Nat) (hs : s.length ≤ 3000) :
    s_chain_state [fz (.tup (C.map tgD)), fz (.str s)] = some (fz (.tup [.str (stepW C (List.replicate C.length []) s).1, .tup (txtL (stepW C (List.replicate C.length []) s).2)]), []) := by
  have hp : 0 < C.length := List.length_pos_iff.mpr h0
  have e := behindt_spec ok (R := List.replicate C.length []) (by simp) (fun r hr => by rw [(List.mem_replicate.mp hr).2]; simp) s hs
  have e2 : (List.replicate C.length [D.str []]).flatten = txtL (List.replicate C.length []) := by simp [List.map_replicate, List.flatten_replicate_singleton]
  have e1 : s_no_rests [fz (.tup (C.map tgD))] = some (fz (.tup (txtL (List.replicate C.length []))), []) := by
    have c1 : (1 : Int) ≤ (C.length : Int) := by omega
    have c2 : (C.length : Int) ≤ 1000 := by have := ok.2; omega
    simp only [s_no_rests_eq, d_no_rests]
    simp [c1, c2, e2]
  generalize stepW C (List.replicate C.length []) s = q at *
  generalize List.replicate C.length ([] : List Nat) = R at *
  simp [s_chain_state_eq, d_chain_state, e1, e]
end Wk
end

section
/-! P19: the law's own writing. -/
namespace Wk
open PySem PySem.Spec PyProof.Rows L2
def szW (f : Option Pr) : Nat := f.elim 0 fun p => p.1.length
def gvW (s : List Nat) (f : Option Pr) : List Nat := f.elim (s.take 1) (·.2)
theorem ltaken_spec {T : Tg} (ok : TgOk T) {s : List Nat} (hs : s ≠ []) : s__law_first_taken [fz (tgD T), fz (.str s)] = some (ow (.lst [.str (takenW T s).1, .str (takenW T s).2]), []) := by
  have e0 : ixD (.str s) (.int 0) = some (fz (.str (s.take 1))) := by
    cases s with
    | nil => exact absurd rfl hs
    | cons c s => simp [atI_of (show (0 : Int) ≤ 0 by omega)]
  simp [s__law_first_taken_eq, d__law_first_taken, -ixD_str, e0]
  generalize hF : forL _ _ _ _ = F
  obtain ⟨e, rfl, x, y, rfl⟩ := forA hF (fun j env => ∃ x y, env = [some (fz (tgD T)), some (fz (.str s)), some (fz (.int (szW (lpW (T.take j) s) : Nat))), some (fz (.str (gvW s (lpW (T.take j) s)))), x, y]) ⟨_, _, rfl⟩ (by
    rintro j p e hp ⟨x, y, rfl⟩
    rw [lpW_take hp]
    have h1 := ok.one p (List.mem_of_getElem? hp)
    generalize lpW (T.take j) s = f
    have hq : p.1.isPrefixOf s = decide (s.take p.1.length = p.1) := by
      rw [Bool.eq_iff_iff, List.isPrefixOf_iff_prefix, List.prefix_iff_eq_take, decide_eq_true_iff]
      exact eq_comm
    have hc : (f.all fun q => decide (q.1.length < p.1.length)) = decide (szW f < p.1.length) := by
      cases f with
      | none =>
        show true = decide (0 < p.1.length)
        rw [decide_eq_true (by omega)]
      | some q => rfl
    unfold lpS
    rw [hq, hc]
    by_cases h2 : szW f < p.1.length
    · by_cases h3 : s.take p.1.length = p.1
      · simp [h2, h3]
        exact ⟨rfl, rfl⟩
      · simp [h2, h3]
    · simp [h2])
  rw [List.take_length]
  have e1 : cutL s none (some (max 1 ((szW (lpW T s) : Nat) : Int))) = (takenW T s).1 := by
    have : max 1 ((szW (lpW T s) : Nat) : Int) = ((max 1 (szW (lpW T s)) : Nat) : Int) := by omega
    rw [this, cutL_toN]
    unfold takenW
    cases h : lpW T s with
    | none => rfl
    | some p =>
      obtain ⟨h1, h2⟩ := lpW_mem h
      have h3 := ok.one p h1
      have : max 1 (szW (some p)) = p.1.length := by simp [szW]; omega
      rw [this]
      exact (List.prefix_iff_eq_take.mp (List.isPrefixOf_iff_prefix.mp h2)).symm
  have e2 : gvW s (lpW T s) = (takenW T s).2 := by
    unfold takenW
    cases h : lpW T s with
    | none => rfl
    | some p => rfl
  simp [e1, e2]
theorem lwritten_spec {T : Tg} (ok : TgOk T) (s : List Nat) (hs : s.length ≤ 800000) : s__law_written [fz (tgD T), fz (.str s)] = some (fz (.str (writW T s)), []) := by
  have c1 : (s.length : Int) < 4611686018427387904 := by omega
  have c2 : -4611686018427387904 ≤ (s.length : Int) := by omega
  simp [s__law_written_eq, d__law_written, c1, c2]
  generalize hF : forL _ _ _ _ = F
  obtain ⟨o, e, rfl, h⟩ := forG hF (fun j env => ∃ d l x a b, env = [some (fz (tgD T)), some (fz (.str s)), some (fz (.str d)), some (fz (.str l)), x, a, b] ∧ d ++ writW T l = writW T s ∧ l.length ≤ s.length - j ∧ d.length + 20 * l.length ≤ 20 * s.length)
    (fun env => ∃ x y a b, env = [some (fz (tgD T)), some (fz (.str s)), some (fz (.str (writW T s))), y, x, a, b]) (fun _ _ => False) ⟨_, _, _, _, _, rfl, rfl, by omega, by simp⟩ (by
    rintro j d e hd ⟨d, l, x, a, b, rfl, h1, h2, h3⟩
    obtain ⟨hj, rfl⟩ := intsFrom_get hd
    by_cases hl : l = []
    · subst hl
      rw [writW_nil, List.append_nil] at h1
      simp [h1]
    · have e := ltaken_spec ok hl
      rw [writW_step ok hl] at h1
      obtain ⟨t1, t2, t3⟩ := takenW_ok ok hl
      have t4 := pre_len t2
      have hz : d.length + (takenW T l).2.length ≤ sizeLine := by rw [sizeL]; omega
      simp [hl, e, hz]
      refine ⟨_, _, ⟨rfl, rfl⟩, by simpa using h1, by rw [List.length_drop]; omega, by rw [List.length_drop, List.length_append]; omega⟩)
  rcases h with ⟨rfl, h⟩ | ⟨v, _, hf⟩
  · rcases h with ⟨d, l, x, a, b, rfl, h1, h2, h3⟩ | ⟨x, y, a, b, rfl⟩
    · rw [intsFrom_len'] at h2
      have hl : l = [] := List.eq_nil_of_length_eq_zero (by omega)
      subst hl
      rw [writW_nil, List.append_nil] at h1
      simp [h1]
    · simp
  · exact hf.elim
theorem lfirm_spec {T : Tg} (ok : TgOk T) (s : List Nat) (hs : s.length ≤ 800000) : s__law_firm [fz (tgD T), fz (.str s)] = some (ow (.lst [.str (firmW T s).1, .str (firmW T s).2]), []) := by
  have c1 : (s.length : Int) < 4611686018427387904 := by omega
  have c2 : -4611686018427387904 ≤ (s.length : Int) := by omega
  have hzT : T.length ≤ sizeLine := by rw [sizeL]; have := ok.few; omega
  simp [s__law_firm_eq, d__law_firm, c1, c2]
  generalize hF : forL _ _ _ _ = F
  obtain ⟨o, e, rfl, h⟩ := forG hF (fun j env => ∃ d l x y z a b, env = [some (fz (tgD T)), some (fz (.str s)), some (fz (.str d)), some (fz (.str l)), x, y, z, a, b] ∧ d ++ (firmW T l).1 = (firmW T s).1 ∧ (firmW T l).2 = (firmW T s).2 ∧ l.length ≤ s.length - j ∧ d.length + 20 * l.length ≤ 20 * s.length)
    (fun env => ∃ x y z a b, env = [some (fz (tgD T)), some (fz (.str s)), some (fz (.str (firmW T s).1)), some (fz (.str (firmW T s).2)), x, y, z, a, b]) (fun _ _ => False) ⟨_, _, _, _, _, _, _, rfl, rfl, rfl, by omega, by simp⟩ (by
    rintro j d e hd ⟨d, l, x, y, z, a, b, rfl, h1, h0, h2, h3⟩
    obtain ⟨hj, rfl⟩ := intsFrom_get hd
    have hw : ∀ env, env = [some (fz (tgD T)), some (fz (.str s)), some (fz (.str d)), some (fz (.str l)), some (fz (.int (0 + j))), none, z, a, b] → True := fun _ _ => trivial
    simp
    generalize hG : lcL _ _ _ _ _ _ = G
    have := lcL_mapA hG (fun p : Pr => D.bl (decide (l.length < p.1.length) && l.isPrefixOf p.1)) (by
      intro p hp
      have hq : l.isPrefixOf p.1 = decide (p.1.take l.length = l) := by
        rw [Bool.eq_iff_iff, List.isPrefixOf_iff_prefix, List.prefix_iff_eq_take, decide_eq_true_iff]
        exact eq_comm
      rw [hq]
      by_cases h : l.length < p.1.length
      · by_cases h' : p.1.take l.length = l
        · simp [h, h']
        · simp [h, h']
      · simp [h])
    subst this
    have i1 := inOk_bls (fun p : Pr => decide (l.length < p.1.length) && l.isPrefixOf p.1) true T
    have i2 := memB_bls (fun p : Pr => decide (l.length < p.1.length) && l.isPrefixOf p.1) true T
    have i3 : (T.any fun p : Pr => (decide (l.length < p.1.length) && l.isPrefixOf p.1) == true) = growW T l := by
      unfold growW
      congr 1
      funext p
      simp
    rw [i3] at i2
    by_cases hl : l = []
    · subst hl
      rw [firmW_stop (.inl rfl), List.append_nil] at h1
      rw [firmW_stop (.inl rfl)] at h0
      simp at h0
      simp [hzT, h1, h0]
    cases hg : growW T l with
    | true =>
      rw [firmW_stop (.inr hg), List.append_nil] at h1
      rw [firmW_stop (.inr hg)] at h0
      simp at h0
      rw [hg] at i2
      simp [hzT, hl, i1, i2]
      exact ⟨h1, h0⟩
    | false =>
      rw [hg] at i2
      have e := ltaken_spec ok hl
      rw [firmW_step ok hl hg] at h1 h0
      obtain ⟨t1, t2, t3⟩ := takenW_ok ok hl
      have t4 := pre_len t2
      have hz : d.length + (takenW T l).2.length ≤ sizeLine := by rw [sizeL]; omega
      simp [hzT, hl, i1, i2, e, hz]
      refine ⟨_, _, ⟨rfl, rfl⟩, by simpa using h1, h0, by rw [List.length_drop]; omega, by rw [List.length_drop, List.length_append]; omega⟩)
  rcases h with ⟨rfl, h⟩ | ⟨v, _, hf⟩
  · rcases h with ⟨d, l, x, y, z, a, b, rfl, h1, h0, h2, h3⟩ | ⟨x, y, z, a, b, rfl⟩
    · rw [intsFrom_len'] at h2
      have hl : l = [] := List.eq_nil_of_length_eq_zero (by omega)
      subst hl
      rw [firmW_stop (.inl rfl), List.append_nil] at h1
      rw [firmW_stop (.inl rfl)] at h0
      simp at h0
      simp [h1, h0]
    · simp
  · exact hf.elim
theorem lchain_spec {C : List Tg} (ok : PtC C) (s : List Nat) (hs : s.length ≤ 100) : s__law_chain_written [fz (.tup (C.map tgD)), fz (.str s)] = some (fz (.str (chainW C s)), []) := by
  simp [s__law_chain_written_eq, d__law_chain_written]
  generalize hF : forL _ _ _ _ = F
  obtain ⟨e, rfl, x, rfl, hb⟩ := forA hF (fun j env => ∃ x, env = [some (fz (.tup (C.map tgD))), some (fz (.str s)), some (fz (.str (chainW (C.take j) s))), x] ∧ (chainW (C.take j) s).length ≤ 3 ^ j * 100) ⟨_, rfl, by simpa [chainW] using hs⟩ (by
    rintro j T e hT ⟨x, rfl, hb⟩
    have ht : chainW (C.take (j + 1)) s = writW T (chainW (C.take j) s) := by
      unfold chainW
      rw [List.take_add_one, hT, List.foldl_append]
      rfl
    have hT' := List.mem_of_getElem? hT
    have hj : j < 3 := by
      have := (List.getElem?_eq_some_iff.mp hT).1
      have := ok.2
      omega
    have h9 : 3 ^ j ≤ 9 := by
      have := Nat.pow_le_pow_right (n := 3) (by omega) (show j ≤ 2 by omega)
      omega
    rw [ht]
    generalize chainW (C.take j) s = d at *
    have e := lwritten_spec (ok.1 T hT') d (by omega)
    have := writW_len3 (ok.1 T hT') (ok.3 T hT') d
    simp [e]
    rw [Nat.pow_succ]
    omega)
  rw [List.take_length]
  simp
theorem lend_spec {C : List Tg} (ok : PtC C) {R : List (List Nat)} (he : R.length = C.length) (hR : ∀ r ∈ R, r.length ≤ 3000) :
    s__law_end [fz (.tup (C.map tgD)), fz (.tup (txtL R))] = some (fz (.str (endW C R [])), []) := by
  have c1 : (C.length : Int) < 4611686018427387904 := by have := ok.2; omega
  have c2 : -4611686018427387904 ≤ (C.length : Int) := by omega
  simp [s__law_end_eq, d__law_end, c1, c2]
  generalize hF : forL _ _ _ _ = F
  obtain ⟨e, rfl, f, a, rfl, h1, h4⟩ := forN hF (fun j env => ∃ f a, env = [some (fz (.tup (C.map tgD))), some (fz (.tup (txtL R))), some (fz (.str f)), a] ∧
    endW (C.drop j) (R.drop j) f = endW C R [] ∧ f.length ≤ 3000 * 7 ^ j) ⟨_, _, rfl, rfl, by simp⟩ (by
    rintro j d e hd ⟨f, a, rfl, h1, h4⟩
    obtain ⟨hj, rfl⟩ := intsFrom_get hd
    have hjc : j < C.length := by omega
    have hjr : j < R.length := by omega
    have hT : C[j]? = some C[j] := List.getElem?_eq_getElem hjc
    have hr : R[j]? = some R[j] := List.getElem?_eq_getElem hjr
    generalize C[j] = T at *
    generalize R[j] = r at *
    rw [endW_cons hT hr] at h1
    have hj := seven (List.getElem?_eq_some_iff.mp hT).1 ok.2
    have hj1 : 1 ≤ 7 ^ j := Nat.one_le_pow _ _ (by omega)
    have hrl := hR r (List.mem_of_getElem? hr)
    have okT := ok.1 T (List.mem_of_getElem? hT)
    have e1 := lwritten_spec okT (r ++ f) (by rw [List.length_append]; omega)
    have e2 := writW_len3 okT (ok.3 T (List.mem_of_getElem? hT)) (r ++ f)
    rw [List.length_append] at e2
    have hz2 : r.length + f.length ≤ sizeLine := by rw [sizeL]; omega
    simp [atI_of, hT, hr, e1, hz2]
    refine ⟨h1, ?_⟩
    rw [Nat.pow_succ]
    omega)
  rw [intsFrom_len'] at h1
  simp at h1
  rw [← he, List.drop_length] at h1
  subst h1
  simp [endW]
theorem lstep_spec {C : List Tg} (ok : PtC C) {R : List (List Nat)} (he : R.length = C.length) (hR : ∀ r ∈ R, r.length ≤ 3000) (s : List Nat) (hs : s.length ≤ 3000) :
    s__law_step [fz (.tup (C.map tgD)), fz (.tup (txtL R)), fz (.str s)] = some (ow (.lst [.str (stepW C R s).1, .tup (txtL (stepW C R s).2)]), []) := by
  have c1 : (C.length : Int) < 4611686018427387904 := by have := ok.2; omega
  have c2 : -4611686018427387904 ≤ (C.length : Int) := by omega
  simp [s__law_step_eq, d__law_step, c1, c2]
  generalize hF : forL _ _ _ _ = F
  obtain ⟨e, rfl, f, fd, a, b, rfl, h1, h2, h3, h4⟩ := forN hF (fun j env => ∃ f fd a b, env = [some (fz (.tup (C.map tgD))), some (fz (.tup (txtL R))), some (fz (.str s)), some (fz (.str f)), some (ow (.lst (txtL fd))), a, b] ∧
    (stepW (C.drop j) (R.drop j) f).1 = (stepW C R s).1 ∧ fd ++ (stepW (C.drop j) (R.drop j) f).2 = (stepW C R s).2 ∧ fd.length ≤ j ∧ f.length ≤ 3000 * 7 ^ j) ⟨_, [], _, _, rfl, rfl, by simp, by simp, by simpa using hs⟩ (by
    rintro j d e hd ⟨f, fd, a, b, rfl, h1, h2, h3, h4⟩
    obtain ⟨hj, rfl⟩ := intsFrom_get hd
    have hjc : j < C.length := by omega
    have hjr : j < R.length := by omega
    have hT : C[j]? = some C[j] := List.getElem?_eq_getElem hjc
    have hr : R[j]? = some R[j] := List.getElem?_eq_getElem hjr
    generalize C[j] = T at *
    generalize R[j] = r at *
    rw [stepW_cons hT hr] at h1 h2
    have hj := seven (List.getElem?_eq_some_iff.mp hT).1 ok.2
    have hj1 : 1 ≤ 7 ^ j := Nat.one_le_pow _ _ (by omega)
    have hrl := hR r (List.mem_of_getElem? hr)
    have okT := ok.1 T (List.mem_of_getElem? hT)
    have e1 := lfirm_spec okT (r ++ f) (by rw [List.length_append]; omega)
    have e2 := (firmW_len3 okT (ok.3 T (List.mem_of_getElem? hT)) (r ++ f)).1
    have hj3 := (List.getElem?_eq_some_iff.mp hT).1
    rw [List.length_append] at e2
    generalize firmW T (r ++ f) = q at *
    have hz : fd.length < sizeLine := by rw [sizeL]; have := ok.2; omega
    have hz2 : r.length + f.length ≤ sizeLine := by rw [sizeL]; omega
    simp [atI_of, hT, hr, e1, hz, hz2]
    refine ⟨_, fd ++ [q.2], ⟨rfl, by simp⟩, h1, by simpa using h2, by simp; omega, ?_⟩
    rw [Nat.pow_succ]
    omega)
  rw [intsFrom_len'] at h1 h2 h3 h4
  simp at h1 h2 h3
  rw [← he, List.drop_length, stepW_nil] at h1 h2
  simp at h2
  subst h1 h2
  have hz : (stepW C R s).2.length ≤ sizeLine := by rw [sizeL]; have := ok.2; omega
  simp [hz]
end Wk
end

section
/-! P20: tongues and texts that the law makes. -/
namespace Wk
open PySem PySem.Spec PyProof.Rows L2
structure Fro (m : Nat) (fr : List (List Nat)) : Prop where
  one : ∀ f ∈ fr, 1 ≤ f.length
  few : ∀ f ∈ fr, f.length ≤ m
  az : ∀ f ∈ fr, AZ f
  nd : fr.Nodup
theorem Fro.nil (m : Nat) : Fro m [] := ⟨by simp, by simp, by simp, by simp⟩
theorem Fro.add {m : Nat} {fr : List (List Nat)} (h : Fro m fr) {f : List Nat} (h1 : 1 ≤ f.length) (h2 : f.length ≤ m) (h3 : AZ f) (h4 : f ∉ fr) : Fro m (fr ++ [f]) where
  one g hg := (List.mem_append.mp hg).elim (h.one g) fun hg => by rw [List.mem_singleton.mp hg]; exact h1
  few g hg := (List.mem_append.mp hg).elim (h.few g) fun hg => by rw [List.mem_singleton.mp hg]; exact h2
  az g hg := (List.mem_append.mp hg).elim (h.az g) fun hg => by rw [List.mem_singleton.mp hg]; exact h3
  nd := by
    rw [List.nodup_append]
    exact ⟨h.nd, by simp, fun a ha b hb => by rw [List.mem_singleton.mp hb]; exact fun e => h4 (e ▸ ha)⟩
/-- a tongue of at most n pairs of texts of at most m letters -/
structure TgX (n m : Nat) (T : Tg) : Prop where
  fro : Fro m (T.map (·.1))
  to : ∀ p ∈ T, p.2.length ≤ m
  toaz : ∀ p ∈ T, AZ p.2
  few : T.length ≤ n
theorem TgX.ok {n m : Nat} {T : Tg} (h : TgX n m T) (hn : n ≤ 1000) (hm : m ≤ 20) : TgOk T where
  one p hp := h.fro.one p.1 (List.mem_map_of_mem hp)
  fr p hp := Nat.le_trans (h.fro.few p.1 (List.mem_map_of_mem hp)) hm
  to p hp := Nat.le_trans (h.to p hp) hm
  few := Nat.le_trans h.few hn
@[simp] theorem clean_tg (T : Tg) : cleanV (fz (tgD T)) = true := by
  have : immL (tgL T) = true := by
    induction T with
    | nil => rfl
    | cons p T ih => simp [immL, imm, ih]
  simpa [cleanV, imm] using this
theorem tongue_spec {ls : List (List Nat)} (hl : Lets ls) (ns : List Int) {n m : Nat} (hn : n ≤ 100) (h1 : 1 ≤ m) (h2 : m ≤ 100) :
    ∃ T ns', TgX n m T ∧ s__law_tongue [ow (nums ns), fz (.lst (txtL ls)), fz (.int (n : Nat)), fz (.int (m : Nat))] = some (fz (tgD T), [ow (nums ns')]) := by
  obtain ⟨r, ns1, r0, r1, e1⟩ := take_spec ns (m := (n : Int) + 1) (by omega)
  have c1 : -4611686018427387904 ≤ r := by omega
  have c2 : r < 4611686018427387904 := by omega
  simp [s__law_tongue_eq, d__law_tongue, e1, c1, c2]
  generalize hF : forL _ _ _ _ = F
  obtain ⟨e, rfl, ms, fr, a, b, rfl, q1, q2⟩ := forN hF (fun j env => ∃ ms fr a b, env = [some (ow (nums ms)), some (fz (.lst (txtL ls))), some (fz (.int (n : Nat))), some (fz (.int (m : Nat))), some (ow (.lst (txtL fr))), a, none, b, none, none] ∧ Fro m fr ∧ fr.length ≤ j) ⟨_, [], _, _, rfl, .nil m, by simp⟩ (by
    rintro j d e hd ⟨ms, fr, a, b, rfl, q1, q2⟩
    obtain ⟨hj, rfl⟩ := intsFrom_get hd
    obtain ⟨t, ms1, t0, t1, e2⟩ := take_spec ms (m := (m : Int)) (by omega)
    have d1 : -4611686018427387904 ≤ 1 + t := by omega
    have d2 : 1 + t < 4611686018427387904 := by omega
    simp [e2, d1, d2]
    generalize hG : lcL _ _ _ _ _ _ = G
    obtain ⟨ss, ms2, rfl, p1, p2⟩ := picks_spec hl (mk := fun ms => [some (ow (nums ms)), some (fz (.lst (txtL ls))), some (fz (.int (n : Nat))), some (fz (.int (m : Nat))), some (ow (.lst (txtL fr))), some (fz (.int j)), none, b, none, none]) ms1 hG (by
      intro j ms ms' s e
      simp [e])
    have p1' : ∀ s ∈ ss, s.length = 1 := fun s h => hl.one s (p1 s h)
    have z1 : ss.length ≤ sizeLine := by rw [sizeL]; omega
    have z2 : (ss.map (·.length)).sum ≤ 16777216 := by rw [sum_ones p1']; omega
    have z3 : fr.length < sizeLine := by rw [sizeL]; omega
    have b1 : 1 ≤ ss.flatten.length := by rw [flat_ones p1']; omega
    have b2 : ss.flatten.length ≤ m := by rw [flat_ones p1']; omega
    have b3 : AZ ss.flatten := AZ.flat fun s h => hl.az s (p1 s h)
    simp [z1, joinD_lst, z2]
    generalize ss.flatten = w at *
    by_cases hf : 0 < fr.length
    · obtain ⟨u, ms3, u0, u1, e3⟩ := take_spec ms2 (m := 2) (by omega)
      by_cases hu : u = 0
      · subst hu
        obtain ⟨f, ms4, hf1, e4⟩ := pick_txt ms3 (ls := fr) (List.length_pos_iff.mp hf)
        obtain ⟨c, ms5, hc1, e5⟩ := pick_txt ms4 hl.ne
        have y1 := q1.one f hf1
        have y2 := q1.few f hf1
        have y3 := hl.one c hc1
        have z4 : f.length + c.length ≤ sizeLine := by rw [sizeL]; omega
        have b4 : 1 ≤ ((f ++ c).take m).length := by simp; omega
        have b5 : ((f ++ c).take m).length ≤ m := by simp; omega
        have b6 : AZ ((f ++ c).take m) := ((q1.az f hf1).app (hl.az c hc1)).take m
        simp [hf, e3, e4, e5, z4, -List.take_append]
        generalize (f ++ c).take m = w2 at *
        by_cases hw : w2 ∈ fr
        · simp [hw]
          exact ⟨_, fr, ⟨rfl, rfl⟩, q1, by omega⟩
        · simp [hw, z3]
          exact ⟨_, fr ++ [w2], ⟨rfl, by simp⟩, q1.add b4 b5 b6 hw, by simp; omega⟩
      · by_cases hw : w ∈ fr
        · simp [hf, e3, hu, hw]
          exact ⟨_, fr, ⟨rfl, rfl⟩, q1, by omega⟩
        · simp [hf, e3, hu, hw, z3]
          exact ⟨_, fr ++ [w], ⟨rfl, by simp⟩, q1.add b1 b2 b3 hw, by simp; omega⟩
    · by_cases hw : w ∈ fr
      · simp [hf, hw]
        exact ⟨_, fr, ⟨rfl, rfl⟩, q1, by omega⟩
      · simp [hf, hw, z3]
        exact ⟨_, fr ++ [w], ⟨rfl, by simp⟩, q1.add b1 b2 b3 hw, by simp; omega⟩)
  simp
  generalize hF : forL _ _ _ _ = F
  obtain ⟨e, rfl, ms', T, a, b, c, rfl, q3, q4⟩ := forA hF (fun j env => ∃ ms T a b c, env = [some (ow (nums ms)), some (fz (.lst (txtL ls))), some (fz (.int (n : Nat))), some (fz (.int (m : Nat))), some (fz (.lst (txtL fr))), a, none, b, some (ow (.lst (tgL T))), c] ∧ T.map (·.1) = fr.take j ∧ ∀ p ∈ T, p.2.length ≤ m ∧ AZ p.2) ⟨_, [], _, _, _, rfl, rfl, by simp⟩ (by
    rintro j f e hf ⟨ms, T, a, b, c, rfl, q3, q4⟩
    obtain ⟨t, ms1, t1, t2, e2⟩ := text_spec hl ms (m := (m : Int)) (by omega) (by omega)
    obtain ⟨u, ms2, u0, u1, e3⟩ := take_spec ms1 (m := 3) (by omega)
    have hT : T.length ≤ j := by
      have := congrArg List.length q3
      simp at this; omega
    have hjl := (List.getElem?_eq_some_iff.mp hf).1
    rw [intsFrom_len'] at q2
    have z1 : T.length < sizeLine := by rw [sizeL]; omega
    have fin : ∀ (w : List Nat), w.length ≤ m → AZ w → (T ++ [(f, w)]).map (·.1) = fr.take (j + 1) ∧ ∀ p ∈ T ++ [(f, w)], p.2.length ≤ m ∧ AZ p.2 := fun w w1 w2 => by
      refine ⟨by rw [List.take_add_one, hf, List.map_append, q3]; rfl, fun p hp => ?_⟩
      rcases List.mem_append.mp hp with hp | hp
      · exact q4 p hp
      · rw [List.mem_singleton.mp hp]; exact ⟨w1, w2⟩
    by_cases hu : u = 0
    · subst hu
      obtain ⟨x, ms3, hx, e4⟩ := pick_txt ms2 (ls := fr ++ [[]]) (by simp)
      have hxm : x.length ≤ m ∧ AZ x := by
        rcases List.mem_append.mp hx with hx | hx
        · exact ⟨q1.few x hx, q1.az x hx⟩
        · rw [List.mem_singleton.mp hx]; exact ⟨by simp, .nil⟩
      obtain ⟨g1, g2⟩ := fin x hxm.1 hxm.2
      have z2 : fr.length + 1 ≤ sizeLine := by rw [sizeL]; omega
      simp at e4
      simp [e2, e3, e4, z1, z2]
      exact ⟨_, T ++ [(f, x)], ⟨rfl, by simp⟩, g1, fun a b => g2 (a, b)⟩
    · obtain ⟨g1, g2⟩ := fin t (by omega) t2
      simp [e2, e3, hu, z1]
      exact ⟨_, T ++ [(f, t)], ⟨rfl, by simp⟩, g1, fun a b => g2 (a, b)⟩)
  rw [List.take_length] at q3
  rw [intsFrom_len'] at q2
  have hT : T.length = fr.length := by
    have := congrArg List.length q3
    simpa using this
  have z1 : T.length ≤ sizeLine := by rw [sizeL]; omega
  exact ⟨T, ⟨q3 ▸ q1, fun p hp => (q4 p hp).1, fun p hp => (q4 p hp).2, by omega⟩, ms', by simp [z1]⟩

/-- a text put together -/
theorem textby_spec {ls : List (List Nat)} (hl : Lets ls) (ns : List Int) {pcs : List (List Nat)} {m : Nat} (hm : m ≤ 1000) (hp : ∀ p ∈ pcs, p.length ≤ 100 ∧ AZ p) (hz : pcs.length ≤ 1000) :
    ∃ s ns', s.length ≤ m ∧ AZ s ∧ s__law_text_by [ow (nums ns), fz (.lst (txtL ls)), fz (.lst (txtL pcs)), fz (.int (m : Nat))] = some (fz (.str s), [ow (nums ns')]) := by
  obtain ⟨r, ns1, r0, r1, e1⟩ := take_spec ns (m := 7) (by omega)
  have c1 : -4611686018427387904 ≤ r := by omega
  have c2 : r < 4611686018427387904 := by omega
  simp [s__law_text_by_eq, d__law_text_by, e1, c1, c2]
  generalize hF : forL _ _ _ _ = F
  obtain ⟨e, rfl, ms, t, a, rfl, q1, q2⟩ := forN hF (fun j env => ∃ ms t a, env = [some (ow (nums ms)), some (fz (.lst (txtL ls))), some (fz (.lst (txtL pcs))), some (fz (.int (m : Nat))), some (fz (.str t)), a] ∧ t.length ≤ 100 * j ∧ AZ t) ⟨_, _, _, rfl, by simp, .nil⟩ (by
    rintro j d e hd ⟨ms, t, a, rfl, q1, q2⟩
    obtain ⟨hj, rfl⟩ := intsFrom_get hd
    obtain ⟨x, ms1, hx, e2⟩ := pick_txt ms (ls := pcs ++ ls.take 4) (by
      have := hl.ne
      cases ls with
      | nil => exact absurd rfl this
      | cons c ls => simp)
    have hx2 : x.length ≤ 100 ∧ AZ x := by
      rcases List.mem_append.mp hx with hx | hx
      · exact hp x hx
      · have := List.mem_of_mem_take hx
        exact ⟨by rw [hl.one x this]; omega, hl.az x this⟩
    have z1 : pcs.length + (ls.take 4).length ≤ sizeLine := by rw [sizeL]; have := hl.few; simp; omega
    have z2 : t.length + x.length ≤ sizeLine := by rw [sizeL]; omega
    have z3 : cutL (txtL ls) none (some 4) = txtL (ls.take 4) := by rw [cutL_to (by omega)]; simp
    have z4 : txtL pcs ++ txtL (ls.take 4) = txtL (pcs ++ ls.take 4) := by simp
    have z5 : pcs.length ≤ sizeLine := by rw [sizeL]; omega
    have z6 : ls.length ≤ sizeLine := by rw [sizeL]; have := hl.few; omega
    simp at z1 e2
    simp [z3, z1, e2, z2]
    exact ⟨_, _, ⟨rfl, rfl⟩, by rw [List.length_append]; omega, q2.app hx2.2⟩)
  simp
  exact ⟨by omega, q2.take m⟩

def frsW (C : List Tg) : List (List Nat) := (C.map fun T => T.map (·.1)).flatten
theorem frs_spec {C : List Tg} (hC : C.length ≤ 100) (hT : ∀ T ∈ C, T.length ≤ 100) : s__law_froms [fz (.tup (C.map tgD))] = some (ow (.lst (txtL (frsW C))), []) := by
  simp [s__law_froms_eq, d__law_froms]
  generalize hF : forL _ _ _ _ = F
  obtain ⟨e, rfl, a, rfl, q⟩ := forA hF (fun j env => ∃ a, env = [some (fz (.tup (C.map tgD))), some (ow (.lst (txtL (frsW (C.take j))))), a, none] ∧ (frsW (C.take j)).length ≤ 100 * j) ⟨_, rfl, by simp [frsW]⟩ (by
    rintro j T e hj ⟨a, rfl, q⟩
    have e1 : frsW (C.take (j + 1)) = frsW (C.take j) ++ T.map (·.1) := by
      unfold frsW
      rw [List.take_add_one, hj]
      simp
    have hl := hT T (List.mem_of_getElem? hj)
    have hjl := (List.getElem?_eq_some_iff.mp hj).1
    rw [e1]
    generalize frsW (C.take j) = fr at *
    have z1 : fr.length + T.length ≤ sizeLine := by rw [sizeL]; omega
    have z2 : T.length ≤ sizeLine := by rw [sizeL]; omega
    simp
    generalize hG : lcL _ _ _ _ _ _ = G
    have := lcL_mapA hG (fun p : Pr => D.str p.1) (by
      intro p hp
      simp)
    subst this
    simp [z1, z2, Function.comp_def]
    omega)
  rw [List.take_length]
  simp
end Wk
end

section
/-! P21: words put together; rows of tongues and of firm parts. -/
namespace Wk
open PySem PySem.Spec PyProof.Rows L2
theorem told_spec {ls : List (List Nat)} (hl : Lets ls) (ns : List Int) {pcs : List (List Nat)} {m : Nat} (h1 : 1 ≤ m) (hm : m ≤ 1000) (hp : ∀ p ∈ pcs, p.length ≤ 100 ∧ AZ p) (hz : pcs.length ≤ 1000) :
    ∃ ws ns', Wds 19 m ws ∧ ws ≠ [] ∧ s__law_told_words [ow (nums ns), fz (.lst (txtL ls)), fz (.lst (txtL pcs)), fz (.int (m : Nat))] = some (fz (.tup (txtL (ws.mergeSort leT))), [ow (nums ns')]) := by
  obtain ⟨r, ns1, r0, r1, e1⟩ := take_spec ns (m := (m : Int)) (by omega)
  have c1 : -4611686018427387904 ≤ 1 + r := by omega
  have c2 : 1 + r < 4611686018427387904 := by omega
  simp [s__law_told_words_eq, d__law_told_words, e1, c1, c2]
  generalize hF : forL _ _ _ _ = F
  obtain ⟨e, rfl, ms, fs, x, y, rfl, q1, q2⟩ := forN hF (fun j env => ∃ ms fs x y, env = [some (ow (nums ms)), some (fz (.lst (txtL ls))), some (fz (.lst (txtL pcs))), some (fz (.int (m : Nat))), some (ow (.lst (txtL fs))), x, y] ∧ Wds 19 j fs ∧ (0 < j → fs ≠ [])) ⟨_, [], _, _, rfl, .nil, by omega⟩ (by
    rintro j d e hd ⟨ms, fs, x, y, rfl, q1, q2⟩
    obtain ⟨hj, rfl⟩ := intsFrom_get hd
    obtain ⟨t, ms1, t1, t2, e2⟩ := textby_spec hl ms (pcs := pcs) (m := 20) (by omega) hp hz
    have e2 : s__law_text_by [ow (nums ms), fz (.lst (txtL ls)), fz (.lst (txtL pcs)), fz (.int 20)] = some (fz (.str t), [ow (nums ms1)]) := e2
    obtain ⟨c, ms2, hc, e3⟩ := pick_txt ms1 hl.ne
    have hc1 := hl.one c hc
    have hc2 := hl.az c hc
    have z1 : t.length + c.length ≤ sizeLine := by rw [sizeL]; omega
    have z3 : fs.length < sizeLine := by rw [sizeL]; have := q1.few; omega
    have a1 : 1 ≤ ((t ++ c).take 19).length := by simp; omega
    have a2 : ((t ++ c).take 19).length ≤ 19 := by simp; omega
    have a3 : AZ ((t ++ c).take 19) := (t2.app hc2).take 19
    by_cases hf : 0 < fs.length
    · obtain ⟨u, ms3, u0, u1, e4⟩ := take_spec ms2 (m := 3) (by omega)
      by_cases hu : u = 0
      · subst hu
        obtain ⟨f, ms4, hfm, e5⟩ := pick_txt ms3 (ls := fs) (List.length_pos_iff.mp hf)
        obtain ⟨c', ms5, hc', e6⟩ := pick_txt ms4 hl.ne
        have hfl := q1.len f hfm
        have hcl := hl.one c' hc'
        have z2 : f.length + c'.length ≤ sizeLine := by rw [sizeL]; omega
        have b1 : 1 ≤ ((f ++ c').take 19).length := by simp; omega
        have b2 : ((f ++ c').take 19).length ≤ 19 := by simp; omega
        have b3 : AZ ((f ++ c').take 19) := ((q1.az f hfm).app (hl.az c' hc')).take 19
        simp [e2, e3, z1, hf, e4, e5, e6, z2, cutL_to, -List.take_append]
        generalize (f ++ c').take 19 = w at *
        by_cases hw : w ∈ fs
        · simp [hw]
          exact ⟨_, fs, ⟨rfl, rfl⟩, q1.mono (Nat.le_refl _) (by omega), List.length_pos_iff.mp hf⟩
        · simp [hw, z3]
          exact ⟨_, fs ++ [w], ⟨rfl, by simp⟩, q1.snoc hw b1 b2 b3, by simp⟩
      · simp [e2, e3, z1, hf, e4, hu, cutL_to, -List.take_append]
        generalize (t ++ c).take 19 = w at *
        by_cases hw : w ∈ fs
        · simp [hw]
          exact ⟨_, fs, ⟨rfl, rfl⟩, q1.mono (Nat.le_refl _) (by omega), List.length_pos_iff.mp hf⟩
        · simp [hw, z3]
          exact ⟨_, fs ++ [w], ⟨rfl, by simp⟩, q1.snoc hw a1 a2 a3, by simp⟩
    · simp [e2, e3, z1, hf, cutL_to, -List.take_append]
      generalize (t ++ c).take 19 = w at *
      by_cases hw : w ∈ fs
      · simp [hw]
        exact ⟨_, fs, ⟨rfl, rfl⟩, q1.mono (Nat.le_refl _) (by omega), fun e => by rw [e] at hw; cases hw⟩
      · simp [hw, z3]
        exact ⟨_, fs ++ [w], ⟨rfl, by simp⟩, q1.snoc hw a1 a2 a3, by simp⟩)
  rw [intsFrom_len'] at q1 q2
  have hfz : fs.length ≤ sizeLine := by rw [sizeL]; have := q1.few; omega
  exact ⟨fs, q1.mono (Nat.le_refl _) (by omega), q2 (by omega), ms, by simp [sortD_txt fs hfz, hfz]⟩
/-- a store of such words -/
theorem told_store {ls : List (List Nat)} (hl : Lets ls) (ns : List Int) {pcs : List (List Nat)} {m : Nat} (h1 : 1 ≤ m) (hm : m ≤ 1000) (hp : ∀ p ∈ pcs, p.length ≤ 100 ∧ AZ p) (hz : pcs.length ≤ 1000) :
    ∃ ws st ns' ns'', Sto 19 m st ∧ st ≠ [] ∧ s__law_told_words [ow (nums ns), fz (.lst (txtL ls)), fz (.lst (txtL pcs)), fz (.int (m : Nat))] = some (fz (.tup (txtL ws)), [ow (nums ns')]) ∧
      s__law_store_of [ow (nums ns'), fz (.tup (txtL ws))] = some (fz (stD st), [ow (nums ns'')]) := by
  obtain ⟨ws, ns1, hw, h0, e1⟩ := told_spec hl ns h1 hm hp hz
  have hs := hw.sort
  obtain ⟨st, ns2, hst, e2⟩ := store_of_tup ns1 (ws := ws.mergeSort leT) (by rw [sizeL]; have := hs.few; omega)
  refine ⟨_, st, ns1, ns2, .ofWds hw hst, fun e => h0 ?_, e1, e2⟩
  rw [e] at hst
  have := congrArg List.length hst
  rw [List.length_mergeSort] at this
  exact List.eq_nil_of_length_eq_zero this.symm
def bestW (st : St) (k : Nat) : List (List Nat) := ((ordP st).take k).map (·.1)
/-- the words whose writing begins so -/
abbrev firmP (st : St) (C : List Tg) (f : List Nat) : St := st.filter fun p => f.isPrefixOf (chainW C p.1)
abbrev stpW (C : List Tg) (s : List Nat) : List Nat × List (List Nat) := stepW C (List.replicate C.length []) s
theorem firm_row_spec {C : List Tg} (ok : PtC C) (h0 : C ≠ []) {st : St} {n m : Nat} (hst : Sto n m st) (hn : n ≤ 40) (hm : m ≤ 1000) (s : List Nat) (hs : s.length ≤ 3000) (k : Nat) :
    s_firm_row [fz (stD st), fz (.tup (C.map tgD)), fz (.str s), fz (.int k)] = some (fz (.tup (txtL (bestW (firmP st C (stpW C s).1) k))), []) := by
  have hz : st.length ≤ sizeLine := hst.sz hm
  have e1 := state_spec ok h0 s hs
  simp [s_firm_row_eq, d_firm_row, e1, atI_of]
  generalize hG : lcL _ _ _ _ _ _ = G
  obtain rfl := lcL_filA (enc := prD) hG (fun p => (stpW C s).1.isPrefixOf (chainW C p.1)) prD (fun p hp => by
    have e2 := (chainw_spec ok p.1 (by have := (hst.len p hp).2; omega)).1
    cases e : (stpW C s).1.isPrefixOf (chainW C p.1) <;> simp [e2, e])
  have hz2 : (firmP st C (stpW C s).1).length ≤ sizeLine := Nat.le_trans (List.length_filter_le _ _) hz
  have e3 := best_spec (firmP st C (stpW C s).1) k hz2
  simp [hz2, e3, bestW]
theorem lfirm_row_spec {C : List Tg} (ok : PtC C) (h0 : C ≠ []) {st : St} {n m : Nat} (hst : Sto n m st) (hn : n ≤ 40) (hm : m ≤ 1000) (s : List Nat) (hs : s.length ≤ 3000) (k : Nat) :
    s__law_firm_row [fz (stD st), fz (.tup (C.map tgD)), fz (.str s), fz (.int k)] = some (fz (.tup (txtL (bestW (firmP st C (stpW C s).1) k))), []) := by
  have hz : st.length ≤ sizeLine := hst.sz hm
  have hp : 0 < C.length := List.length_pos_iff.mpr h0
  have hc3 := ok.2
  have e2 : (List.replicate C.length [D.str []]).flatten = txtL (List.replicate C.length []) := by simp [List.map_replicate, List.flatten_replicate_singleton]
  have c1 : (1 : Int) ≤ (C.length : Int) := by omega
  have c2 : (C.length : Int) ≤ 1000 := by omega
  have e1 := lstep_spec ok (R := List.replicate C.length []) (by simp) (fun r hr => by rw [(List.mem_replicate.mp hr).2]; simp) s hs
  generalize hq : stpW C s = q at *
  generalize hN : List.replicate C.length ([] : List Nat) = N at *
  have hq' : stepW C N s = q := by rw [← hN]; exact hq
  rw [hq'] at e1
  simp [s__law_firm_row_eq, d__law_firm_row, c1, c2, h0, e2, e1, atI_of]
  generalize hG : lcL _ _ _ _ _ _ = G
  obtain rfl := lcL_filA (enc := prD) hG (fun p => q.1.isPrefixOf (chainW C p.1)) prD (fun p hp => by
    have e2 := lchain_spec ok p.1 (by have := (hst.len p hp).2; omega)
    have e0 := pre_take q.1 (chainW C p.1)
    cases e : q.1.isPrefixOf (chainW C p.1) <;> rw [e] at e0 <;> simp [e2, e0])
  have hz2 : (firmP st C q.1).length ≤ sizeLine := Nat.le_trans (List.length_filter_le _ _) hz
  have e3 := lbest_spec (firmP st C q.1) k hz2
  simp [hz2, e3, bestW]
end Wk
end

section
/-! P22: the row of tongues. -/
namespace Wk
open PySem PySem.Spec PyProof.Rows L2
def tonP (Ts : List Tg) (t : List Nat) (w : List Nat) : Bool := Ts.any fun T => (writW T t).isPrefixOf (writW T w)
theorem tongue_row_spec {Ts : List Tg} (ok : ∀ T ∈ Ts, TgOk T) (hT : Ts.length ≤ 1000) {st : St} {n m : Nat} (hst : Sto n m st) (hn : n ≤ 40) (hm : m ≤ 1000) (s : List Nat) (hs : s.length ≤ 3000) (k : Nat) :
    s_tongue_row [fz (stD st), fz (.tup (Ts.map tgD)), fz (.str s), fz (.int k)] = some (fz (.tup (txtL (bestW (st.filter fun p => tonP Ts s p.1) k))), []) := by
  have hz : st.length ≤ sizeLine := hst.sz hm
  have hTz : Ts.length ≤ sizeLine := by rw [sizeL]; omega
  simp [s_tongue_row_eq, d_tongue_row]
  generalize hG : lcL _ _ _ _ _ _ = G
  obtain rfl := lcL_mapA (enc := tgD) hG (fun T => .tup [tgD T, .str (writW T s)]) (fun T hT => by
    have e := written_spec (ok T hT) s (by omega)
    simp [e])
  simp [hTz]
  generalize hF : forL _ _ _ _ = F
  obtain ⟨e, rfl, x, g, rfl, -⟩ := forA hF (fun j env => ∃ x g, env = [some (fz (stD st)), some (fz (.tup (Ts.map tgD))), some (fz (.str s)), some (fz (.int k)), none, some (g), some (ow (.lst (prL ((st.take j).filter fun p => tonP Ts s p.1)))), x, none] ∧ g.d = .lst (Ts.map fun T => .tup [tgD T, .str (writW T s)]) ∧ (g.o = true ∨ g.o = false)) ⟨_, _, rfl, rfl, by simp⟩ (by
    rintro j p e hp ⟨x, g, rfl, hg, -⟩
    obtain ⟨go, gd⟩ := g
    cases hg
    have hl := hst.len p (List.mem_of_getElem? hp)
    have e1 : (st.take (j + 1)).filter (fun p => tonP Ts s p.1) = (st.take j).filter (fun p => tonP Ts s p.1) ++ if tonP Ts s p.1 = true then [p] else [] := by
      rw [List.take_add_one, hp, List.filter_append]
      cases h : tonP Ts s p.1 <;> simp [h]
    rw [e1]
    have hfl : ((st.take j).filter fun p => tonP Ts s p.1).length < sizeLine := by
      have h1 := List.length_filter_le (fun p : List Nat × Int => tonP Ts s p.1) (st.take j)
      have h2 := (List.getElem?_eq_some_iff.mp hp).1
      rw [List.length_take] at h1
      omega
    generalize (st.take j).filter (fun p => tonP Ts s p.1) = fd at *
    simp
    generalize hG : lcL _ _ _ _ _ _ = G
    obtain rfl := lcL_mapA hG (fun T : Tg => .bl ((writW T s).isPrefixOf (writW T p.1))) (fun T hT => by
      have e := written_spec (ok T hT) p.1 (by omega)
      simp [e])
    have e2 := blsD_map (fun T : Tg => (writW T s).isPrefixOf (writW T p.1)) Ts
    have e4 : anyD (.lst (Ts.map fun T : Tg => D.bl ((writW T s).isPrefixOf (writW T p.1)))) = some (fz (.bl (tonP Ts s p.1))) := by
      rw [anyD_lst, e2]
      simp only [Option.map_some, List.any_map, tonP]
      rfl
    cases h : tonP Ts s p.1 with
    | true =>
      rw [h] at e4
      simp [hTz, e4, -anyD_lst, hfl]
      exact ⟨_, _, ⟨rfl, rfl⟩, rfl⟩
    | false =>
      rw [h] at e4
      simp [hTz, e4, -anyD_lst]
      exact ⟨_, _, ⟨rfl, rfl⟩, rfl⟩)
  rw [List.take_length]
  have hfl : (st.filter fun p => tonP Ts s p.1).length ≤ sizeLine := Nat.le_trans (List.length_filter_le _ _) hz
  have e3 := best_spec (st.filter fun p => tonP Ts s p.1) k hfl
  simp [e3, bestW]
end Wk
end

section
/-! P23: safe tongues, turned tongues. -/
namespace Wk
open PySem PySem.Spec PyProof.Rows L2
/-- the first beginning that is not written so -/
def badB (T : Tg) (w : List Nat) : Option (List Nat) := (begL w).find? fun b => !(writW T b).isPrefixOf (writW T w)
def unsW (T : Tg) : List (List Nat) → Option Pr
  | [] => none
  | w :: ws => match badB T w with
    | some b => some (w, b)
    | none => unsW T ws
theorem unsW_some {T : Tg} {ws : List (List Nat)} {j : Nat} {w b : List Nat} (h : ∀ v ∈ ws.take j, badB T v = none) (hw : ws[j]? = some w) (hb : badB T w = some b) : unsW T ws = some (w, b) := by
  induction ws generalizing j with
  | nil => simp at hw
  | cons v ws ih =>
    cases j with
    | zero =>
      simp at hw
      subst hw
      unfold unsW
      rw [hb]
    | succ j =>
      unfold unsW
      rw [h v (by simp)]
      exact ih (fun u hu => h u (by rw [List.take_succ_cons]; exact List.mem_cons_of_mem _ hu)) (by simpa using hw)
theorem unsW_none {T : Tg} {ws : List (List Nat)} : (∀ v ∈ ws, badB T v = none) ↔ unsW T ws = none := by
  induction ws with
  | nil => simp [unsW]
  | cons v ws ih =>
    unfold unsW
    cases h : badB T v with
    | none => simp [h, ih]
    | some b => simp [h]
@[simp] theorem clean_oP (o : Option Pr) : cleanV (fz (oP o)) = true := by cases o <;> simp [cleanV, imm, immL]
theorem unsafe_spec {T : Tg} (ok : TgOk T) {st : St} (hl : ∀ p ∈ st, p.1.length ≤ 40) : s_unsafe_beginning [fz (stD st), fz (tgD T)] = some (fz (oP (unsW T (st.map (·.1)))), []) := by
  simp [s_unsafe_beginning_eq, d_unsafe_beginning]
  generalize hF : forL _ _ _ _ = F
  obtain ⟨o, e, rfl, h⟩ := forGA hF (fun j env => ∃ a b c d, env = [some (fz (stD st)), some (fz (tgD T)), a, b, c, d] ∧ ∀ v ∈ (st.map (·.1)).take j, badB T v = none) (fun _ => False) (fun v _ => v = fz (oP (unsW T (st.map (·.1))))) ⟨_, _, _, _, rfl, by simp⟩ (by
    rintro j p e hp ⟨a, b, c, d, rfl, q⟩
    have hpl := hl p (List.mem_of_getElem? hp)
    have e1 := written_spec ok p.1 (by omega)
    have e2 := beginnings_spec p.1 (by omega)
    have hw : (st.map (·.1))[j]? = some p.1 := by rw [List.getElem?_map, hp]; rfl
    simp [e1, e2]
    generalize hF2 : forL _ _ _ _ = F2
    rcases forFind hF2 (fun b => !(writW T b).isPrefixOf (writW T p.1)) (fun b => fz (.tup [.str p.1, .str b])) (fun env => ∃ d, env = [some (fz (stD st)), some (fz (tgD T)), some (fz (.str p.1)), some (fz (.int p.2)), some (fz (.str (writW T p.1))), d]) ⟨_, rfl⟩ (by
      rintro b hb e ⟨d, rfl⟩
      have hbl := begL_mem.mp hb
      have e3 := written_spec ok b (by have := hbl.length_le; omega)
      cases h : (writW T b).isPrefixOf (writW T p.1) <;> simp [e3, h]) with ⟨h, e, rfl, d, rfl⟩ | ⟨b, e, h, hb, rfl, d, rfl⟩
    · simp
      rw [List.take_add_one, hw]
      exact fun v hv => by
        rcases List.mem_append.mp hv with hv | hv
        · exact q v (by simpa using hv)
        · simp at hv; rw [hv]; exact h
    · simp
      rw [unsW_some q hw h]
      rfl)
  rcases h with ⟨rfl, h | h⟩ | ⟨v, rfl, rfl⟩
  · obtain ⟨a, b, c, d, rfl, q⟩ := h
    rw [List.take_of_length_le (by simp)] at q
    rw [unsW_none.mp q]
    simp
  · exact h.elim
  · simp
theorem lunsafe_spec {T : Tg} (ok : TgOk T) {ws : List (List Nat)} (hl : ∀ w ∈ ws, w.length ≤ 40) : s__law_unsafe [fz (.tup (txtL ws)), fz (tgD T)] = some (fz (oP (unsW T ws)), []) := by
  simp [s__law_unsafe_eq, d__law_unsafe]
  generalize hF : forL _ _ _ _ = F
  obtain ⟨o, e, rfl, h⟩ := forGA hF (fun j env => ∃ b c d f, env = [some (fz (.tup (txtL ws))), some (fz (tgD T)), b, c, d, f] ∧ ∀ v ∈ ws.take j, badB T v = none) (fun _ => False) (fun v _ => v = fz (oP (unsW T ws))) ⟨_, _, _, _, rfl, by simp⟩ (by
    rintro j w e hw ⟨b, c, d, f, rfl, q⟩
    have hpl := hl w (List.mem_of_getElem? hw)
    have e1 := lwritten_spec ok w (by omega)
    have e2 := begun_spec w (by omega)
    simp [e1, e2]
    generalize hF2 : forL _ _ _ _ = F2
    rcases forFind hF2 (fun b => !(writW T b).isPrefixOf (writW T w)) (fun b => fz (.tup [.str w, .str b])) (fun env => ∃ d f, env = [some (fz (.tup (txtL ws))), some (fz (tgD T)), some (fz (.str w)), some (fz (.str (writW T w))), d, f]) ⟨_, _, rfl⟩ (by
      rintro b hb e ⟨d, f, rfl⟩
      have hbl := begL_mem.mp hb
      have e3 := lwritten_spec ok b (by have := hbl.length_le; omega)
      have e0 := pre_take (writW T b) (writW T w)
      cases h : (writW T b).isPrefixOf (writW T w) <;> rw [h] at e0 <;> simp at e0 <;> simp [e3, e0]) with ⟨h, e, rfl, d, f, rfl⟩ | ⟨b, e, h, hb, rfl, d, f, rfl⟩
    · simp
      rw [List.take_add_one, hw]
      exact fun v hv => by
        rcases List.mem_append.mp hv with hv | hv
        · exact q v hv
        · simp at hv; rw [hv]; exact h
    · simp
      rw [unsW_some q hw h]
      rfl)
  rcases h with ⟨rfl, h | h⟩ | ⟨v, rfl, rfl⟩
  · obtain ⟨b, c, d, f, rfl, q⟩ := h
    rw [List.take_of_length_le (by simp)] at q
    rw [unsW_none.mp q]
    simp
  · exact h.elim
  · simp
theorem safe_spec {T : Tg} (ok : TgOk T) {st : St} (hl : ∀ p ∈ st, p.1.length ≤ 40) : s_is_safe_tongue [fz (stD st), fz (tgD T)] = some (fz (.bl (unsW T (st.map (·.1))).isNone), []) := by
  have e := unsafe_spec ok hl
  cases h : unsW T (st.map (·.1)) with
  | none =>
    rw [h] at e
    simp [s_is_safe_tongue_eq, d_is_safe_tongue, e]
  | some p =>
    rw [h] at e
    simp [s_is_safe_tongue_eq, d_is_safe_tongue, e]
/-- tongues of letters are safe -/
theorem ones_safe {T : Tg} (ok : TgOk T) (h1 : ∀ p ∈ T, p.1.length = 1) (ws : List (List Nat)) : unsW T ws = none := by
  have hf : ∀ x, (firmW T x).2 = [] := fun x => by
    refine tg_ind ok (P := fun x => (firmW T x).2 = []) rfl (fun x hx ih => ?_) x
    have hg : growW T x = false := by
      unfold growW
      rw [List.any_eq_false]
      intro p hp
      have := h1 p hp
      have hx1 : 1 ≤ x.length := List.length_pos_iff.mpr hx
      rw [decide_eq_false (by omega)]
      simp
    rw [firmW_step ok hx hg]
    exact ih
  rw [← unsW_none]
  intro w hw
  unfold badB
  rw [List.find?_eq_none]
  intro b hb
  have hp := begL_mem.mp hb
  obtain ⟨y, rfl⟩ := hp
  have e1 := firmW_app ok b y
  have e2 := firmW_app ok b []
  rw [hf b, List.nil_append] at e1 e2
  rw [List.append_nil, writW_nil, List.append_nil] at e2
  have : (writW T b).isPrefixOf (writW T (b ++ y)) = true := by
    rw [List.isPrefixOf_iff_prefix, e1, ← e2]
    exact List.prefix_append _ _
  simp [this]
/-! ### the order of pairs does not matter -/
theorem lpW_best : ∀ (T : Tg) (x : List Nat) (f : Option Pr), (∀ q, f = some q → q.1.isPrefixOf x = true) →
    ∀ p, T.foldl (lpS x) f = some p → (∀ q, f = some q → q.1.length ≤ p.1.length) ∧ ∀ q ∈ T, q.1.isPrefixOf x = true → q.1.length ≤ p.1.length
  | [], x, f, hf, p, h => ⟨fun q hq => by rw [List.foldl_nil] at h; rw [h] at hq; injection hq with hq; rw [hq]; exact Nat.le_refl _, fun q hq => by cases hq⟩
  | a :: T, x, f, hf, p, h => by
    rw [List.foldl_cons] at h
    unfold lpS at h
    split at h
    · rename_i hc
      rw [Bool.and_eq_true] at hc
      obtain ⟨h1, h2⟩ := lpW_best T x (some a) (fun q hq => by injection hq with hq; rw [← hq]; exact hc.1) p h
      have ha := h1 a rfl
      refine ⟨fun q hq => ?_, fun q hq hx => ?_⟩
      · subst hq
        have := hc.2
        simp at this
        omega
      · rcases List.mem_cons.mp hq with rfl | hq
        · exact ha
        · exact h2 q hq hx
    · rename_i hc
      obtain ⟨h1, h2⟩ := lpW_best T x f hf p h
      refine ⟨h1, fun q hq hx => ?_⟩
      rcases List.mem_cons.mp hq with rfl | hq
      · rw [hx, Bool.true_and] at hc
        cases f with
        | none => simp at hc
        | some g =>
          have := h1 g rfl
          simp at hc
          omega
      · exact h2 q hq hx
theorem lpW_isSome : ∀ (T : Tg) (x : List Nat) (f : Option Pr), f.isSome = true ∨ (∃ q ∈ T, q.1.isPrefixOf x = true) → (T.foldl (lpS x) f).isSome = true
  | [], x, f, h => by
    rcases h with h | ⟨q, hq, _⟩
    · exact h
    · cases hq
  | a :: T, x, f, h => by
    rw [List.foldl_cons]
    refine lpW_isSome T x _ ?_
    unfold lpS
    split
    · exact .inl rfl
    · rename_i hc
      rcases h with h | ⟨q, hq, hx⟩
      · exact .inl h
      · rcases List.mem_cons.mp hq with rfl | hq
        · rw [hx, Bool.true_and] at hc
          cases f with
          | none => simp at hc
          | some g => exact .inl rfl
        · exact .inr ⟨q, hq, hx⟩
theorem fst_one {β : Type} {st : List (List Nat × β)} (hn : (st.map (·.1)).Nodup) {p q : List Nat × β} (hp : p ∈ st) (hq : q ∈ st) (e : p.1 = q.1) : p = q := by
  rw [List.Nodup, List.pairwise_map] at hn
  induction st with
  | nil => cases hp
  | cons r st ih =>
    obtain ⟨h1, h2⟩ := List.pairwise_cons.mp hn
    rcases List.mem_cons.mp hp with e1 | h3 <;> rcases List.mem_cons.mp hq with e2 | h4
    · rw [e1, e2]
    · exact absurd (e1 ▸ e) (h1 q h4)
    · exact absurd (e2 ▸ e).symm (h1 p h3)
    · exact ih h2 h3 h4
theorem lpW_perm {T T' : Tg} (h : T.Perm T') (hn : (T.map (·.1)).Nodup) (x : List Nat) : lpW T x = lpW T' x := by
  have one : ∀ p q : Pr, p ∈ T → q ∈ T → p.1.isPrefixOf x = true → q.1.isPrefixOf x = true → p.1.length = q.1.length → p = q := fun p q hp hq h1 h2 h3 => by
    have e : p.1 = q.1 := by
      rw [List.prefix_iff_eq_take.mp (List.isPrefixOf_iff_prefix.mp h1), List.prefix_iff_eq_take.mp (List.isPrefixOf_iff_prefix.mp h2), h3]
    exact fst_one hn hp hq e
  cases e1 : lpW T x with
  | none =>
    cases e2 : lpW T' x with
    | none => rfl
    | some q =>
      obtain ⟨m1, m2⟩ := lpW_mem e2
      have := lpW_isSome T x none (.inr ⟨q, h.mem_iff.mpr m1, m2⟩)
      unfold lpW at e1
      rw [e1] at this
      cases this
  | some p =>
    obtain ⟨n1, n2⟩ := lpW_mem e1
    cases e2 : lpW T' x with
    | none =>
      have := lpW_isSome T' x none (.inr ⟨p, h.mem_iff.mp n1, n2⟩)
      unfold lpW at e2
      rw [e2] at this
      cases this
    | some q =>
      obtain ⟨m1, m2⟩ := lpW_mem e2
      have b1 := (lpW_best T x none (fun q h => by cases h) p e1).2 q (h.mem_iff.mpr m1) m2
      have b2 := (lpW_best T' x none (fun q h => by cases h) q e2).2 p (h.mem_iff.mp n1) n2
      rw [one p q n1 (h.mem_iff.mpr m1) n2 m2 (by omega)]
theorem TgOk.perm {T T' : Tg} (ok : TgOk T) (h : T.Perm T') : TgOk T' := ⟨fun p hp => ok.one p (h.mem_iff.mpr hp), fun p hp => ok.fr p (h.mem_iff.mpr hp), fun p hp => ok.to p (h.mem_iff.mpr hp), by rw [← h.length_eq]; exact ok.few⟩
theorem writW_perm {T T' : Tg} (ok : TgOk T) (h : T.Perm T') (hn : (T.map (·.1)).Nodup) (x : List Nat) : writW T' x = writW T x := by
  refine tg_ind ok (P := fun x => writW T' x = writW T x) rfl (fun x hx ih => ?_) x
  have e : takenW T' x = takenW T x := by
    unfold takenW
    rw [lpW_perm h hn]
  rw [writW_step ok hx, writW_step (ok.perm h) hx, e, ih]
end Wk
end

section
/-! P24: lines that are shuffled. -/
namespace Wk
open PySem PySem.Spec PyProof.Rows L2
@[simp] theorem clean_tgl (T : Tg) : cleanV (ow (.lst (tgL T))) = true := by
  have : immL (tgL T) = true := by
    induction T with
    | nil => rfl
    | cons p T ih => simp [immL, imm, ih]
  simpa [cleanV, imm] using this
theorem erase_perm {α : Type} : ∀ {l : List α} {i : Nat} (h : i < l.length), (l[i] :: l.eraseIdx i).Perm l
  | a :: l, 0, _ => .refl _
  | a :: l, i + 1, h => by
    rw [List.eraseIdx_cons_succ, List.getElem_cons_succ]
    exact (List.Perm.swap _ _ _).trans ((erase_perm (Nat.lt_of_succ_lt_succ h)).cons a)
theorem erase_map {α β : Type} (f : α → β) : ∀ (l : List α) (i : Nat), (l.map f).eraseIdx i = (l.eraseIdx i).map f
  | [], i => by simp
  | a :: l, 0 => rfl
  | a :: l, i + 1 => by simp [erase_map f l i]
theorem shuffled_spec (T : Tg) (hT : T.length ≤ 1000) (ns : List Int) : ∃ T' ns', T.Perm T' ∧ s__law_shuffled [ow (nums ns), fz (.lst (tgL T))] = some (ow (.lst (tgL T')), [ow (nums ns')]) := by
  have z0 : T.length ≤ sizeLine := by rw [sizeL]; omega
  have c1 : -4611686018427387904 ≤ (T.length : Int) := by omega
  have c2 : (T.length : Int) < 4611686018427387904 := by omega
  simp [s__law_shuffled_eq, d__law_shuffled, z0, c1, c2]
  generalize hF : forL _ _ _ _ = F
  obtain ⟨e, rfl, ms, L, D', a, b, rfl, q1, q2⟩ := forN hF (fun j env => ∃ ms L D' a b, env = [some (ow (nums ms)), some (fz (.lst (tgL T))), some (a), some (ow (.lst (tgL D'))), b] ∧ (D' ++ L).Perm T ∧ (D'.length = j ∧ a = ow (.lst (tgL L)))) ⟨_, T, [], _, _, rfl, by simp, rfl, rfl⟩ (by
    rintro j d e hd ⟨ms, L, D', a, b, rfl, q1, q2, rfl⟩
    obtain ⟨hj, rfl⟩ := intsFrom_get hd
    have hl := q1.length_eq
    rw [List.length_append] at hl
    have hj' : j < T.length := by omega
    obtain ⟨r, ms1, r0, r1, e1⟩ := take_spec ms (m := (L.length : Int)) (by omega)
    have hr : r.toNat < L.length := by omega
    have c3 : r < 4611686018427387904 := by omega
    have z1 : D'.length < sizeLine := by rw [sizeL]; omega
    have e2 : L[r.toNat]? = some L[r.toNat] := List.getElem?_eq_getElem hr
    simp [e1, r0, c3, e2, z1]
    refine ⟨_, L.eraseIdx r.toNat, D' ++ [L[r.toNat]], _, ⟨rfl, rfl, by simp⟩, ?_, by simp [q2], by rw [erase_map]⟩
    rw [List.append_assoc]
    exact ((erase_perm hr).append_left D').trans q1)
  rw [intsFrom_len'] at q2
  have hl := q1.length_eq
  rw [List.length_append] at hl
  have hL : L = [] := List.eq_nil_of_length_eq_zero (by have := q2.1; omega)
  subst hL
  rw [List.append_nil] at q1
  rw [q2.2]
  exact ⟨D', q1.symm, ms, by simp⟩
/-- a tongue with long texts too -/
theorem tgx_snoc {n m : Nat} {T : Tg} (h : TgX n m T) {f t : List Nat} (h1 : 1 ≤ f.length) (h2 : f.length ≤ m) (h3 : AZ f) (h4 : f ∉ T.map (·.1)) (h5 : t.length ≤ m) (h6 : AZ t) : TgX (n + 1) m (T ++ [(f, t)]) where
  fro := by
    rw [List.map_append]
    exact h.fro.add h1 h2 h3 h4
  to p hp := (List.mem_append.mp hp).elim (h.to p) fun hp => by rw [List.mem_singleton.mp hp]; exact h5
  toaz p hp := (List.mem_append.mp hp).elim (h.toaz p) fun hp => by rw [List.mem_singleton.mp hp]; exact h6
  few := by have := h.few; simp; omega
theorem TgX.mono2 {n m n' m' : Nat} {T : Tg} (h : TgX n m T) (hn : n ≤ n') (hm : m ≤ m') : TgX n' m' T := ⟨⟨h.fro.one, fun f hf => Nat.le_trans (h.fro.few f hf) hm, h.fro.az, h.fro.nd⟩, fun p hp => Nat.le_trans (h.to p hp) hm, h.toaz, Nat.le_trans h.few hn⟩
theorem TgX.perm {n m : Nat} {T T' : Tg} (h : TgX n m T) (p : T.Perm T') : TgX n m T' where
  fro := ⟨fun f hf => h.fro.one f ((p.map (·.1)).mem_iff.mpr hf), fun f hf => h.fro.few f ((p.map (·.1)).mem_iff.mpr hf), fun f hf => h.fro.az f ((p.map (·.1)).mem_iff.mpr hf), (p.map (·.1)).nodup_iff.mp h.fro.nd⟩
  to q hq := h.to q (p.mem_iff.mpr hq)
  toaz q hq := h.toaz q (p.mem_iff.mpr hq)
  few := by rw [← p.length_eq]; exact h.few
theorem long_spec {ls : List (List Nat)} (hl : Lets ls) (ns : List Int) : ∃ T ns', TgX 12 20 T ∧ s__law_long_tongue [ow (nums ns), fz (.lst (txtL ls))] = some (fz (tgD T), [ow (nums ns')]) := by
  obtain ⟨T, ms, hT, e0⟩ := tongue_spec hl ns (n := 8) (m := 3) (by omega) (by omega) (by omega)
  have e0 : s__law_tongue [ow (nums ns), fz (.lst (txtL ls)), fz (.int 8), fz (.int 3)] = some (fz (tgD T), [ow (nums ms)]) := e0
  have z0 : T.length ≤ sizeLine := by rw [sizeL]; have := hT.few; omega
  simp [s__law_long_tongue_eq, d__law_long_tongue, e0, z0]
  generalize hF : forL _ _ _ _ = F
  obtain ⟨e, rfl, ms', T', a, b, rfl, q⟩ := forN hF (fun j env => ∃ ms T' a b, env = [some (ow (nums ms)), some (fz (.lst (txtL ls))), some (ow (.lst (tgL T'))), a, b, none] ∧ TgX (8 + j) 20 T') ⟨_, T, _, _, rfl, hT.mono2 (by omega) (by omega)⟩ (by
    rintro j d e hd ⟨ms, T', a, b, rfl, q⟩
    obtain ⟨hj, rfl⟩ := intsFrom_get hd
    obtain ⟨t, ms1, t1, t2, e1⟩ := text_spec hl ms (m := 19) (by omega) (by omega)
    obtain ⟨c, ms2, hc, e2⟩ := pick_txt ms1 hl.ne
    have hc1 := hl.one c hc
    obtain ⟨u, ms3, u1, u2, e3⟩ := text_spec hl ms2 (m := 20) (by omega) (by omega)
    have z1 : t.length + c.length ≤ sizeLine := by rw [sizeL]; omega
    have z2 : T'.length ≤ sizeLine := by rw [sizeL]; have := q.few; omega
    have z3 : T'.length < sizeLine := by rw [sizeL]; have := q.few; omega
    have w1 : 1 ≤ (t ++ c).length := by rw [List.length_append]; omega
    have w2 : (t ++ c).length ≤ 20 := by rw [List.length_append]; omega
    have w3 : AZ (t ++ c) := t2.app (hl.az c hc)
    have em : (T'.map fun p : Pr => D.str p.1) = txtL (T'.map (·.1)) := by simp
    simp [e1, e2, z1]
    generalize t ++ c = w at *
    generalize hG : lcL _ _ _ _ _ _ = G
    have := lcL_mapA hG (fun p : Pr => D.str p.1) (by
      intro p hp
      simp)
    subst this
    rw [em]
    have hsn : w ∉ T'.map (·.1) → TgX (8 + (j + 1)) 20 (T' ++ [(w, u)]) := fun h => (tgx_snoc q w1 w2 w3 h (by omega) u2).mono2 (by omega) (by omega)
    have hfl : (T'.map (·.1)).length ≤ sizeLine := by rw [List.length_map]; exact z2
    generalize hfr : T'.map (·.1) = fr at *
    by_cases hm : w ∈ fr
    · simp [hfl, hm]
      exact ⟨_, T', ⟨rfl, rfl⟩, q.mono2 (by omega) (by omega)⟩
    · simp [hfl, hm, e3, z3]
      exact ⟨_, T' ++ [(w, u)], ⟨rfl, by simp⟩, hsn hm⟩)
  rw [intsFrom_len'] at q
  obtain ⟨T2, ms2, hp, e2⟩ := shuffled_spec T' (Nat.le_trans q.few (by omega)) ms'
  have z2 : T2.length ≤ sizeLine := by rw [← hp.length_eq, sizeL]; have := q.few; omega
  exact ⟨T2, (q.perm hp).mono2 (by omega) (by omega), ms2, by simp [e2, z2]⟩
theorem writW_none (x : List Nat) : writW [] x = x := by
  have ok : TgOk [] := ⟨by simp, by simp, by simp, by simp⟩
  refine tg_ind ok (P := fun x => writW [] x = x) rfl (fun x hx ih => ?_) x
  rw [writW_step ok hx, ih]
  cases x with
  | nil => exact absurd rfl hx
  | cons c x => rfl
theorem firmW_none (x : List Nat) : firmW [] x = (x, []) := by
  have ok : TgOk [] := ⟨by simp, by simp, by simp, by simp⟩
  refine tg_ind ok (P := fun x => firmW [] x = (x, [])) rfl (fun x hx ih => ?_) x
  rw [firmW_step ok hx rfl, ih]
  cases x with
  | nil => exact absurd rfl hx
  | cons c x => rfl
theorem TgX.mono {n m m' : Nat} {T : Tg} (h : TgX n m T) (hm : m ≤ m') : TgX n m' T := ⟨⟨h.fro.one, fun f hf => Nat.le_trans (h.fro.few f hf) hm, h.fro.az, h.fro.nd⟩, fun p hp => Nat.le_trans (h.to p hp) hm, h.toaz, h.few⟩
theorem All2.right {α β : Type} {P : β → Prop} : ∀ {as : List α} {bs : List β}, All2 (fun _ b => P b) as bs → ∀ b ∈ bs, P b
  | _, _, .nil, b, h => by cases h
  | _, _, .cons p t, b, h => by
    rcases List.mem_cons.mp h with rfl | h
    · exact p
    · exact All2.right t b h
theorem frs_few {C : List Tg} {n m : Nat} (h : ∀ T ∈ C, TgX n m T) : ∀ p ∈ frsW C, p.length ≤ m ∧ AZ p := fun p hp => by
  unfold frsW at hp
  obtain ⟨l, hl, hp⟩ := List.mem_flatten.mp hp
  obtain ⟨T, hT, rfl⟩ := List.mem_map.mp hl
  exact ⟨(h T hT).fro.few p hp, (h T hT).fro.az p hp⟩
theorem frs_len : ∀ {C : List Tg} {n m k : Nat}, (∀ T ∈ C, TgX n m T) → C.length ≤ k → (frsW C).length ≤ k * n
  | [], n, m, k, _, _ => by simp [frsW]
  | T :: C, n, m, k, h, hk => by
    have e : frsW (T :: C) = T.map (·.1) ++ frsW C := rfl
    rw [List.length_cons] at hk
    obtain ⟨k, rfl⟩ : ∃ k', k = k' + 1 := ⟨k - 1, by omega⟩
    have := frs_len (k := k) (fun U hU => h U (List.mem_cons_of_mem _ hU)) (by omega)
    have h2 := (h T List.mem_cons_self).few
    rw [e, List.length_append, List.length_map, Nat.succ_mul]
    omega
theorem frs_specL {C : List Tg} (hC : C.length ≤ 100) (hT : ∀ T ∈ C, T.length ≤ 100) : s__law_froms [fz (.lst (C.map tgD))] = some (ow (.lst (txtL (frsW C))), []) := by
  simp [s__law_froms_eq, d__law_froms]
  generalize hF : forL _ _ _ _ = F
  obtain ⟨e, rfl, a, rfl, q⟩ := forA hF (fun j env => ∃ a, env = [some (fz (.lst (C.map tgD))), some (ow (.lst (txtL (frsW (C.take j))))), a, none] ∧ (frsW (C.take j)).length ≤ 100 * j) ⟨_, rfl, by simp [frsW]⟩ (by
    rintro j T e hj ⟨a, rfl, q⟩
    have e1 : frsW (C.take (j + 1)) = frsW (C.take j) ++ T.map (·.1) := by
      unfold frsW
      rw [List.take_add_one, hj]
      simp
    have hl := hT T (List.mem_of_getElem? hj)
    have hjl := (List.getElem?_eq_some_iff.mp hj).1
    rw [e1]
    generalize frsW (C.take j) = fr at *
    have z1 : fr.length + T.length ≤ sizeLine := by rw [sizeL]; omega
    have z2 : T.length ≤ sizeLine := by rw [sizeL]; omega
    simp
    generalize hG : lcL _ _ _ _ _ _ = G
    have := lcL_mapA hG (fun p : Pr => D.str p.1) (by
      intro p hp
      simp)
    subst this
    simp [z1, z2, Function.comp_def]
    omega)
  rw [List.take_length]
  simp
theorem All2.fsts {α β : Type} {P : β → Prop} : ∀ {l : List α} {S : List (α × β)}, All2 (fun a (p : α × β) => p.1 = a ∧ P p.2) l S → S.map (·.1) = l ∧ ∀ p ∈ S, P p.2
  | _, _, .nil => ⟨rfl, fun p h => by cases h⟩
  | _, _, .cons h t => by
    obtain ⟨h1, h2⟩ := All2.fsts t
    refine ⟨by rw [List.map_cons, h.1, h1], fun p hp => ?_⟩
    rcases List.mem_cons.mp hp with rfl | hp
    · exact h.2
    · exact h2 p hp
end Wk
end

section
/-! P25: worlds, what was seen, questions. -/
namespace Wk
open PySem PySem.Spec PyProof.Rows L2
@[simp] theorem tTru_ev {f : XE} {env : En} : tTru f env = (f env).bind fun p => (truD p.1.d).map fun b => (b, p.2) := id rfl
@[simp] theorem truD_lst {xs : List D} : truD (.lst xs) = some (!xs.isEmpty) := id rfl
@[simp] theorem truD_tup {xs : List D} : truD (.tup xs) = some (!xs.isEmpty) := id rfl
@[simp] theorem truD_non : truD .non = some false := id rfl
@[simp] theorem truD_bl {b : Bool} : truD (.bl b) = some b := id rfl
@[simp] theorem truD_str {s : List Nat} : truD (.str s) = some (!s.isEmpty) := id rfl
abbrev Wls := List St
abbrev Sn := List (List Nat × List (List Nat))
abbrev seD (s : List Nat × List (List Nat)) : D := .tup [.str s.1, .tup (txtL s.2)]
abbrev snD (S : Sn) : D := .tup (S.map seD)
abbrev wlD (W : Wls) : D := .tup (W.map stD)
abbrev ixL (l : List Nat) : List D := l.map fun i : Nat => D.int (i : Int)
def fitW (S : Sn) (k : Nat) (st : St) : Bool := S.all fun s => decide (rowW st s.1 k = s.2)
def leftW (W : Wls) (S : Sn) (k : Nat) : List Nat := (List.range W.length).filter fun i => (W[i]?).any (fitW S k)
theorem leftW_lt {W : Wls} {S : Sn} {k i : Nat} (h : i ∈ leftW W S k) : i < W.length := by
  unfold leftW at h
  exact List.mem_range.mp (List.mem_filter.mp h).1
theorem leftW_nd (W : Wls) (S : Sn) (k : Nat) : (leftW W S k).Nodup := List.Pairwise.filter _ List.nodup_range
theorem zip_filter {α : Type} (p : α → Bool) : ∀ (l : List α) (k : Nat), ((l.zipIdx k).filter fun q => p q.1).map (·.2) = ((List.range l.length).filter fun i => (l[i]?).any p).map (· + k)
  | [], k => rfl
  | a :: l, k => by
    have ih := zip_filter p l (k + 1)
    rw [List.zipIdx_cons, List.length_cons, List.range_succ_eq_map, List.filter_cons, List.filter_cons]
    have e : ((List.map Nat.succ (List.range l.length)).filter fun i => ((a :: l)[i]?).any p).map (· + k) = ((List.range l.length).filter fun i => (l[i]?).any p).map (· + (k + 1)) := by
      rw [List.filter_map, List.map_map]
      congr 1
      funext i
      simp; omega
    cases h : p a with
    | true => simp only [h, List.getElem?_cons_zero, Option.any_some, if_true, List.map_cons, ih, e, Nat.zero_add]
    | false => simp only [h, List.getElem?_cons_zero, Option.any_some, Bool.false_eq_true, if_false, ih, e]
theorem worlds_spec {W : Wls} {S : Sn} {k : Nat} (hW : W.length ≤ 1000) (hS : S.length ≤ 1000) (hz : ∀ st ∈ W, st.length ≤ sizeLine) : s_worlds_of [fz (wlD W), fz (snD S), fz (.int k)] = some (fz (.tup (ixL (leftW W S k))), []) := by
  have z1 : W.length ≤ sizeLine := by rw [sizeL]; omega
  have z2 : S.length ≤ sizeLine := by rw [sizeL]; omega
  simp [s_worlds_of_eq, d_worlds_of, enumL]
  generalize hG : lcL _ _ _ _ _ _ = G
  have hG' : lcL (gT [gN 3, gN 4]) (tOf (eApp (g1 allD) [.e (eLc [5, 6] (xSeq (eV 1)) (gT [gN 5, gN 6]) (Wk.tYes) (eApp gEq [.e (eCall s_row [] [.s 4, .s 5, .s 2]), .s 6]))])) (eV 3) [3, 4] ((W.zipIdx).map fun p : St × Nat => .tup [.int (p.2 : Int), stD p.1]) [some (fz (wlD W)), some (fz (snD S)), some (fz (.int k)), none, none, none, none] = G := by
    rw [← hG]
    congr 1
    rw [List.zipIdx_map, List.map_map]
    rfl
  have := lcL_filA hG' (fun p => fitW S k p.1) (fun p => .int (p.2 : Int)) (by
    rintro ⟨st, i⟩ hp
    have hst : st ∈ W := by
      obtain ⟨h1, h2, h3⟩ := List.mem_zipIdx hp
      rw [h3]
      exact List.getElem_mem _
    simp
    generalize hG : lcL _ _ _ _ _ _ = G
    have := lcL_mapA hG (fun s : List Nat × List (List Nat) => .bl (decide (rowW st s.1 k = s.2))) (by
      rintro s hs
      have e := row_spec st s.1 k (hz st hst)
      simp [e])
    subst this
    have e := blsD_map (fun s : List Nat × List (List Nat) => decide (rowW st s.1 k = s.2)) S
    have e2 : allD (.lst (S.map fun s : List Nat × List (List Nat) => D.bl (decide (rowW st s.1 k = s.2)))) = some (fz (.bl (fitW S k st))) := by
      rw [allD_lst, e]
      simp only [Option.map_some, List.all_map, fitW]
      rfl
    cases h : fitW S k st <;> rw [h] at e2 <;> simp [z2, e2, -allD_lst])
  subst this
  have e3 : ((W.zipIdx.filter fun p => fitW S k p.1).map fun p : St × Nat => D.int (p.2 : Int)) = ixL (leftW W S k) := by
    have := zip_filter (fitW S k) W 0
    unfold ixL leftW
    rw [show (fun x : Nat => x + 0) = id from rfl, List.map_id] at this
    rw [← this, List.map_map]
    rfl
  have z3 : (leftW W S k).length ≤ sizeLine := by
    unfold leftW
    have := List.length_filter_le (fun i => (W[i]?).any (fitW S k)) (List.range W.length)
    rw [List.length_range] at this
    omega
  rw [e3]
  simp [z3]
theorem same_str2 (n : Nat) (a b : List Nat) : s__law_same (n + 1) [fz (.str a), fz (.str b)] = some (fz (.bl (decide (a = b))), []) := by
  rw [s__law_same_eq]
  simp [d__law_same, subTy]
  rw [Bool.eq_iff_iff]
  simp
theorem same_txt2 {a b : List (List Nat)} (hb : b.length ≤ sizeLine) : s__law_same 8 [fz (.tup (txtL a)), fz (.tup (txtL b))] = some (fz (.bl (decide (a = b))), []) := by
  rw [s__law_same_eq]
  have c2 : (b.length : Int) < 4611686018427387904 := by rw [sizeL] at hb; omega
  have c1 : (-4611686018427387904 : Int) ≤ b.length := by omega
  by_cases hl : a.length = b.length
  · have hl' : (a.length : Int) = b.length := by omega
    simp [d__law_same, subTy, c1, c2, hl]
    generalize hG : lcL _ _ _ _ _ _ = G
    rw [intsFrom_map] at hG
    obtain rfl := lcL_mapA hG (fun k => .bl (decide (a[k]? = b[k]?))) (fun k hk => by
      have hk' : k < b.length := by simpa using hk
      have e1 : a[k]? = some (a[k]'(by omega)) := List.getElem?_eq_getElem (by omega)
      have e2 : b[k]? = some b[k] := List.getElem?_eq_getElem hk'
      have e3 := same_str2 6 (a[k]'(by omega)) b[k]
      simp [atI_nat, e1, e2, e3])
    have i1 := inOk_bls (fun k => decide (a[k]? = b[k]?)) false (List.range b.length)
    have i2 := memB_bls (fun k => decide (a[k]? = b[k]?)) false (List.range b.length)
    have e4 : (!(List.range b.length).any fun k => decide (a[k]? = b[k]?) == false) = decide (a = b) := by
      rw [Bool.eq_iff_iff, decide_eq_true_iff]
      simp
      constructor
      · intro h
        apply List.ext_getElem?
        intro i
        by_cases hi : i < b.length
        · exact h i hi
        · rw [List.getElem?_eq_none (by omega), List.getElem?_eq_none (by omega)]
      · intro h; subst h; intros; rfl
    rw [← e4, ← i2]
    simp [hb, i1]
  · have hl' : ¬ (a.length : Int) = b.length := by omega
    have hne : a ≠ b := fun e => hl (by rw [e])
    simp [d__law_same, subTy, hl', hne]
theorem shows_spec {st : St} {S : Sn} {k : Nat} (hS : S.length ≤ 1000) (hSz : ∀ s ∈ S, s.2.length ≤ 1000) (hz : st.length ≤ sizeLine) : s__law_shows [fz (stD st), fz (snD S), fz (.int k)] = some (fz (.bl (fitW S k st)), []) := by
  have z2 : S.length ≤ sizeLine := by rw [sizeL]; omega
  simp [s__law_shows_eq, d__law_shows]
  generalize hG : lcL _ _ _ _ _ _ = G
  have := lcL_mapA hG (fun s : List Nat × List (List Nat) => .bl (decide (rowW st s.1 k = s.2))) (by
    rintro s hs
    have e := lrow_spec st s.1 k hz
    have hr : (rowW st s.1 k).length ≤ sizeLine := rowW_sz hz
    have e2 := same_txt2 (a := rowW st s.1 k) (b := s.2) (by rw [sizeL]; have := hSz s hs; omega)
    generalize rowW st s.1 k = r at *
    simp [e, e2])
  subst this
  have i1 := inOk_bls (fun s : List Nat × List (List Nat) => decide (rowW st s.1 k = s.2)) false S
  have i2 := memB_bls (fun s : List Nat × List (List Nat) => decide (rowW st s.1 k = s.2)) false S
  have e4 : (!S.any fun s => decide (rowW st s.1 k = s.2) == false) = fitW S k st := by
    unfold fitW
    rw [List.not_any_eq_all_not]
    congr 1
    funext s
    cases decide (rowW st s.1 k = s.2) <;> rfl
  rw [← e4, ← i2]
  simp [z2, i1]
/-! ### questions -/
@[simp] theorem atI_2 {α : Type} {a b c : α} {l : List α} : atI (a :: b :: c :: l) 2 = some c := by rw [atI_of (by omega)]; rfl
inductive Qn where
  | has (w : List Nat)
  | row (t : List Nat) (l : List (List Nat))
  | better (a b : List Nat)
def qnD : Qn → D
  | .has w => .tup [.str [104, 97, 115], .str w]
  | .row t l => .tup [.str [114, 111, 119], .str t, .tup (txtL l)]
  | .better a b => .tup [.str [98, 101, 116, 116, 101, 114], .str a, .str b]
def saysW (st : St) (k : Nat) : Qn → Bool
  | .has w => (worthO st w).isSome
  | .row t l => decide (rowW st t k = l)
  | .better a b => match worthO st a, worthO st b with
    | some x, some y => ltP (a, x) (b, y)
    | _, _ => false
theorem worthO_isSome (st : St) (w : List Nat) : (worthO st w).isSome = decide (w ∈ st.map (·.1)) := by
  rw [Bool.eq_iff_iff, decide_eq_true_iff]
  unfold worthO
  rw [Option.isSome_map, List.find?_isSome]
  simp
theorem compare_spec (st : St) {a b : List Nat} {x y : Int} (hx : worthO st a = some x) (hy : worthO st b = some y) : ∃ r : Int, s_compare_words [fz (stD st), fz (.str a), fz (.str b)] = some (fz (.int r), []) ∧ (r = -1 ↔ ltP (a, x) (b, y) = true) := by
  have e1 := worth_of_spec st a
  have e2 := worth_of_spec st b
  rw [worthD_O, hx] at e1
  rw [worthD_O, hy] at e2
  have e3 := rank_spec (a, x)
  have e4 := rank_spec (b, y)
  simp only [oD] at e1 e2
  have o1 : okEq (rkD (a, x)) (rkD (b, y)) = true := by simp [okEq, dataD, dataL, depD, depL]
  have o2 : deqL [D.int (-x), D.str a] [D.int (-y), D.str b] = decide (x = y ∧ a = b) := by
    rw [Bool.eq_iff_iff]
    simp [deqL]
  have o3 := ltD_rk (a, x) (b, y)
  by_cases h : x = y ∧ a = b
  · obtain ⟨rfl, rfl⟩ := h
    have o4 := ltP_irr (a, x)
    refine ⟨0, ?_, by simp [o4]⟩
    simp [s_compare_words_eq, d_compare_words, e1, e2, e3, e4, o1, o2]
  · cases hl : ltP (a, x) (b, y) with
    | true =>
      rw [hl] at o3
      refine ⟨-1, ?_, by simp⟩
      simp [s_compare_words_eq, d_compare_words, e1, e2, e3, e4, o1, o2, h, o3, -ltD_rk]
    | false =>
      rw [hl] at o3
      refine ⟨1, ?_, by simp⟩
      simp [s_compare_words_eq, d_compare_words, e1, e2, e3, e4, o1, o2, h, o3, -ltD_rk]
theorem says_spec (st : St) (hz : st.length ≤ sizeLine) (k : Nat) (q : Qn) : s_says_world [fz (stD st), fz (.int k), fz (qnD q)] = some (fz (.bl (saysW st k q)), []) := by
  cases q with
  | has w =>
    have e1 := worth_of_spec st w
    rw [worthD_O] at e1
    cases h : worthO st w with
    | none =>
      rw [h] at e1
      simp [s_says_world_eq, d_says_world, qnD, e1, saysW, h, oD]
    | some x =>
      rw [h] at e1
      simp [s_says_world_eq, d_says_world, qnD, e1, saysW, h, oD]
  | row t l =>
    have e1 := row_spec st t k hz
    simp [s_says_world_eq, d_says_world, qnD, e1, saysW]
  | better a b =>
    have e1 := worth_of_spec st a
    have e2 := worth_of_spec st b
    rw [worthD_O] at e1 e2
    cases h1 : worthO st a with
    | none =>
      rw [h1] at e1
      simp [s_says_world_eq, d_says_world, qnD, e1, saysW, h1, oD]
    | some x =>
      cases h2 : worthO st b with
      | none =>
        rw [h1] at e1
        rw [h2] at e2
        simp [s_says_world_eq, d_says_world, qnD, e1, e2, saysW, h1, h2, oD]
      | some y =>
        obtain ⟨r, e3, e4⟩ := compare_spec st h1 h2
        rw [h1] at e1
        rw [h2] at e2
        have e5 : (r == -1) = ltP (a, x) (b, y) := by rw [Bool.eq_iff_iff]; simpa using e4
        simp [s_says_world_eq, d_says_world, qnD, e1, e2, saysW, h1, h2, oD, e3, e5]
theorem lsays_spec (st : St) (hz : st.length < sizeLine) (k : Nat) (q : Qn) : s__law_says [fz (stD st), fz (.int k), fz (qnD q)] = some (fz (.bl (saysW st k q)), []) := by
  cases q with
  | has w =>
    have e1 := words_of_spec st (Nat.le_of_lt hz)
    have e2 := worthO_isSome st w
    generalize st.map (·.1) = ws at *
    simp [s__law_says_eq, d__law_says, qnD, e1, saysW, e2]
  | row t l =>
    have e1 := lrow_spec st t k (Nat.le_of_lt hz)
    simp [s__law_says_eq, d__law_says, qnD, e1, saysW]
  | better a b =>
    have e1 := worth_in_spec st a hz
    have e2 := worth_in_spec st b hz
    rw [worthD_O] at e1 e2
    cases h1 : worthO st a with
    | none =>
      rw [h1] at e1
      simp [s__law_says_eq, d__law_says, qnD, e1, e2, saysW, h1, oD]
    | some x =>
      cases h2 : worthO st b with
      | none =>
        rw [h1] at e1
        rw [h2] at e2
        simp [s__law_says_eq, d__law_says, qnD, e1, e2, saysW, h1, h2, oD]
      | some y =>
        rw [h1] at e1
        rw [h2] at e2
        have e3 := ltD_rk (a, x) (b, y)
        simp [s__law_says_eq, d__law_says, qnD, e1, e2, saysW, h1, h2, oD, e3]
/-! ### what is told -/
def sayI (W : Wls) (k : Nat) (q : Qn) (i : Nat) : Bool := (W[i]?).any fun st => saysW st k q
def yesW (W : Wls) (S : Sn) (k : Nat) (q : Qn) : List Nat := (leftW W S k).filter (sayI W k q)
def noW (W : Wls) (S : Sn) (k : Nat) (q : Qn) : List Nat := (leftW W S k).filter fun i => !sayI W k q i
structure WOk (W : Wls) (S : Sn) : Prop where
  wl : W.length ≤ 1000
  sl : S.length ≤ 1000
  sz : ∀ st ∈ W, st.length < sizeLine
  ss : ∀ s ∈ S, s.2.length ≤ 1000
theorem leftW_len (W : Wls) (S : Sn) (k : Nat) : (leftW W S k).length ≤ W.length := by
  unfold leftW
  have := List.length_filter_le (fun i => (W[i]?).any (fitW S k)) (List.range W.length)
  rwa [List.length_range] at this
theorem filter_snoc {α : Type} {p : α → Bool} {l : List α} {j : Nat} {a : α} (h : l[j]? = some a) : (l.take (j + 1)).filter p = (l.take j).filter p ++ if p a = true then [a] else [] := by
  rw [List.take_add_one, h, List.filter_append]
  cases e : p a <;> simp [e]
theorem said_spec {W : Wls} {S : Sn} (ok : WOk W S) (k : Nat) (q : Qn) : s_said_by [fz (wlD W), fz (snD S), fz (.int k), fz (qnD q)] = some (fz (.tup [.lst (ixL (yesW W S k q)), .lst (ixL (noW W S k q))]), []) := by
  have e1 := worlds_spec (k := k) ok.wl ok.sl fun st h => Nat.le_of_lt (ok.sz st h)
  simp [s_said_by_eq, d_said_by, e1]
  generalize hF : forL _ _ _ _ = F
  obtain ⟨e, rfl, x, rfl⟩ := forA (enc := fun i : Nat => D.int (i : Int)) hF (fun j env => ∃ x, env = [some (fz (wlD W)), some (fz (snD S)), some (fz (.int k)), some (fz (qnD q)), some (ow (.lst (ixL (((leftW W S k).take j).filter (sayI W k q))))), some (ow (.lst (ixL (((leftW W S k).take j).filter fun i => !sayI W k q i)))), x]) ⟨_, rfl⟩ (by
    rintro j i e hi ⟨x, rfl⟩
    have hil := leftW_lt (List.mem_of_getElem? hi)
    have hj := (List.getElem?_eq_some_iff.mp hi).1
    have hll := leftW_len W S k
    have ew : W[i]? = some W[i] := List.getElem?_eq_getElem hil
    have e2 := says_spec W[i] (Nat.le_of_lt (ok.sz _ (List.getElem_mem hil))) k q
    have e3 : sayI W k q i = saysW W[i] k q := by unfold sayI; rw [ew]; rfl
    rw [filter_snoc hi, filter_snoc hi]
    have l1 : (((leftW W S k).take j).filter (sayI W k q)).length < sizeLine := by
      have := List.length_filter_le (sayI W k q) ((leftW W S k).take j)
      rw [List.length_take] at this
      rw [sizeL]; have := ok.wl; omega
    have l2 : (((leftW W S k).take j).filter fun i => !sayI W k q i).length < sizeLine := by
      have := List.length_filter_le (fun i => !sayI W k q i) ((leftW W S k).take j)
      rw [List.length_take] at this
      rw [sizeL]; have := ok.wl; omega
    generalize ((leftW W S k).take j).filter (sayI W k q) = ya at *
    generalize ((leftW W S k).take j).filter (fun i => !sayI W k q i) = na at *
    have ei : (wlD W) = .tup (W.map stD) := rfl
    cases h : saysW W[i] k q with
    | true =>
      rw [h] at e2 e3
      simp [atI_nat, ew, e2, e3, l1]
    | false =>
      rw [h] at e2 e3
      simp [atI_nat, ew, e2, e3, l2])
  rw [List.take_length]
  simp [yesW, noW]
theorem ixl_emp (l : List Nat) : (ixL l).isEmpty = l.isEmpty := by cases l <;> rfl
def toldW (W : Wls) (S : Sn) (k : Nat) (q : Qn) : D := if (yesW W S k q).isEmpty = (noW W S k q).isEmpty then .non else .bl (!(yesW W S k q).isEmpty)
def twinsW (W : Wls) (S : Sn) (k : Nat) (q : Qn) : D := match yesW W S k q, noW W S k q with
  | a :: _, b :: _ => .tup [.int (a : Int), .int (b : Int)]
  | _, _ => .non
theorem told_spec64 {W : Wls} {S : Sn} (ok : WOk W S) (k : Nat) (q : Qn) : s_told [fz (wlD W), fz (snD S), fz (.int k), fz (qnD q)] = some (fz (toldW W S k q), []) := by
  have e1 := said_spec ok k q
  unfold toldW
  generalize yesW W S k q = y at *
  generalize noW W S k q = n at *
  cases y <;> cases n <;> simp [s_told_eq, d_told, e1]
theorem twins_spec {W : Wls} {S : Sn} (ok : WOk W S) (k : Nat) (q : Qn) : s_twins [fz (wlD W), fz (snD S), fz (.int k), fz (qnD q)] = some (fz (twinsW W S k q), []) := by
  have e1 := said_spec ok k q
  unfold twinsW
  generalize yesW W S k q = y at *
  generalize noW W S k q = n at *
  cases y <;> cases n <;> simp [s_twins_eq, d_twins, e1, atI_of]
end Wk
end

section
/-! P26: worlds, rows seen and questions, as drawn. -/
namespace Wk
open PySem PySem.Spec PyProof.Rows L2
theorem typed_specL {ls : List (List Nat)} (hl : Lets ls) (ns : List Int) {ws : List (List Nat)} (hw : ∀ w ∈ ws, w.length ≤ 40 ∧ AZ w) (hz : ws.length ≤ 1000) : ∃ t ns', t.length ≤ 41 ∧ AZ t ∧ s__law_typed [ow (nums ns), fz (.lst (txtL ls)), fz (.lst (txtL ws))] = some (fz (.str t), [ow (nums ns')]) := by
  obtain ⟨r, ns1, r0, r1, e1⟩ := take_spec ns (m := 6) (by omega)
  by_cases h0 : r = 0
  · subst h0
    exact ⟨[], ns1, by simp, .nil, by simp [s__law_typed_eq, d__law_typed, e1]⟩
  by_cases h1 : r = 1 ∨ ws = []
  · obtain ⟨t, ns2, ht, ht', e2⟩ := text_spec hl ns1 (m := 3) (by omega) (by omega)
    refine ⟨t, ns2, by omega, ht', ?_⟩
    by_cases h2 : r = 1
    · subst h2
      simp [s__law_typed_eq, d__law_typed, e1, e2]
    · have h3 := h1.resolve_left h2
      subst h3
      simp [s__law_typed_eq, d__law_typed, e1, h0, h2, e2]
  · obtain ⟨h1, h2⟩ := not_or.mp h1
    obtain ⟨w, ns2, hwm, e2⟩ := pick_txt ns1 h2
    have ⟨hwl, hwa⟩ := hw w hwm
    by_cases h3 : r = 2
    · subst h3
      exact ⟨w, ns2, by omega, hwa, by simp [s__law_typed_eq, d__law_typed, e1, h2, e2]⟩
    · by_cases h4 : r = 3
      · subst h4
        obtain ⟨c, ns3, hc, e3⟩ := pick_txt ns2 hl.ne
        have hc1 := hl.one c hc
        have hs : w.length + c.length ≤ sizeLine := by rw [sizeL]; omega
        exact ⟨w ++ c, ns3, by simp; omega, hwa.app (hl.az c hc), by simp [s__law_typed_eq, d__law_typed, e1, h2, e2, e3, hs]⟩
      · obtain ⟨q, ns3, q0, q1, e3⟩ := take_spec ns2 (m := min (w.length : Int) 3 + 1) (by omega)
        exact ⟨w.take q.toNat, ns3, by rw [List.length_take]; omega, hwa.take _, by simp [s__law_typed_eq, d__law_typed, e1, h0, h1, h2, h3, h4, e2, e3, cutL_to, q0]⟩

theorem dataL_sts : ∀ {W : Wls}, (∀ st ∈ W, st.length ≤ sizeLine) → dataL (W.map stD) = true ∧ depL (W.map stD) ≤ 2
  | [], _ => by simp [dataL, depL]
  | st :: W, h => by
    obtain ⟨h1, h2⟩ := dataL_sts (W := W) fun s hs => h s (List.mem_cons_of_mem _ hs)
    have g := Gd.st (h st List.mem_cons_self)
    have g1 := g.data
    have g2 := g.dep
    rw [List.map_cons, dataL, depL]
    generalize W.map stD = r at *
    generalize stD st = d at *
    refine ⟨by rw [g1, h1]; rfl, by omega⟩
theorem inOk_sts {W : Wls} {st : St} (h : ∀ s ∈ W, s.length ≤ sizeLine) (hs : st.length ≤ sizeLine) : inOk (stD st) (W.map stD) = true := by
  obtain ⟨h1, h2⟩ := dataL_sts h
  have g := Gd.st hs
  have g1 := g.data
  have g2 := g.dep
  unfold inOk
  generalize W.map stD = r at *
  generalize stD st = d at *
  rw [g1, h1, decide_eq_true (by omega), decide_eq_true (by omega)]
  rfl
theorem memB_sts (W : Wls) (st : St) : memB (stD st) (W.map stD) = decide (st ∈ W) := by
  unfold memB
  rw [List.any_map, Bool.eq_iff_iff]
  simp
theorem cutL_map {α β : Type} (f : α → β) (l : List α) (lo hi : Option Int) : cutL (l.map f) lo hi = (cutL l lo hi).map f := by
  unfold cutL
  simp
theorem pick_st (ns : List Int) {W : Wls} (h : W ≠ []) : ∃ st ns', st ∈ W ∧ s__law_pick [ow (nums ns), fz (wlD W)] = some (fz (stD st), [ow (nums ns')]) := by
  obtain ⟨x, ns', hx, e⟩ := pick_tup ns (xs := W.map stD) (by simpa using h)
  obtain ⟨st, hst, rfl⟩ := List.mem_map.mp hx
  exact ⟨st, ns', hst, e⟩
theorem pick_stL (ns : List Int) {W : Wls} (h : W ≠ []) : ∃ st ns', st ∈ W ∧ s__law_pick [ow (nums ns), fz (.lst (W.map stD))] = some (fz (stD st), [ow (nums ns')]) := by
  obtain ⟨x, ns', hx, e⟩ := pick_lst ns (xs := W.map stD) (by simpa using h)
  obtain ⟨st, hst, rfl⟩ := List.mem_map.mp hx
  exact ⟨st, ns', hst, e⟩
theorem memB_ix (i : Nat) (l : List Nat) : inOk (.int (i : Int)) (ixL l) = true ∧ memB (.int (i : Int)) (ixL l) = decide (i ∈ l) := by
  constructor
  · have h1 : dataL (ixL l) = true ∧ depL (ixL l) = 0 := by
      induction l with
      | nil => exact ⟨rfl, rfl⟩
      | cons x bs ih => simp [dataL, dataD, depL, depD, ih]
    unfold inOk
    rw [h1.1, h1.2]
    simp [dataD, depD]
  · unfold memB
    rw [List.any_map, Bool.eq_iff_iff]
    simp
    constructor
    · rintro ⟨x, hx, h⟩
      have : x = i := by omega
      rw [← this]; exact hx
    · intro h
      exact ⟨i, h, rfl⟩
/-- the law's going -/
theorem goes64 {W : Wls} {S : Sn} (ok : WOk W S) (k : Nat) (q : Qn) : s__law_goes_k64 [fz (wlD W), fz (snD S), fz (.int k), fz (qnD q)] = some (fz (.bl true), []) := by
  have c1 : -4611686018427387904 ≤ (W.length : Int) := by omega
  have c2 : (W.length : Int) < 4611686018427387904 := by have := ok.wl; omega
  have eT := told_spec64 ok k q
  have eU := twins_spec ok k q
  have hll := leftW_len W S k
  have zl : (leftW W S k).length ≤ sizeLine := by rw [sizeL]; have := ok.wl; omega
  simp [s__law_goes_k64_eq, d__law_goes_k64, c1, c2]
  generalize hG : lcL _ _ _ _ _ _ = G
  rw [intsFrom_map] at hG
  obtain rfl := lcL_filA hG (fun i => (W[i]?).any (fitW S k)) (fun i : Nat => D.int (i : Int)) (fun i hi => by
    have hil : i < W.length := by simpa using hi
    have ew : W[i]? = some W[i] := List.getElem?_eq_getElem hil
    have e1 := shows_spec (k := k) (S := S) ok.sl ok.ss (Nat.le_of_lt (ok.sz _ (List.getElem_mem hil)))
    cases h : fitW S k W[i] <;> rw [h] at e1 <;> simp [atI_nat, ew, e1, h])
  have el : ((List.range W.length).filter fun i => (W[i]?).any (fitW S k)) = leftW W S k := rfl
  rw [el]
  simp [zl]
  generalize hG : lcL _ _ _ _ _ _ = G
  obtain rfl := lcL_filA hG (sayI W k q) (fun i : Nat => D.int (i : Int)) (fun i hi => by
    have hil := leftW_lt hi
    have ew : W[i]? = some W[i] := List.getElem?_eq_getElem hil
    have e2 := lsays_spec W[i] (ok.sz _ (List.getElem_mem hil)) k q
    have e3 : sayI W k q i = saysW W[i] k q := by unfold sayI; rw [ew]; rfl
    rw [e3]
    cases h : saysW W[i] k q <;> rw [h] at e2 <;> simp [atI_nat, ew, e2])
  have ey : (leftW W S k).filter (sayI W k q) = yesW W S k q := rfl
  have zy : (yesW W S k q).length ≤ sizeLine := Nat.le_trans (List.length_filter_le _ _) zl
  rw [ey]
  simp [zy]
  generalize hG : lcL _ _ _ _ _ _ = G
  obtain rfl := lcL_filA hG (fun i => !sayI W k q i) (fun i : Nat => D.int (i : Int)) (fun i hi => by
    obtain ⟨m1, m2⟩ := memB_ix i (yesW W S k q)
    have e3 : decide (i ∈ yesW W S k q) = sayI W k q i := by
      unfold yesW
      rw [Bool.eq_iff_iff, decide_eq_true_iff, List.mem_filter]
      exact ⟨fun h => h.2, fun h => ⟨hi, h⟩⟩
    rw [e3] at m2
    generalize yesW W S k q = y at *
    cases h : sayI W k q i <;> rw [h] at m2 <;> simp [m1, m2])
  have en : ((leftW W S k).filter fun i => !sayI W k q i) = noW W S k q := rfl
  have zn : (noW W S k q).length ≤ sizeLine := Nat.le_trans (List.length_filter_le _ _) zl
  rw [en]
  have g0 : s__law_same 8 [fz .non, fz .non] = some (fz (.bl true), []) := (Gd.non 7).same
  have g1 : ∀ b : Bool, s__law_same 8 [fz (.bl b), fz (.bl b)] = some (fz (.bl true), []) := fun b => (Gd.bl 7 b).same
  have g2 : ∀ a b : Int, s__law_same 8 [fz (.tup [.int a, .int b]), fz (.tup [.int a, .int b])] = some (fz (.bl true), []) := fun a b => by
    refine Gd.same (Gd.mono (n := 1) (Gd.tup (by rw [sizeL]; simp) fun x hx => ?_) (by omega))
    simp at hx
    rcases hx with rfl | rfl <;> exact Gd.int 0 _
  have hL : (leftW W S k).length = (yesW W S k q).length + (noW W S k q).length := by
    unfold yesW noW
    generalize leftW W S k = L
    induction L with
    | nil => rfl
    | cons a L ih =>
      rw [List.filter_cons, List.filter_cons, List.length_cons, ih]
      cases sayI W k q a <;> simp <;> omega
  unfold toldW at eT
  unfold twinsW at eU
  generalize leftW W S k = L at *
  generalize yesW W S k q = y at *
  generalize noW W S k q = n at *
  cases y with
  | nil =>
    cases n with
    | nil =>
      have : L = [] := List.eq_nil_of_length_eq_zero (by simpa using hL)
      subst this
      simp at eT eU
      simp [eT, eU, g0]
    | cons b n =>
      have : 0 < L.length := by rw [hL]; simp
      simp at eT eU zn
      simp [eT, eU, g0, g1, zn, this]
  | cons a y =>
    cases n with
    | nil =>
      have : 0 < L.length := by rw [hL]; simp
      simp at eT eU
      simp [eT, eU, g0, g1, this]
    | cons b n =>
      simp at eT eU zn
      simp [eT, eU, g0, g2, zn, atI_of]
end Wk
end

section
/-! P27: worlds, rows seen and questions that the law makes. -/
namespace Wk
open PySem PySem.Spec PyProof.Rows L2
theorem worlds_gen {ls : List (List Nat)} (hl : Lets ls) (ns : List Int) {many : Nat} (h1 : 1 ≤ many) (h2 : many ≤ 24) :
    ∃ W ns', (∀ st ∈ W, Sto 18 60 st) ∧ W ≠ [] ∧ W.length ≤ 30 ∧ s__law_worlds [ow (nums ns), fz (.lst (txtL ls)), fz (.int (many : Nat))] = some (fz (wlD W), [ow (nums ns')]) := by
  obtain ⟨st0, ms0, hst0, e0⟩ := store_spec hl ns (m := 5) (by omega)
  have e0 : s__law_store [ow (nums ns), fz (.lst (txtL ls)), fz (.int 5)] = some (fz (stD st0), [ow (nums ms0)]) := e0
  obtain ⟨r, ms1, r0, r1, e1⟩ := take_spec ms0 (m := (many : Int)) (by omega)
  have c1 : -4611686018427387904 ≤ r := by omega
  have c2 : r < 4611686018427387904 := by omega
  simp [s__law_worlds_eq, d__law_worlds, e0, e1, c1, c2]
  generalize hF : forL _ _ _ _ = F
  obtain ⟨e, rfl, ms, W, a, b, c, rfl, q1, q2, q3⟩ := forN hF (fun j env => ∃ ms W a b c, env = [some (ow (nums ms)), some (fz (.lst (txtL ls))), some (fz (.int (many : Nat))), some (ow (.lst (W.map stD))), a, b, c] ∧ (AllP (Sto 18 (5 + 2 * j)) W) ∧ W ≠ [] ∧ W.length ≤ j + 1) ⟨_, [st0], _, _, _, rfl, by intro s hs; rw [List.mem_singleton.mp hs]; exact hst0, by simp, by simp⟩ (by
    rintro j d e hd ⟨ms, W, a, b, c, rfl, q1, q2, q3⟩
    obtain ⟨hj, rfl⟩ := intsFrom_get hd
    have hj15 : j < 24 := by omega
    obtain ⟨st, ms1, hst, e2⟩ := pick_stL ms q2
    obtain ⟨t, ms2, t0, t1, e3⟩ := take_spec ms1 (m := 2) (by omega)
    have d1 : -4611686018427387904 ≤ 1 + t := by omega
    have d2 : 1 + t < 4611686018427387904 := by omega
    simp [e2, e3, d1, d2]
    generalize hF2 : forL _ _ _ _ = F2
    obtain ⟨e, rfl, ms3, st', c, rfl, p1⟩ := forN hF2 (fun i env => ∃ ms st' c, env = [some (ow (nums ms)), some (fz (.lst (txtL ls))), some (fz (.int (many : Nat))), some (ow (.lst (W.map stD))), some (fz (.int j)), some (fz (stD st')), c] ∧ Sto 18 (5 + 2 * j + i) st') ⟨_, _, _, rfl, q1 st hst⟩ (by
      rintro i d e hd ⟨ms, st', c, rfl, p1⟩
      obtain ⟨hi, rfl⟩ := intsFrom_get hd
      obtain ⟨cg, ms4, hc, e4⟩ := change_spec hl ms p1
      have e5 := lchanged_spec st' cg (by rw [sizeL]; have := p1.few; omega)
      simp [e4, e5]
      exact ⟨_, _, ⟨rfl, rfl⟩, p1.chg hc.one hc.few hc.az⟩)
    rw [intsFrom_len'] at p1
    have p2 : Sto 18 (5 + 2 * (j + 1)) st' := p1.mono (Nat.le_refl _) (by omega)
    have hWz : ∀ s ∈ W, s.length ≤ sizeLine := fun s hs => by rw [sizeL]; have := (q1 s hs).few; omega
    have hm := memB_sts W st'
    have hi := inOk_sts hWz (show st'.length ≤ sizeLine by rw [sizeL]; have := p2.few; omega)
    have hz : W.length < sizeLine := by rw [sizeL]; omega
    have q1' : AllP (Sto 18 (5 + 2 * (j + 1))) W := fun s hs => (q1 s hs).mono (Nat.le_refl _) (by omega)
    by_cases hw : st' ∈ W
    · rw [decide_eq_true hw] at hm
      simp [hi, hm]
      exact ⟨_, _, ⟨rfl, rfl⟩, q1', q2, by omega⟩
    · rw [decide_eq_false hw] at hm
      simp [hi, hm, hz]
      refine ⟨_, W ++ [st'], ⟨rfl, by simp⟩, ?_, by simp, by simp; omega⟩
      intro s hs
      rcases List.mem_append.mp hs with hs | hs
      · exact q1' s hs
      · rw [List.mem_singleton.mp hs]; exact p2)
  rw [intsFrom_len'] at q1 q3
  have hz : W.length ≤ sizeLine := by rw [sizeL]; omega
  exact ⟨W, fun s hs => (q1 s hs).mono (Nat.le_refl _) (by omega), q2, by omega, ms, by simp [hz]⟩
theorem wrong_spec (ns : List Int) {st : St} (hst : Sto 18 60 st) {t : List Nat} (ht : t.length ≤ 41) {l : List (List Nat)} (hl : l.length ≤ 100) {k : Nat} (hk : k ≤ 10) :
    ∃ l' ns', l'.length ≤ 200 ∧ s__law_wrong_row [ow (nums ns), fz (stD st), fz (.str t), fz (.tup (txtL l)), fz (.int k)] = some (fz (.tup (txtL l')), [ow (nums ns')]) := by
  obtain ⟨r, ms, r0, r1, e1⟩ := take_spec ns (m := 5) (by omega)
  have hz : st.length ≤ sizeLine := hst.sz (by omega)
  have hf := hst.few
  have hzl : l.length ≤ sizeLine := by rw [sizeL]; omega
  by_cases h0 : r = 0
  · subst h0
    have e2 := lrow_spec st (cutL t none (some ((t.length : Int) - 1))) k hz
    refine ⟨rowW st (cutL t none (some ((t.length : Int) - 1))) k, ms, Nat.le_trans (rowW_len st _ k) (by omega), ?_⟩
    generalize rowW st (cutL t none (some ((t.length : Int) - 1))) k = rr at *
    simp [s__law_wrong_row_eq, d__law_wrong_row, e1, e2]
  by_cases h1 : r = 1
  · subst h1
    refine ⟨l.reverse, ms, by simp; omega, ?_⟩
    simp [s__law_wrong_row_eq, d__law_wrong_row, e1, hzl]
  by_cases h2 : r = 2
  · subst h2
    refine ⟨cutL l none (some ((l.length : Int) - 1)), ms, Nat.le_trans (cutL_len _ _ _) (by omega), ?_⟩
    simp [s__law_wrong_row_eq, d__law_wrong_row, e1, cutL_map]
  by_cases h3 : r = 3
  · subst h3
    refine ⟨(l ++ [t ++ [113]]).take k, ms, by simp; omega, ?_⟩
    have z1 : l.length + 1 ≤ sizeLine := by rw [sizeL]; omega
    have z2 : t.length + 1 ≤ sizeLine := by rw [sizeL]; omega
    simp [s__law_wrong_row_eq, d__law_wrong_row, e1, z1, z2, -List.take_append]
  · have e2 := behind_spec st t hz
    have e3 := lbest_spec ((begP st t).map fun p => (p.1, 0 - p.2)) k (by rw [List.length_map]; exact Nat.le_trans (List.length_filter_le _ _) hz)
    have hb : (begP st t).length ≤ 60 := Nat.le_trans (List.length_filter_le _ _) hf
    generalize begP st t = B at *
    have hzB : B.length ≤ sizeLine := by rw [sizeL]; omega
    have em : (B.map fun p : List Nat × Int => prD (p.1, 0 - p.2)) = prL (B.map fun p => (p.1, 0 - p.2)) := by simp
    have hB' : (B.map fun p : List Nat × Int => (p.1, 0 - p.2)).length = B.length := List.length_map _
    simp [s__law_wrong_row_eq, d__law_wrong_row, e1, h0, h1, h2, h3, e2]
    generalize hG : lcL _ _ _ _ _ _ = G
    obtain rfl := lcL_mapA (enc := prD) hG (fun p => prD (p.1, 0 - p.2)) (by
      intro p hp
      simp)
    rw [em]
    generalize B.map (fun p : List Nat × Int => (p.1, 0 - p.2)) = B' at *
    have hzB' : B'.length ≤ sizeLine := by rw [hB']; exact hzB
    refine ⟨((ordP B').take k).map (·.1), by rw [List.length_map, List.length_take, ordP_len]; omega, ?_⟩
    generalize ((ordP B').take k).map (·.1) = rr at *
    simp [hzB', e3]
@[simp] theorem clean_sn (S : Sn) : cleanV (fz (snD S)) = true := by
  have : immL (S.map seD) = true := by
    induction S with
    | nil => rfl
    | cons p T ih =>
      have h := clean_txt p.2
      have h : imm (.tup (txtL p.2)) = true := by simpa [cleanV] using h
      rw [List.map_cons, immL, ih, Bool.and_true]
      simp only [imm, immL, Bool.and_true, Bool.true_and] at h ⊢
      exact h
  simpa [cleanV, imm] using this
theorem seen_gen {ls : List (List Nat)} (hl : Lets ls) (ns : List Int) {W : Wls} (hW : ∀ st ∈ W, Sto 18 60 st) (h0 : W ≠ []) {k wr : Nat} (hk : k ≤ 10) (hwr : 1 ≤ wr) :
    ∃ S ns', S.length ≤ 10 ∧ (∀ s ∈ S, s.2.length ≤ 1000) ∧ s__law_seen [ow (nums ns), fz (.lst (txtL ls)), fz (wlD W), fz (.int k), fz (.int (wr : Nat))] = some (fz (snD S), [ow (nums ns')]) := by
  obtain ⟨st, ms, hst, e1⟩ := pick_st ns h0
  have hS := hW st hst
  have hz : st.length ≤ sizeLine := hS.sz (by omega)
  have hf := hS.few
  obtain ⟨r, ms1, r0, r1, e2⟩ := take_spec ms (m := 4) (by omega)
  have c1 : -4611686018427387904 ≤ r := by omega
  have c2 : r < 4611686018427387904 := by omega
  simp [s__law_seen_eq, d__law_seen, e1, e2, c1, c2]
  generalize hF : forL _ _ _ _ = F
  obtain ⟨e, rfl, ms, S, a, b, c, rfl, q1, q2⟩ := forN hF (fun j env => ∃ ms S a b c, env = [some (ow (nums ms)), some (fz (.lst (txtL ls))), some (fz (wlD W)), some (fz (.int k)), some (fz (.int (wr : Nat))), some (fz (stD st)), some (ow (.lst (S.map seD))), a, b, c] ∧ S.length ≤ j ∧ AllP (fun s : List Nat × List (List Nat) => s.2.length ≤ 1000) S) ⟨_, [], _, _, _, rfl, by simp, by intro s hs; cases hs⟩ (by
    rintro j d e hd ⟨ms, S, a, b, c, rfl, q1, q2⟩
    obtain ⟨hj, rfl⟩ := intsFrom_get hd
    have e3 := words_of_spec st hz
    obtain ⟨t, ms2, t1, t2, e4⟩ := typed_spec hl ms (ws := st.map (·.1)) (hS.words (by omega)) (by rw [List.length_map]; omega)
    have e5 := lrow_spec st t k hz
    have hr : (rowW st t k).length ≤ 100 := Nat.le_trans (rowW_len st t k) (by omega)
    obtain ⟨u, ms3, u0, u1, e6⟩ := take_spec ms2 (m := (wr : Int)) (by omega)
    obtain ⟨l', ms4, hl', e7⟩ := wrong_spec ms3 hS t1 hr hk
    have hSz : S.length < sizeLine := by rw [sizeL]; omega
    have fin : ∀ l : List (List Nat), l.length ≤ 1000 → AllP (fun s : List Nat × List (List Nat) => s.2.length ≤ 1000) (S ++ [(t, l)]) := fun l hl s hs => by
      rcases List.mem_append.mp hs with hs | hs
      · exact q2 s hs
      · rw [List.mem_singleton.mp hs]; exact hl
    generalize st.map (·.1) = ws at *
    generalize rowW st t k = rr at *
    by_cases hu : u = 0
    · subst hu
      simp [e3, e4, e5, e6, e7, hSz, show 0 < wr by omega]
      exact ⟨_, S ++ [(t, l')], ⟨rfl, by simp⟩, by simp; omega, fin l' (by omega)⟩
    · simp [e3, e4, e5, e6, hu, hSz, show 0 < wr by omega]
      exact ⟨_, S ++ [(t, rr)], ⟨rfl, by simp⟩, by simp; omega, fin rr (by omega)⟩)
  rw [intsFrom_len'] at q1
  have hSz : S.length ≤ sizeLine := by rw [sizeL]; omega
  simp [hSz]
  exact ⟨S, by omega, fun a b h => q2 (a, b) h, rfl⟩
theorem questions_gen {ls : List (List Nat)} (hl : Lets ls) (ns : List Int) {W : Wls} (hW : ∀ st ∈ W, Sto 18 60 st) (h0 : W ≠ []) {k : Nat} (hk : k ≤ 10) :
    ∃ (Q : List Qn) (ns' : List Int), Q ≠ [] ∧ Q.length ≤ 20 ∧ s__law_questions [ow (nums ns), fz (.lst (txtL ls)), fz (wlD W), fz (.int k)] = some (ow (.lst (Q.map qnD)), [ow (nums ns')]) := by
  obtain ⟨sa, ms, hsa, e1⟩ := pick_st ns h0
  obtain ⟨sb, ms1, hsb, e2⟩ := pick_st ms h0
  have hA := hW sa hsa
  have hB := hW sb hsb
  have fa := hA.few
  have fb := hB.few
  have z1 : sa.length + sb.length ≤ sizeLine := by rw [sizeL]; omega
  have e3 := words_of_spec (sa ++ sb) (by rw [List.length_append]; exact z1)
  have hww : ∀ w ∈ (sa ++ sb).map (·.1), w.length ≤ 40 ∧ AZ w := fun w hw => by
    rw [List.map_append] at hw
    rcases List.mem_append.mp hw with hw | hw
    · exact hA.words (by omega) w hw
    · exact hB.words (by omega) w hw
  have hwl : ((sa ++ sb).map (·.1)).length ≤ 120 := by rw [List.length_map, List.length_append]; omega
  obtain ⟨w, ms2, w1, w2, w3, e4⟩ := word_spec hl ms1
  have ea : stD (sa ++ sb) = .tup (prL sa ++ prL sb) := by simp
  rw [ea] at e3
  generalize (sa ++ sb).map (·.1) = ws at *
  have z2 : ws.length ≤ sizeLine := by rw [sizeL]; omega
  have z3 : ws.length < sizeLine := by rw [sizeL]; omega
  simp [s__law_questions_eq, d__law_questions, e1, e2, e3, e4, z1, z2, z3]
  have hvw : ∀ v ∈ ws ++ [w], v.length ≤ 40 ∧ AZ v := fun v hv => by
    rcases List.mem_append.mp hv with hv | hv
    · exact hww v hv
    · rw [List.mem_singleton.mp hv]; exact ⟨by omega, w3⟩
  have hvl : (ws ++ [w]).length ≤ 1000 := by simp; omega
  have hv0 : ws ++ [w] ≠ [] := by simp
  have ev : txtL ws ++ [D.str w] = txtL (ws ++ [w]) := by simp
  rw [ev]
  generalize ws ++ [w] = vs at *
  generalize hF : forL _ _ _ _ = F
  obtain ⟨e, rfl, ms, Q, a, b, c, d, rfl, q1, q2⟩ := forN hF (fun j env => ∃ ms Q a b c d, env = [some (ow (nums ms)), some (fz (.lst (txtL ls))), some (fz (wlD W)), some (fz (.int k)), some (ow (.lst (txtL vs))), some (ow (.lst (Q.map qnD))), a, b, c, d] ∧ Q.length = 3 * j ∧ True) ⟨_, [], _, _, _, _, rfl, rfl, trivial⟩ (by
    rintro j d e hd ⟨ms, Q, a, b, c, d', rfl, q1, -⟩
    obtain ⟨hj, rfl⟩ := intsFrom_get hd
    obtain ⟨o, ms1, ho, e5⟩ := pick_txt ms hv0
    obtain ⟨p, ms2, hp, e6⟩ := pick_txt ms1 hv0
    obtain ⟨st, ms3, hst, e7⟩ := pick_st ms2 h0
    obtain ⟨t, ms4, t1, t2, e8⟩ := typed_specL hl ms3 hvw hvl
    obtain ⟨x, ms5, hx, e9⟩ := pick_lst ms4 (xs := [.int k, .int k, .int k, .int 1]) (by simp)
    obtain ⟨k', rfl⟩ : ∃ k' : Nat, x = .int (k' : Int) := by
      simp at hx
      rcases hx with rfl | rfl
      · exact ⟨k, rfl⟩
      · exact ⟨1, rfl⟩
    have hS := hW st hst
    have e10 := lrow_spec st t k' (hS.sz (by omega))
    have y1 : Q.length < sizeLine := by rw [sizeL]; omega
    have y2 : Q.length + 1 < sizeLine := by rw [sizeL]; omega
    have y3 : Q.length + 1 + 1 < sizeLine := by rw [sizeL]; omega
    generalize rowW st t k' = rr at *
    simp [e5, e6, e7, e8, e9, e10, y1, y2, y3]
    exact ⟨_, Q ++ [.has o, .better o p, .row t rr], ⟨rfl, by simp [qnD]⟩, by simp; omega⟩)
  rw [intsFrom_len'] at q1
  simp
  refine ⟨Q, fun e => ?_, by omega, rfl⟩
  rw [e] at q1
  simp at q1
@[simp] theorem clean_wl (W : Wls) : cleanV (fz (wlD W)) = true := by
  have : immL (W.map stD) = true := by
    induction W with
    | nil => rfl
    | cons st W ih =>
      have h := clean_st st
      have h : imm (stD st) = true := by simpa [cleanV] using h
      rw [List.map_cons, immL, ih, h]
      rfl
  simpa [cleanV, imm] using this
theorem imm_qn (q : Qn) : imm (qnD q) = true := by
  cases q with
  | has w => simp [qnD, imm, immL]
  | row t l =>
    have h := clean_txt l
    have h : imm (.tup (txtL l)) = true := by simpa [cleanV] using h
    simp only [qnD, imm, immL, Bool.and_true, Bool.true_and] at h ⊢
    exact h
  | better a b => simp [qnD, imm, immL]
@[simp] theorem clean_qs (Q : List Qn) : cleanV (ow (.lst (Q.map qnD))) = true := by
  have : immL (Q.map qnD) = true := by
    induction Q with
    | nil => rfl
    | cons q Q ih =>
      rw [List.map_cons, immL, ih, imm_qn]
      rfl
  simpa [cleanV, imm] using this
end Wk
end

section
/-! P28: nodes of a store, worths of nodes. -/
namespace Wk
open PySem PySem.Spec PyProof.Rows L2
@[simp] theorem eSortSC_ev {own us : List Nat} {it : XI} {g : Val → En → Option En} {t : XT} {it2 : XI} {g2 : Val → En → Option En} {t2 : XT} {f : XE} {env : En} : eSortSC own us it g t it2 g2 t2 f env = (it env).bind fun p =>
  (lcL2 own us g t it2 g2 t2 f p.1 (wipeE p.2 own)).bind fun q => (strsD q.1).bind fun ts =>
    if (ts.foldl addS1 []).length + 1 < 4096 then some (ow (.lst (((ts.foldl addS1 []).map D.str).mergeSort leB)), backE p.2 q.2 own) else none := id rfl
theorem strsD_txt : ∀ l : List (List Nat), strsD (txtL l) = some l
  | [] => rfl
  | s :: l => by
    show (strsD (txtL l)).map (s :: ·) = _
    rw [strsD_txt l]
    rfl
theorem addS1_mem {l : List (List Nat)} {t x : List Nat} : x ∈ addS1 l t ↔ x ∈ l ∨ x = t := by
  unfold addS1
  split
  · rename_i h
    exact ⟨.inl, fun z => z.elim id fun e => by rw [e]; exact h⟩
  · rw [List.mem_cons]; exact Or.comm
theorem foldS_mem : ∀ {ts l : List (List Nat)} {x : List Nat}, x ∈ ts.foldl addS1 l ↔ x ∈ l ∨ x ∈ ts
  | [], l, x => by simp
  | t :: ts, l, x => by
    rw [List.foldl_cons, foldS_mem, addS1_mem, List.mem_cons, or_assoc]
theorem foldS_nd : ∀ {ts l : List (List Nat)}, l.Nodup → (ts.foldl addS1 l).Nodup
  | [], _, h => h
  | t :: ts, l, h => foldS_nd (ts := ts) (by
    unfold addS1
    split
    · exact h
    · rename_i n; exact List.nodup_cons.mpr ⟨n, h⟩)
theorem foldS_few : ∀ {ts l : List (List Nat)}, (ts.foldl addS1 l).length ≤ l.length + ts.length
  | [], _ => Nat.le_refl _
  | t :: ts, l => by
    have h := foldS_few (ts := ts) (l := addS1 l t)
    have h2 : (addS1 l t).length ≤ l.length + 1 := by unfold addS1; split <;> simp
    rw [List.foldl_cons, List.length_cons]
    omega
theorem nodes_clause (S : Slo) : ∀ (st : St), (∀ p ∈ st, p.1.length < 16000000) → lcL2 [1, 2, 3] [3] (gT [gN 1, gN 2]) Wk.tYes (xSeq (eCall s_beginnings [] [.s 1])) (gN 3) Wk.tYes (eV 3) (prL st) [S, none, none, none] = some (txtL ((st.map (·.1)).flatMap begL), [S, none, none, none])
  | [], _ => rfl
  | p :: st, h => by
    have e := beginnings_spec p.1 (h p List.mem_cons_self)
    have ih := nodes_clause S st fun q hq => h q (List.mem_cons_of_mem _ hq)
    show lcL2 _ _ _ _ _ _ _ _ (prD p :: prL st) _ = _
    simp [lcL2, e, prD]
    generalize hG : lcL _ _ _ _ _ _ = G
    have := lcL_mapA hG (fun t => D.str t) (by intro t _; simp)
    subst this
    simp [ih]
theorem le_sum : ∀ {l : List Nat} {x : Nat}, x ∈ l → x ≤ l.sum
  | y :: l, x, h => by
    rw [List.sum_cons]
    rcases List.mem_cons.mp h with e | e
    · omega
    · have := le_sum e; omega
theorem nodes_len (ws : List (List Nat)) : (nodesL ws).length ≤ (ws.map fun w => w.length + 1).sum := by
  have h := foldK_len (ws.flatMap begL) []
  rw [flat_beg_len, List.length_nil, Nat.zero_add] at h
  show ((keysOf (ws.flatMap begL)).mergeSort leT).length ≤ _
  rw [List.length_mergeSort]
  exact h
theorem nodes_spec (st : St) (h : ((st.map (·.1)).map fun w => w.length + 1).sum + 1 < 4096) : s_nodes [fz (stD st)] = some (fz (.tup (txtL (nodesL (st.map (·.1))))), []) := by
  have hl : ∀ p ∈ st, p.1.length < 16000000 := fun p hp => by
    have : p.1.length + 1 ≤ ((st.map (·.1)).map fun w => w.length + 1).sum := by
      rw [List.map_map]
      exact le_sum (List.mem_map.mpr ⟨p, hp, rfl⟩)
    omega
  have e1 := nodes_clause (some (fz (stD st))) st hl
  have hf := foldS_few (ts := (st.map (·.1)).flatMap begL) (l := [])
  rw [flat_beg_len, List.length_nil, Nat.zero_add] at hf
  have e3 : ((((st.map (·.1)).flatMap begL).foldl addS1 []).map D.str).mergeSort leB = txtL (nodesL (st.map (·.1))) := by
    have hp : (((st.map (·.1)).flatMap begL).foldl addS1 []).Perm (keysOf ((st.map (·.1)).flatMap begL)) :=
      (List.perm_ext_iff_of_nodup (foldS_nd List.nodup_nil) (foldK_nd List.nodup_nil)).mpr fun x => by rw [foldS_mem]; exact foldK_mem.symm
    rw [sortS_perm hp]
    exact sort_txt _
  have hc : (((st.map (·.1)).flatMap begL).foldl addS1 []).length + 1 < 4096 := by omega
  have hn := nodes_len (st.map (·.1))
  have hn2 : (nodesL (st.map (·.1))).length ≤ sizeLine := by rw [sizeL]; omega
  generalize nodesL (st.map (·.1)) = N at *
  simp [s_nodes_eq, d_nodes, e1, strsD_txt]
  rw [if_pos hc, e3]
  simp [hn2]
theorem sortOk_ints (l : List Int) (h : l.length ≤ sizeLine) : sortOk (l.map D.int) = true := by
  unfold sortOk
  have h0 : dataL (l.map D.int) = true ∧ depL (l.map D.int) = 0 := by
    induction l with
    | nil => exact ⟨rfl, rfl⟩
    | cons a l ih =>
      obtain ⟨i1, i2⟩ := ih (by rw [List.length_cons] at h; omega)
      exact ⟨by rw [List.map_cons, dataL, i1]; rfl, by rw [List.map_cons, depL, i2]; rfl⟩
  have h1 : ((l.map D.int).all fun a => (l.map D.int).all fun b => alikeD a b) = true := by
    refine List.all_eq_true.mpr fun a ha => List.all_eq_true.mpr fun b hb => ?_
    obtain ⟨x, _, rfl⟩ := List.mem_map.mp ha
    obtain ⟨y, _, rfl⟩ := List.mem_map.mp hb
    simp [alikeD, py, PySem.W.alike]
  have h2 : (l.map D.int).all isOtherB = true := List.all_eq_true.mpr fun a ha => by
    obtain ⟨x, _, rfl⟩ := List.mem_map.mp ha
    rfl
  rw [h1, h2, h0.1, h0.2, List.length_map]
  simpa using h
theorem maxL_ints : ∀ (l : List Int) (a : Int), maxL (.int a) (l.map D.int) = .int (l.foldl max a)
  | [], _ => rfl
  | b :: l, a => by
    have e : maxL (.int a) ((b :: l).map D.int) = maxL (if ltB (.int a) (.int b) = true then .int b else .int a) (l.map D.int) := rfl
    have e2 : (if ltB (.int a) (.int b) = true then D.int b else D.int a) = .int (max a b) := by
      rw [ltB_int]
      simp only [decide_eq_true_eq]
      split
      · rw [Int.max_eq_right (by omega)]
      · rw [Int.max_eq_left (by omega)]
    rw [e, e2, maxL_ints l, List.foldl_cons]
theorem minL_ints : ∀ (l : List Int) (a : Int), minL (.int a) (l.map D.int) = .int (l.foldl min a)
  | [], _ => rfl
  | b :: l, a => by
    have e : minL (.int a) ((b :: l).map D.int) = minL (if ltB (.int b) (.int a) = true then .int b else .int a) (l.map D.int) := rfl
    have e2 : (if ltB (.int b) (.int a) = true then D.int b else D.int a) = .int (min a b) := by
      rw [ltB_int]
      simp only [decide_eq_true_eq]
      split
      · rw [Int.min_eq_right (by omega)]
      · rw [Int.min_eq_left (by omega)]
    rw [e, e2, minL_ints l, List.foldl_cons]
theorem maxD1_ints {l : List Int} {a : Int} (h : l.length < sizeLine) : maxD1 (.lst (D.int a :: l.map D.int)) = some (fz (.int (l.foldl max a))) := by
  have e := sortOk_ints (a :: l) (by rw [List.length_cons]; omega)
  rw [List.map_cons] at e
  rw [maxD1_lst, if_pos e, maxL_ints]
def topW (st : St) (t : List Nat) : Int := match begP st t with
  | [] => 0
  | p :: r => (r.map (·.2)).foldl max p.2
theorem node_worth_spec (st : St) (t : List Nat) (h : st.length ≤ sizeLine) (hne : begP st t ≠ []) : s_node_worth [fz (stD st), fz (.str t)] = some (fz (.int (topW st t)), []) := by
  have e := begin_spec st t h
  have hl : (begP st t).length ≤ sizeLine := Nat.le_trans (begP_sub st t).length_le h
  unfold topW
  generalize begP st t = B at *
  cases B with
  | nil => exact absurd rfl hne
  | cons p r =>
    have hr : r.length < sizeLine := by rw [List.length_cons] at hl; omega
    have hm := maxD1_ints (l := r.map (·.2)) (a := p.2) (by rw [List.length_map]; exact hr)
    simp [s_node_worth_eq, d_node_worth, e]
    generalize hG : lcL _ _ _ _ _ _ = G
    have := lcL_mapA (l := p :: r) hG (fun q : List Nat × Int => .int q.2) (by intro q _; simp [prD])
    subst this
    rw [List.map_map] at hm
    have hm : maxD1 (.lst (.int p.2 :: r.map fun q => D.int q.2)) = _ := hm
    have hl2 : r.length + 1 ≤ sizeLine := hl
    simp [hl2, hm, -maxD1_lst]
theorem lnode_worth_spec (st : St) (t : List Nat) (h : st.length ≤ sizeLine) (hne : begP st t ≠ []) : s__law_node_worth [fz (stD st), fz (.str t)] = some (fz (.int (topW st t)), []) := by
  have e := behind_spec st t h
  have hl : (begP st t).length ≤ sizeLine := Nat.le_trans (begP_sub st t).length_le h
  unfold topW
  generalize begP st t = B at *
  cases B with
  | nil => exact absurd rfl hne
  | cons p r =>
    have hr : r.length < sizeLine := by rw [List.length_cons] at hl; omega
    have hm := maxD1_ints (l := r.map (·.2)) (a := p.2) (by rw [List.length_map]; exact hr)
    simp [s__law_node_worth_eq, d__law_node_worth, e]
    generalize hG : lcL _ _ _ _ _ _ = G
    have := lcL_mapA (l := p :: r) hG (fun q : List Nat × Int => .int q.2) (by intro q _; simp [prD])
    subst this
    rw [List.map_map] at hm
    have hm : maxD1 (.lst (.int p.2 :: r.map fun q => D.int q.2)) = _ := hm
    have hl2 : r.length + 1 ≤ sizeLine := hl
    simp [hl2, hm, -maxD1_lst]
/-- what compare_words tells -/
def cmpW (p q : List Nat × Int) : Int := if p.2 = q.2 ∧ p.1 = q.1 then 0 else if ltP p q = true then -1 else 1
theorem compare_spec3 {st : St} (hn : (st.map (·.1)).Nodup) {p q : List Nat × Int} (hp : p ∈ st) (hq : q ∈ st) : s_compare_words [fz (stD st), fz (.str p.1), fz (.str q.1)] = some (fz (.int (cmpW p q)), []) := by
  have e1 := worth_of_spec st p.1
  have e2 := worth_of_spec st q.1
  rw [worthD_of hn hp] at e1
  rw [worthD_of hn hq] at e2
  obtain ⟨a, x⟩ := p
  obtain ⟨b, y⟩ := q
  have e3 := rank_spec (a, x)
  have e4 := rank_spec (b, y)
  have o1 : okEq (rkD (a, x)) (rkD (b, y)) = true := by simp [okEq, dataD, dataL, depD, depL]
  have o2 : deqL [D.int (-x), D.str a] [D.int (-y), D.str b] = decide (x = y ∧ a = b) := by
    rw [Bool.eq_iff_iff]
    simp [deqL]
  have o3 := ltD_rk (a, x) (b, y)
  unfold cmpW
  by_cases h : x = y ∧ a = b
  · obtain ⟨rfl, rfl⟩ := h
    simp [s_compare_words_eq, d_compare_words, e1, e2, e3, e4, o1, o2]
  · cases hl : ltP (a, x) (b, y) with
    | true =>
      rw [hl] at o3
      simp [s_compare_words_eq, d_compare_words, e1, e2, e3, e4, o1, o2, h, o3, -ltD_rk]
    | false =>
      rw [hl] at o3
      simp [s_compare_words_eq, d_compare_words, e1, e2, e3, e4, o1, o2, h, o3, -ltD_rk]
end Wk
end

section
/-! P29: kept rows. -/
namespace Wk
open PySem PySem.Spec PyProof.Rows L2
/-- the pairs of a row -/
def keptW (st : St) (t : List Nat) (k : Nat) : St := (ordP (begP st t)).take k
theorem keptW_words (st : St) (t : List Nat) (k : Nat) : (keptW st t k).map (·.1) = rowW st t k := rfl
theorem keptW_len (st : St) (t : List Nat) (k : Nat) : (keptW st t k).length ≤ st.length := by
  have := rowW_len st t k
  rwa [← keptW_words, List.length_map] at this
theorem bestp_spec (st : St) (k : Nat) (h : st.length ≤ sizeLine) : s_best_pairs [fz (.lst (prL st)), fz (.int k)] = some (fz (stD ((ordP st).take k)), []) := by
  have hz : ((ordP st).take k).length ≤ sizeLine := by rw [List.length_take, ordP_len]; omega
  have e : (prL (ordP st)).take k = prL ((ordP st).take k) := List.map_take.symm
  simp [-sortKD_lst, s_best_pairs_eq, d_best_pairs, sortK_spec st h, -List.map_take]
  exact e
theorem kept_spec (st : St) (t : List Nat) (k : Nat) (h : st.length ≤ sizeLine) : s_kept_row [fz (stD st), fz (.str t), fz (.int k)] = some (fz (stD (keptW st t k)), []) := by
  have hz : (begP st t).length ≤ sizeLine := Nat.le_trans (List.length_filter_le _ _) h
  simp [s_kept_row_eq, d_kept_row, begin_spec st t h, bestp_spec _ k hz, keptW]
def krD (st : St) (k : Nat) (t : List Nat) : D := .tup [.str t, stD (keptW st t k)]
theorem kept_rows_spec (st : St) (k : Nat) (h : st.length ≤ sizeLine) (hs : ((st.map (·.1)).map fun w => w.length + 1).sum + 1 < 4096) : s_kept_rows [fz (stD st), fz (.int k)] = some (fz (.tup ((nodesL (st.map (·.1))).map (krD st k))), []) := by
  have e := nodes_spec st hs
  have hn := nodes_len (st.map (·.1))
  have hn2 : (nodesL (st.map (·.1))).length ≤ sizeLine := by rw [sizeL]; omega
  generalize nodesL (st.map (·.1)) = N at *
  simp [s_kept_rows_eq, d_kept_rows, e]
  generalize hG : lcL _ _ _ _ _ _ = G
  obtain rfl := lcL_mapA hG (krD st k) (fun t ht => by
    have g := kept_spec st t k h
    simp [g, krD])
  simp [hn2]
theorem lkept_spec {st : St} (hn : (st.map (·.1)).Nodup) (t : List Nat) (k : Nat) (h : st.length < sizeLine) : s__law_kept [fz (stD st), fz (.str t), fz (.int k)] = some (fz (stD (keptW st t k)), []) := by
  have e := lrow_spec st t k (Nat.le_of_lt h)
  rw [← keptW_words] at e
  have hm : ∀ p ∈ keptW st t k, p ∈ st := fun p hp => (begP_sub st t).subset (ordP_mem.mp (List.mem_of_mem_take hp))
  have hz : (keptW st t k).length ≤ sizeLine := Nat.le_trans (keptW_len st t k) (Nat.le_of_lt h)
  generalize keptW st t k = K at *
  simp [s__law_kept_eq, d__law_kept, e]
  generalize hG : lcL _ _ _ _ _ _ = G
  have := lcL_mapA (l := K) (enc := fun p => D.str p.1) hG prD (fun p hp => by
    have g := worth_in_spec st p.1 h
    rw [worthD_of hn (hm p hp)] at g
    simp [g, prD])
  subst this
  simp [hz]
theorem words_of_specL (st : St) (hz : st.length ≤ sizeLine) : s__law_words_of [fz (.lst (prL st))] = some (fz (.tup (txtL (st.map (·.1)))), []) := by
  simp [s__law_words_of_eq, d__law_words_of]
  generalize hG : lcL _ _ _ _ _ _ = G
  obtain rfl := lcL_mapA (enc := prD) (l := st) hG (fun p => .str p.1) (fun p _ => by simp)
  simp [hz, Function.comp_def]
/-- the nodes one letter longer -/
def longL (ws : List (List Nat)) (n : Nat) : List (List Nat) := (keysOf ((ws.filter fun w => decide (n < w.length)).map fun w => w.take (n + 1))).mergeSort leT
theorem longer_spec (st : St) (t : List Nat) (h : st.length < sizeLine) (ht : t.length < 1000000) : s__law_longer [fz (stD st), fz (.str t)] = some (ow (.lst (txtL (longL ((begP st t).map (·.1)) t.length))), []) := by
  have hz : (begP st t).length < sizeLine := Nat.lt_of_le_of_lt (List.length_filter_le _ _) h
  have e1 := behind_spec st t (Nat.le_of_lt h)
  have e2 := words_of_specL (begP st t) (Nat.le_of_lt hz)
  have hwl : ((begP st t).map (·.1)).length < sizeLine := by rw [List.length_map]; exact hz
  generalize (begP st t).map (·.1) = ws at *
  simp [s__law_longer_eq, d__law_longer, e1, e2]
  generalize hF : forL _ _ _ _ = F
  let step : Tab → List Nat → Tab := fun tb w => if decide (t.length < w.length) = true then tput tb (w.take (t.length + 1)) (.bl true) else tb
  have key : ∀ (l : List (List Nat)) (tb : Tab), (l.foldl step tb).map (·.1) = ((l.filter fun w => decide (t.length < w.length)).map fun w => w.take (t.length + 1)).foldl addK (tb.map (·.1)) := by
    intro l
    induction l with
    | nil => intro tb; rfl
    | cons w l ih =>
      intro tb
      rw [List.foldl_cons, ih, List.filter_cons]
      show List.foldl addK (List.map _ (if _ then _ else _)) _ = _
      cases hd : decide (t.length < w.length) with
      | false => simp
      | true => simp [tput_keys]
  have len : ∀ (l : List (List Nat)), (l.foldl step []).length ≤ l.length := by
    intro l
    have e := congrArg List.length (key l [])
    rw [List.length_map] at e
    rw [e]
    have h1 := foldK_len ((l.filter fun w => decide (t.length < w.length)).map fun w => w.take (t.length + 1)) []
    have h2 : (l.filter fun w => decide (t.length < w.length)).length ≤ l.length := List.length_filter_le _ _
    rw [List.length_nil, List.length_map] at h1
    show (List.foldl addK [] _).length ≤ _
    omega
  have c1 : (-4611686018427387904 : Int) ≤ t.length := by omega
  have c2 : (t.length : Int) < 4611686018427387904 := by omega
  have c3 : (-4611686018427387904 : Int) ≤ t.length + 1 := by omega
  have c4 : (t.length : Int) + 1 < 4611686018427387904 := by omega
  obtain ⟨e, rfl, y, rfl⟩ := forFP hF (fun tb env => ∃ y, env = [some (fz (stD st)), some (fz (.str t)), some (ow (.dct (tkD tb) (tvD tb))), y]) step [] ⟨_, rfl⟩ (by
    rintro pre w hp env ⟨y, rfl⟩
    have hl := len pre
    have hp2 := hp.length_le
    rw [List.length_append, List.length_singleton] at hp2
    have e3 : (pre.foldl step []).length < sizeLine := by omega
    have es : step (pre.foldl step []) w = if decide (t.length < w.length) = true then tput (pre.foldl step []) (w.take (t.length + 1)) (.bl true) else pre.foldl step [] := rfl
    rw [es]
    generalize pre.foldl step [] = tb at *
    by_cases hw : t.length < w.length
    · have ec : cutL w none (some ((t.length : Int) + 1)) = w.take (t.length + 1) := by
        rw [cutL_to (by omega)]
        rfl
      simp [hw, e3, c1, c2, c3, c4, ec]
    · simp [hw, c1, c2])
  have hz2 : (ws.foldl step []).length ≤ sizeLine := by have := len ws; omega
  have e1 := sortD_tab hz2
  rw [key] at e1
  simp [-sortD_dct, e1]
  rfl
theorem longL_mem {ws : List (List Nat)} {n : Nat} {x : List Nat} : x ∈ longL ws n ↔ ∃ w ∈ ws, n < w.length ∧ x = w.take (n + 1) := by
  unfold longL keysOf
  rw [List.mem_mergeSort, foldK_mem, List.mem_map]
  simp only [List.not_mem_nil, false_or, List.mem_filter, decide_eq_true_eq]
  constructor
  · rintro ⟨w, ⟨h1, h2⟩, rfl⟩
    exact ⟨w, h1, h2, rfl⟩
  · rintro ⟨w, h1, h2, rfl⟩
    exact ⟨w, ⟨h1, h2⟩, rfl⟩
theorem longL_nd (ws : List (List Nat)) (n : Nat) : (longL ws n).Nodup := (List.mergeSort_perm _ leT).symm.nodup_iff.mp (foldK_nd List.nodup_nil)
theorem longL_len (ws : List (List Nat)) (n : Nat) : (longL ws n).length ≤ ws.length := by
  unfold longL
  rw [List.length_mergeSort]
  have h := foldK_len ((ws.filter fun w => decide (n < w.length)).map fun w => w.take (n + 1)) []
  have h2 : (ws.filter fun w => decide (n < w.length)).length ≤ ws.length := List.length_filter_le _ _
  rw [List.length_nil, List.length_map] at h
  show (List.foldl addK [] _).length ≤ _
  omega
/-! ### a row out of the rows of the longer nodes -/
/-- the pairs that are asked -/
def fromL (st : St) (t : List Nat) (k : Nat) : St := (st.filter fun p => decide (p.1 = t)) ++ (longL ((begP st t).map (·.1)) t.length).flatMap fun u => keptW st u k
theorem ordP_of_perm {a b : St} (h : a.Perm b) (hn : (a.map (·.1)).Nodup) : ordP a = ordP b := by
  have hb : (b.map (·.1)).Nodup := (h.map _).nodup_iff.mp hn
  refine List.Perm.eq_of_pairwise (fun x y _ _ h1 h2 => ?_) (ordP_strict hn) (ordP_strict hb) (((ordP_perm a).trans h).trans (ordP_perm b).symm)
  rw [ltP_asymm h1] at h2
  cases h2
theorem mem_take_filter {α : Type} {l : List α} {k : Nat} {p : α} {Q : α → Bool} (h : p ∈ l.take k) (hq : Q p = true) : p ∈ (l.filter Q).take k := by
  have e : l.filter Q = (l.take k).filter Q ++ (l.drop k).filter Q := by rw [← List.filter_append, List.take_append_drop]
  have hl : ((l.take k).filter Q).length ≤ k := Nat.le_trans (List.length_filter_le _ _) (by rw [List.length_take]; omega)
  rw [e, List.take_append, List.take_of_length_le hl]
  exact List.mem_append_left _ (List.mem_filter.mpr ⟨h, hq⟩)
theorem take_filter_all {α : Type} {l : List α} {k : Nat} {Q : α → Bool} (h : ∀ p ∈ l.take k, Q p = true) : (l.filter Q).take k = l.take k := by
  have e : l.filter Q = l.take k ++ (l.drop k).filter Q := by
    conv => lhs; rw [← List.take_append_drop k l, List.filter_append, List.filter_eq_self.mpr h]
  rw [e]
  by_cases hk : k ≤ l.length
  · rw [List.take_append_of_le_length (by rw [List.length_take]; omega), List.take_take, Nat.min_self]
  · have : l.drop k = [] := List.drop_eq_nil_iff.mpr (by omega)
    rw [this, List.filter_nil, List.append_nil, List.take_take, Nat.min_self]
theorem nd_of {α β : Type} {f : α → β} {l : List α} (h : (l.map f).Nodup) : l.Nodup := by
  rw [List.Nodup, List.pairwise_map] at h
  exact h.imp fun {a b} z e => z (by rw [e])
theorem nd_flat {α β : Type} {f : α → List β} : ∀ {l : List α}, (∀ a ∈ l, (f a).Nodup) → l.Pairwise (fun a b => ∀ x, x ∈ f a → ¬ x ∈ f b) → (l.flatMap f).Nodup
  | [], _, _ => List.nodup_nil
  | a :: l, h1, h2 => by
    obtain ⟨g1, g2⟩ := List.pairwise_cons.mp h2
    rw [List.flatMap_cons]
    refine List.nodup_append.mpr ⟨h1 a List.mem_cons_self, nd_flat (fun b hb => h1 b (List.mem_cons_of_mem _ hb)) g2, fun x hx y hy e => ?_⟩
    subst e
    obtain ⟨b, hb, hxb⟩ := List.mem_flatMap.mp hy
    exact g1 b hb x hx hxb
theorem mem_keptW {st : St} {t : List Nat} {k : Nat} {p : List Nat × Int} (h : p ∈ keptW st t k) : p ∈ st ∧ t <+: p.1 := mem_begP.mp (ordP_mem.mp (List.mem_of_mem_take h))
theorem fromL_mem {st : St} {t : List Nat} {k : Nat} {p : List Nat × Int} (h : p ∈ fromL st t k) : p ∈ begP st t := by
  rcases List.mem_append.mp h with h | h
  · obtain ⟨h1, h2⟩ := List.mem_filter.mp h
    exact mem_begP.mpr ⟨h1, by rw [of_decide_eq_true h2]; exact List.prefix_rfl⟩
  · obtain ⟨u, hu, hp⟩ := List.mem_flatMap.mp h
    obtain ⟨w, hw, h1, rfl⟩ := longL_mem.mp hu
    obtain ⟨q, hq, rfl⟩ := List.mem_map.mp hw
    obtain ⟨h2, h3⟩ := mem_keptW hp
    have ht : t <+: q.1.take (t.length + 1) := List.prefix_of_prefix_length_le (mem_begP.mp hq).2 (List.take_prefix _ _) (by rw [List.length_take]; omega)
    exact mem_begP.mpr ⟨h2, ht.trans h3⟩
theorem fromL_nd {st : St} (hn : (st.map (·.1)).Nodup) (t : List Nat) (k : Nat) : (fromL st t k).Nodup := by
  have hs : st.Nodup := nd_of hn
  refine List.nodup_append.mpr ⟨hs.sublist List.filter_sublist, ?_, fun a ha b hb e => ?_⟩
  · refine nd_flat (fun u _ => ?_) ?_
    · have h1 : (ordP (begP st u)).Nodup := (ordP_perm _).symm.nodup_iff.mp (hs.sublist (begP_sub st u))
      exact h1.sublist (List.take_sublist _ _)
    · refine (longL_nd _ _).imp_of_mem fun {u v} hu hv hne p hpu hpv => hne ?_
      obtain ⟨w, _, h1, rfl⟩ := longL_mem.mp hu
      obtain ⟨x, _, h2, rfl⟩ := longL_mem.mp hv
      have g1 := List.prefix_iff_eq_take.mp (mem_keptW hpu).2
      have g2 := List.prefix_iff_eq_take.mp (mem_keptW hpv).2
      rw [g1, g2, List.length_take, List.length_take]
      congr 1
      omega
  · subst e
    have h1 := of_decide_eq_true (List.mem_filter.mp ha).2
    obtain ⟨u, hu, hp⟩ := List.mem_flatMap.mp hb
    obtain ⟨w, _, h2, rfl⟩ := longL_mem.mp hu
    have h3 := (mem_keptW hp).2.length_le
    rw [List.length_take, h1] at h3
    omega
theorem fromL_row {st : St} (hn : (st.map (·.1)).Nodup) (t : List Nat) (k : Nat) : (ordP (fromL st t k)).take k = keptW st t k := by
  have hB : ((begP st t).map (·.1)).Nodup := nd_sub (begP_sub st t) hn
  have hp : (fromL st t k).Perm ((begP st t).filter fun p => decide (p ∈ fromL st t k)) := by
    refine (List.perm_ext_iff_of_nodup (fromL_nd hn t k) ((nd_of hB).sublist List.filter_sublist)).mpr fun p => ?_
    rw [List.mem_filter, decide_eq_true_eq]
    exact ⟨fun h => ⟨fromL_mem h, h⟩, fun h => h.2⟩
  have hq : (((begP st t).filter fun p => decide (p ∈ fromL st t k)).map (·.1)).Nodup := hB.sublist (List.filter_sublist.map _)
  rw [← ordP_of_perm hp.symm hq, ordP_filter]
  refine take_filter_all fun p h => decide_eq_true ?_
  have hpb : p ∈ begP st t := ordP_mem.mp (List.mem_of_mem_take h)
  obtain ⟨h1, h2⟩ := mem_begP.mp hpb
  by_cases e : p.1 = t
  · exact List.mem_append_left _ (List.mem_filter.mpr ⟨h1, decide_eq_true e⟩)
  · have hl : t.length < p.1.length := by
      have := h2.length_le
      rcases Nat.lt_or_ge t.length p.1.length with z | z
      · exact z
      · exact absurd (h2.eq_of_length (by omega)).symm e
    refine List.mem_append_right _ (List.mem_flatMap.mpr ⟨p.1.take (t.length + 1), longL_mem.mpr ⟨p.1, List.mem_map.mpr ⟨p, hpb, rfl⟩, hl, rfl⟩, ?_⟩)
    have ht : t <+: p.1.take (t.length + 1) := List.prefix_of_prefix_length_le h2 (List.take_prefix _ _) (by rw [List.length_take]; omega)
    have eb : begP st (p.1.take (t.length + 1)) = (begP st t).filter fun q => (p.1.take (t.length + 1)).isPrefixOf q.1 := by
      rw [List.filter_filter]
      refine List.filter_congr fun q _ => ?_
      rw [Bool.eq_iff_iff, Bool.and_eq_true, List.isPrefixOf_iff_prefix, List.isPrefixOf_iff_prefix]
      exact ⟨fun z => ⟨z, ht.trans z⟩, fun z => z.1⟩
    unfold keptW
    rw [eb, ordP_filter]
    exact mem_take_filter h (List.isPrefixOf_iff_prefix.mpr (List.take_prefix _ _))
end Wk
end

section
namespace Wk
open PySem PySem.Spec PyProof.Rows L2
theorem Gd.kr {st : St} {k : Nat} (h : st.length ≤ sizeLine) (t : List Nat) : Gd 3 (krD st k t) := .tup (by simp [sizeL]) fun a ha => by
  rcases List.mem_cons.mp ha with e | ha
  · subst e; exact (Gd.str 0 _).mono (by omega)
  · rcases List.mem_cons.mp ha with e | ha
    · subst e; exact Gd.st (Nat.le_trans (keptW_len st t k) h)
    · cases ha
theorem goes15 {ls : List (List Nat)} (hl : Lets ls) (ns : List Int) {m : Nat} {st : St} (hs : Sto 18 m st) (hm : m ≤ 80) : ∃ ns', s__law_goes_k15 [ow (nums ns), fz (stD st), fz (.lst (txtL ls))] = some (fz (.bl true), [ow (nums ns')]) := by
  obtain ⟨k, ns1, k1, k2, e0⟩ := k_spec ns
  have hz := hs.sz (by omega)
  have hzl : st.length < sizeLine := by rw [sizeL]; have := hs.few; omega
  have hsum0 : ((st.map (·.1)).map fun w => w.length + 1).sum ≤ 1520 := by
    have : ((st.map (·.1)).map fun w => w.length + 1).sum ≤ st.length * 19 := by
      have hlen := hs.len
      clear hs hz hzl
      induction st with
      | nil => simp
      | cons p r ih =>
        have h1 := ih fun q hq => hlen q (List.mem_cons_of_mem _ hq)
        have h2 := (hlen p List.mem_cons_self).2
        simp only [List.map_cons, List.sum_cons, List.length_cons]
        omega
    have := hs.few
    omega
  have hsum : ((st.map (·.1)).map fun w => w.length + 1).sum + 1 < 4096 := by omega
  have hnd := hs.asc.nd
  have e1 := words_of_spec st hz
  have e2 := nodes_tup (st.map (·.1)) (by omega)
  have e3 := kept_rows_spec st k hz hsum
  have hnl := nodes_len (st.map (·.1))
  have hN : ∀ s ∈ nodesL (st.map (·.1)), s.length ≤ 18 := fun s h => by
    obtain ⟨w, hw, hp⟩ := nodesL_mem.mp h
    obtain ⟨p, hp1, rfl⟩ := List.mem_map.mp hw
    exact Nat.le_trans hp.length_le (hs.len p hp1).2
  have zN : (nodesL (st.map (·.1))).length ≤ sizeLine := by rw [sizeL]; omega
  generalize nodesL (st.map (·.1)) = N at *
  have hww := hs.words
  have hwl : (st.map (·.1)).length ≤ 1000 := by rw [List.length_map]; have := hs.few; omega
  generalize st.map (·.1) = ws at e1 e2 hww hwl
  have q1 : s__law_same 8 [fz (.tup (N.map (krD st k))), fz (.tup (N.map (krD st k)))] = some (fz (.bl true), []) := (Gd.mono (n := 4) (Gd.tupM zN fun t _ => Gd.kr hz t) (by omega)).same
  simp [s__law_goes_k15_eq, d__law_goes_k15, e0, e1, e2, e3]
  generalize hG : lcL _ _ _ _ _ _ = G
  obtain rfl := lcL_mapA hG (krD st k) (fun t ht => by
    have g := lkept_spec hnd t k hzl
    simp [g, krD])
  simp [zN, q1]
  generalize hF : forL _ _ _ _ = F
  obtain ⟨e, rfl, ms, a, b, rfl⟩ := forN hF (fun i env => ∃ (ms : List Int) (a b : Slo), env = [some (ow (nums ms)), some (fz (stD st)), some (fz (.lst (txtL ls))), some (fz (.int k)), some (fz (.lst (txtL N))), some (fz (.tup (N.map (krD st k)))), none, a, b, none, none, none]) ⟨ns1, _, _, rfl⟩ (by
    rintro j d env hd ⟨ms, a, b, rfl⟩
    obtain ⟨hj, rfl⟩ := intsFrom_get hd
    obtain ⟨t, ms1, ht, ht', g1⟩ := typed_spec hl ms hww hwl
    have g2 := row_spec st t k hz
    have g3 := lkept_spec hnd t k hzl
    have g4 := row_same st t k hz
    have g5 := kept_spec st t k hz
    have g6 := same_st (Nat.le_trans (keptW_len st t k) hz)
    have zK := Nat.le_trans (keptW_len st t k) hz
    have eK := keptW_words st t k
    generalize keptW st t k = K at *
    simp [e1, g1, g5, g3, g6, g2]
    generalize hG : lcL _ _ _ _ _ _ = G
    have := lcL_mapA (l := K) (enc := prD) hG (fun p => .str p.1) (fun p _ => by simp)
    subst this
    have eK2 : K.map (fun p => D.str p.1) = txtL (rowW st t k) := by
      rw [← eK]
      exact List.map_map.symm
    have zK2 := rowW_sz (t := t) (k := k) hz
    simp [zK, zK2, eK2, g4])
  by_cases hN0 : N.length = 0
  · simp [hN0]
  · have hN1 : 0 < N.length := by omega
    obtain ⟨t, ms1, ht, g1⟩ := pick_txt ms (ls := N) (fun e => hN0 (by rw [e]; rfl))
    have ht1 := hN t ht
    have g2 := longer_spec st t hzl (by omega)
    have flen : ∀ us : List (List Nat), (us.flatMap fun u => keptW st u k).length ≤ us.length * st.length := fun us => by
      induction us with
      | nil => simp
      | cons u us ih =>
        have := keptW_len st u k
        rw [List.flatMap_cons, List.length_append, List.length_cons, Nat.add_mul]
        omega
    have hfew := hs.few
    have lfew : (longL ((begP st t).map (·.1)) t.length).length ≤ 80 := by
      have h1 := longL_len ((begP st t).map (·.1)) t.length
      have h2 := (begP_sub st t).length_le
      rw [List.length_map] at h1
      omega
    have hf0 : (st.filter fun p => decide (p.1 = t)).length ≤ 80 := Nat.le_trans (List.length_filter_le _ _) (by omega)
    have fz80 : ∀ us : List (List Nat), us.length ≤ 80 → (us.flatMap fun u => keptW st u k).length ≤ 6400 := fun us h => by
      refine Nat.le_trans (flen us) (Nat.le_trans (Nat.mul_le_mul h (show st.length ≤ 80 by omega)) (by decide))
    have zT : (fromL st t k).length ≤ sizeLine := by
      unfold fromL
      rw [List.length_append, sizeL]
      have := fz80 _ lfew
      omega
    have g3 := lbest_spec (fromL st t k) k zT
    rw [fromL_row hnd, keptW_words] at g3
    have g4 := row_same st t k hz
    have g5 := kept_spec st t k hz
    have zK := Nat.le_trans (keptW_len st t k) hz
    have eK := keptW_words st t k
    simp [hN1, g1]
    generalize hG : lcL _ _ _ _ _ _ = G
    have := lcL_filA (l := st) (enc := prD) hG (fun p => decide (p.1 = t)) prD (fun p _ => by
      by_cases h : p.1 = t <;> simp [h])
    subst this
    have zF : (st.filter fun p => decide (p.1 = t)).length ≤ sizeLine := filt_data hz
    simp [zF, g2]
    generalize hF : forL _ _ _ _ = F
    generalize hL : longL ((begP st t).map (·.1)) t.length = Ls at *
    have hfr : fromL st t k = (st.filter fun p => decide (p.1 = t)) ++ Ls.flatMap fun u => keptW st u k := by rw [← hL]; rfl
    generalize (st.filter fun p => decide (p.1 = t)) = F0 at *
    obtain ⟨e, rfl, c, rfl⟩ := forA hF (fun i env => ∃ (c : Slo), env = [some (ow (nums ms1)), some (fz (stD st)), some (fz (.lst (txtL ls))), some (fz (.int k)), some (fz (.lst (txtL N))), some (fz (.tup (N.map (krD st k)))), some (fz (.str t)), a, b, none, some (ow (.lst (prL (F0 ++ (Ls.take i).flatMap fun u => keptW st u k)))), c]) ⟨none, by simp⟩ (by
      rintro j u env hu ⟨c, rfl⟩
      have g6 := kept_spec st u k hz
      have z1 := fz80 (Ls.take j) (by rw [List.length_take]; omega)
      have z2 := keptW_len st u k
      have et : Ls.take (j + 1) = Ls.take j ++ [u] := by rw [List.take_succ, hu]; rfl
      have ef : F0 ++ (Ls.take (j + 1)).flatMap (fun u => keptW st u k) = (F0 ++ (Ls.take j).flatMap fun u => keptW st u k) ++ keptW st u k := by
        rw [et, List.flatMap_append, List.append_assoc]
        simp
      rw [ef]
      have z3 : (F0 ++ (Ls.take j).flatMap fun u => keptW st u k).length + (keptW st u k).length ≤ sizeLine := by rw [List.length_append, sizeL]; omega
      generalize (F0 ++ (Ls.take j).flatMap fun u => keptW st u k) = A0 at *
      generalize keptW st u k = K at *
      simp [g6, z3])
    rw [List.take_length, ← hfr]
    generalize fromL st t k = T at *
    simp [g5]
    generalize hG : lcL _ _ _ _ _ _ = G
    have := lcL_mapA (l := keptW st t k) (enc := prD) hG (fun p => .str p.1) (fun p _ => by simp)
    subst this
    have eK2 : (keptW st t k).map (fun p => D.str p.1) = txtL (rowW st t k) := by
      rw [← eK]
      exact List.map_map.symm
    have zK2 := rowW_sz (t := t) (k := k) hz
    simp [zK, zK2, eK2, g4, g3]
end Wk
namespace K15
open PySem PySem.Spec PyProof.Rows L2 Wk
theorem main (ns : List Int) (h : ns.length ≤ 63) : s_law [fz (.scr (ns.map D.int))] = some (fz (.bl true), []) := by
  obtain ⟨ms, e0⟩ := draws_spec ns (m := 600) (by omega)
  have e0 : s__law_draws [fz (.scr (ns.map D.int)), fz (.int 600)] = some (ow (nums ms), []) := e0
  obtain ⟨ls, ms1, hls, e1⟩ := letters_spec ms
  unfold s_law d_law
  simp [e0, e1]
  generalize hF : forL _ _ _ _ = F
  obtain ⟨env', rfl, ms', a, rfl⟩ := forN hF (fun _ env => ∃ ms a, env = [some (fz (.scr (ns.map .int))), some (ow (nums ms)), some (ow (.lst (txtL ls))), a]) ⟨_, _, rfl⟩ (by
    rintro jj dd env hd ⟨ms, a, rfl⟩
    obtain ⟨hj, rfl⟩ := intsFrom_get hd
    obtain ⟨st, ms1, hst, e1⟩ := store_spec hls ms (m := 9) (by omega)
    have e1 : s__law_store [ow (nums ms), fz (.lst (txtL ls)), fz (.int 9)] = some (fz (stD st), [ow (nums ms1)]) := e1
    obtain ⟨ms2, e2⟩ := goes15 hls ms1 hst (by omega)
    obtain ⟨st2, ms3, hst2, e3⟩ := tree_sto hls ms2 (k := 3) (by omega) (by omega)
    have e3 : s__law_tree [ow (nums ms2), fz (.lst (txtL ls)), fz (.int 3)] = some (fz (stD st2), [ow (nums ms3)]) := e3
    obtain ⟨ms4, e4⟩ := goes15 hls ms3 (hst2.mono (by omega) (by omega : 12 ≤ 12)) (by omega)
    simp [e1, e2, e3, e4])
  obtain ⟨st, ms1, hst, hpos, e1⟩ := big_spec ms'
  have ht : Sto 18 40 (st.take 40) := ⟨by rw [List.map_take]; exact hst.asc.sublist (List.take_sublist _ _), fun p hp => hst.len p (List.mem_of_mem_take hp), by rw [List.length_take]; omega, fun p hp => hst.az p (List.mem_of_mem_take hp)⟩
  obtain ⟨ms4, e4⟩ := goes15 lets_abc3 ms1 ht (by omega)
  have e4 : s__law_goes_k15 [ow (nums ms1), fz (stD (st.take 40)), fz (.lst [.str [97], .str [98], .str [99]])] = some (fz (.bl true), [ow (nums ms4)]) := e4
  have et : cutL (prL st) none (some 40) = prL (st.take 40) := by
    rw [cutL_to (by omega)]
    exact List.map_take.symm
  generalize st.take 40 = st2 at *
  simp [e1, et, e4]
end K15
end

section
open PySem PySem.W PySem.Calls PyProof.Rows
theorem PySem.Challenge.cw_wordsahead_k15_kept_rows_holds : PySem.Challenge.rw_wordsahead_k15_kept_rows.Holds :=
  K15.fin K15.main
end
