import PyProof.Rows.All
import Wide.All
import OpenK.AllK
import Wide.FinOn
import HandS.ForMost
import HandS.NoneIn
import HandS.TupAny
import HandS.Wide
import HandS.IsInst
import HandS.StrMore
import HandS.Conv
import HandS.Style
import HandS.Exc
import HandS.WordsExc
import HandS.HeadEnd
import HandS.HeadHook1
import HandS.HeadHook2
import HandS.Head0
import HandS.Head1
import HandS.Head2
import PySem.Challenge.RW_pleatproof_k54_whole_values_in_lines_tha
import HandS.Codes
import KE.KStateDown
import Lean
import HandS.More
import HandS.Defaults
set_option Elab.async false
set_option linter.all false
set_option maxRecDepth 100000
/-! EvA: data, boxes, the relation of a store to the abstract heap. -/
namespace EV
open PySem L2

/-- frozen data: nothing in it is ever changed -/
inductive D where
  | non | bl (b : Bool) | int (i : Int) | str (s : Str) | tup (xs : List D) | lst (xs : List D) | scr (ns : List Int)
inductive Val where
  | dat (d : D) | box (k : Nat)
/-- what may change: a list, an instance; dead: frozen since -/
inductive SO where
  | lst (vs : List Val) | ins (c : Nat) (fs : List (Str × Val)) | dead
abbrev Rho := List (Option Val)
abbrev Store := List SO

mutual
inductive Dr (K : PySem.W.Frag) (F : Hp) : V → D → Prop
  | non : Dr K F .non .non
  | bl (b : Bool) : Dr K F (.bl b) (.bl b)
  | int (i : Int) : Dr K F (.int i) (.int i)
  | str (x : Str) : Dr K F (.str x) (.str x)
  | tup {a : Addr} {xs : List V} {ds : List D} : F a = some (.tup xs) → DrA K F xs ds → Dr K F (.ref a) (.tup ds)
  | lst {a : Addr} {xs : List V} {ds : List D} : F a = some (.lst xs) → DrA K F xs ds → Dr K F (.ref a) (.lst ds)
  | scr {a : Addr} {ns : List Int} : SqL K F a (ns.map V.int) → Dr K F (.ref a) (.scr ns)
inductive DrA (K : PySem.W.Frag) (F : Hp) : List V → List D → Prop
  | nil : DrA K F [] []
  | cons {v : V} {vs : List V} {d : D} {ds : List D} : Dr K F v d → DrA K F vs ds → DrA K F (v :: vs) (d :: ds)
end

theorem rd_mono {F F' : Hp} {a : Addr} {u : HO} (e : ∀ p o, F p = some o → F' p = some o) (h : Rd F a u) : Rd F' a u := by
  rcases h with h | ⟨o, h⟩
  · exact Or.inl (e _ _ h)
  · exact Or.inr ⟨o, e _ _ h⟩
theorem sql_mono {K : PySem.W.Frag} {F F' : Hp} {a : Addr} {xs : List V} (e : ∀ p o, F p = some o → F' p = some o) (h : SqL K F a xs) : SqL K F' a xs := by
  rcases h with h | h
  · exact Or.inl (rd_mono e h)
  · exact Or.inr h

mutual
theorem Dr.mono {K : PySem.W.Frag} {F F' : Hp} (e : ∀ p o, F p = some o → F' p = some o) : ∀ {v : V} {d : D}, Dr K F v d → Dr K F' v d
  | _, _, .non => .non
  | _, _, .bl b => .bl b
  | _, _, .int i => .int i
  | _, _, .str x => .str x
  | _, _, .tup h a => .tup (e _ _ h) (DrA.mono e a)
  | _, _, .lst h a => .lst (e _ _ h) (DrA.mono e a)
  | _, _, .scr h => .scr (sql_mono e h)
theorem DrA.mono {K : PySem.W.Frag} {F F' : Hp} (e : ∀ p o, F p = some o → F' p = some o) : ∀ {v : List V} {d : List D}, DrA K F v d → DrA K F' v d
  | _, _, .nil => .nil
  | _, _, .cons h a => .cons (Dr.mono e h) (DrA.mono e a)
end

/-- the two heaps and where the boxes stand -/
structure Wd where
  F : Hp
  H : Hp
  m : List (Option Addr)

def live (m : List (Option Addr)) (p : Addr) : Prop := ∃ k : Nat, m[k]? = some (some p)

structure Step (a b : Wd) : Prop where
  fr : ∀ p o, a.F p = some o → b.F p = some o
  keep : ∀ p o, a.H p = some o → ¬ live a.m p → b.H p = some o
  new : ∀ p o, a.F p = none → a.H p = some o → ¬ live a.m p → b.F p = none
  mm : ∀ (k : Nat) x, a.m[k]? = some x → b.m[k]? = some x ∨ b.m[k]? = some none
  nb : ∀ p, live b.m p → live a.m p ∨ a.H p = none
  there : ∀ p o, a.H p = some o → ∃ o', b.H p = some o'

theorem Step.refl (a : Wd) : Step a a := ⟨fun _ _ h => h, fun _ _ h _ => h, fun _ _ h _ _ => h, fun _ _ h => .inl h, fun _ h => .inl h, fun _ o h => ⟨o, h⟩⟩
theorem Step.trans {a b c : Wd} (x : Step a b) (y : Step b c) : Step a c where
  fr := fun p o h => y.fr p o (x.fr p o h)
  keep := fun p o h n => y.keep p o (x.keep p o h n) fun l => by
    rcases x.nb p l with l | z
    · exact n l
    · rw [h] at z; cases z
  new := fun p o hf h n => y.new p o (x.new p o hf h n) (x.keep p o h n) fun l => by
    rcases x.nb p l with l | z
    · exact n l
    · rw [h] at z; cases z
  mm := fun k v h => by
    rcases x.mm k v h with h | h
    · exact y.mm k v h
    · rcases y.mm k none h with h | h
      · exact .inr h
      · exact .inr h
  nb := fun p l => by
    rcases y.nb p l with l | z
    · exact x.nb p l
    · cases h : a.H p with
      | none => exact .inr rfl
      | some o =>
        obtain ⟨o', h'⟩ := x.there p o h
        rw [h'] at z; cases z
  there := fun p o h => by
    obtain ⟨o', h'⟩ := x.there p o h
    exact y.there p o' h'

inductive Vr (K : PySem.W.Frag) (w : Wd) : V → Val → Prop
  | dat {x : V} {d : D} : Dr K w.F x d → Vr K w x (.dat d)
  | box {p : Addr} {k : Nat} : (w.m[k]? = some (some p) ∨ w.m[k]? = some none) → Vr K w (.ref p) (.box k)
theorem Vr.mono {K : PySem.W.Frag} {a b : Wd} (s : Step a b) {x : V} {v : Val} (h : Vr K a x v) : Vr K b x v := by
  cases h with
  | dat h => exact .dat (h.mono s.fr)
  | box h =>
    refine .box ?_
    rcases h with h | h
    · exact s.mm _ _ h
    · rcases s.mm _ _ h with h | h
      · exact .inr h
      · exact .inr h
abbrev VrA (K : PySem.W.Frag) (w : Wd) : List V → List Val → Prop := Paired (Vr K w)
theorem paired_mono {α β : Type} {F G : α → β → Prop} (f : ∀ a b, F a b → G a b) : ∀ {l₁ : List α} {l₂ : List β}, Paired F l₁ l₂ → Paired G l₁ l₂
  | _, _, .nil => .nil
  | _, _, .cons r t => .cons (f _ _ r) (paired_mono f t)
theorem VrA.mono {K : PySem.W.Frag} {a b : Wd} (s : Step a b) {x : List V} {v : List Val} (h : VrA K a x v) : VrA K b x v := paired_mono (fun _ _ h => Vr.mono s h) h

def SOr (K : PySem.W.Frag) (cls : Nat → Addr) (w : Wd) (p : Addr) : SO → Prop
  | .lst vs => ∃ xs, w.H p = some (.lst xs) ∧ VrA K w xs vs
  | .ins c fs => ∃ dx gs, w.H p = some (.ins (cls c) dx gs) ∧ Paired (fun (a : Str × V) (b : Str × Val) => a.1 = b.1 ∧ Vr K w a.2 b.2) gs fs
  | .dead => False
theorem SOr.mono {K : PySem.W.Frag} {cls : Nat → Addr} {a b : Wd} (s : Step a b) {p : Addr} (e : b.H p = a.H p) : ∀ {o : SO}, SOr K cls a p o → SOr K cls b p o
  | .lst _, ⟨xs, h, r⟩ => ⟨xs, by rw [e]; exact h, r.mono s⟩
  | .ins _ _, ⟨dx, gs, h, r⟩ => ⟨dx, gs, by rw [e]; exact h, paired_mono (fun _ _ h => ⟨h.1, h.2.mono s⟩) r⟩
theorem SOr.has {K : PySem.W.Frag} {cls : Nat → Addr} {w : Wd} {p : Addr} : ∀ {o : SO}, SOr K cls w p o → ∃ u, w.H p = some u ∧ Mut (some u)
  | .lst _, ⟨_, h, _⟩ => ⟨_, h, trivial⟩
  | .ins _ _, ⟨_, _, h, _⟩ => ⟨_, h, trivial⟩

structure Rel (K : PySem.W.Frag) (cls : Nat → Addr) (w : Wd) (μ : Store) : Prop where
  len : w.m.length = μ.length
  sub : ∀ p o, w.F p = some o → w.H p = some o
  box : ∀ (k : Nat) p, w.m[k]? = some (some p) → w.F p = none ∧ ∃ s, μ[k]? = some s ∧ SOr K cls w p s
  liv : ∀ (k : Nat) s, μ[k]? = some s → s ≠ .dead → ∃ p, w.m[k]? = some (some p)
  inj : ∀ (j k : Nat) p, w.m[j]? = some (some p) → w.m[k]? = some (some p) → j = k

section
variable {K : PySem.W.Frag} {cls : Nat → Addr} {w w' : Wd} {μ : Store}
theorem Rel.livH (R : Rel K cls w μ) {p : Addr} (l : live w.m p) : ∃ u, w.H p = some u ∧ Mut (some u) := by
  obtain ⟨k, h⟩ := l
  obtain ⟨_, s, _, r⟩ := R.box k p h
  exact r.has
/-- a new object laid, frozen at once -/
theorem lay_frozen (R : Rel K cls w μ) {p : Addr} {o : HO} (hp : w.H p = none) : Step w ⟨upd w.F p o, upd w.H p o, w.m⟩ ∧ Rel K cls ⟨upd w.F p o, upd w.H p o, w.m⟩ μ := by
  have fn : w.F p = none := by
    cases h : w.F p with
    | none => rfl
    | some u => rw [R.sub p u h] at hp; cases hp
  have s : Step w ⟨upd w.F p o, upd w.H p o, w.m⟩ := by
    refine ⟨fun q u h => ?_, fun q u h _ => ?_, fun q u hf h _ => ?_, fun _ _ h => .inl h, fun _ h => .inl h, fun q u h => ?_⟩
    · show upd w.F p o q = some u
      rw [upd_ne (ne_of_none h fn)]; exact h
    · show upd w.H p o q = some u
      rw [upd_ne (ne_of_none h hp)]; exact h
    · show upd w.F p o q = none
      rw [upd_ne (ne_of_none h hp)]; exact hf
    · exact ⟨u, by show upd w.H p o q = some u; rw [upd_ne (ne_of_none h hp)]; exact h⟩
  refine ⟨s, R.len, fun q u h => ?_, fun k q h => ?_, R.liv, R.inj⟩
  · show upd w.H p o q = some u
    have h : upd w.F p o q = some u := h
    by_cases e : q = p
    · subst e; rw [upd_same] at h ⊢; exact h
    · rw [upd_ne e] at h ⊢; exact R.sub q u h
  · obtain ⟨f, st, e, r⟩ := R.box k q h
    obtain ⟨u, hu, _⟩ := r.has
    have ne : q ≠ p := ne_of_none hu hp
    refine ⟨?_, st, e, r.mono s ?_⟩
    · show upd w.F p o q = none
      rw [upd_ne ne]; exact f
    · show upd w.H p o q = w.H q
      rw [upd_ne ne]
theorem get_snoc {α : Type} {l : List α} {a : α} {k : Nat} {x : α} (h : (l ++ [a])[k]? = some x) : l[k]? = some x ∨ (k = l.length ∧ x = a) := by
  rw [List.getElem?_append] at h
  split at h
  · exact .inl h
  · rename_i hk
    have : k - l.length = 0 := by
      cases e : k - l.length with
      | zero => rfl
      | succ n => rw [e] at h; simp at h
    rw [this] at h
    exact .inr ⟨by omega, by simpa using h.symm⟩
theorem get_snoc_lt {α : Type} {l : List α} {a : α} {k : Nat} {x : α} (h : l[k]? = some x) : (l ++ [a])[k]? = some x := by
  rw [List.getElem?_append_left (List.getElem?_eq_some_iff.mp h).1]; exact h
theorem get_snoc_eq {α : Type} {l : List α} {a : α} : (l ++ [a])[l.length]? = some a := by simp
/-- a new object laid, as a box -/
theorem lay_box (R : Rel K cls w μ) {p : Addr} {o : HO} {s : SO} (hp : w.H p = none) (hs : ∀ w' : Wd, Step w w' → w'.H p = some o → SOr K cls w' p s) :
    Step w ⟨w.F, upd w.H p o, w.m ++ [some p]⟩ ∧ Rel K cls ⟨w.F, upd w.H p o, w.m ++ [some p]⟩ (μ ++ [s]) := by
  have fn : w.F p = none := by
    cases h : w.F p with
    | none => rfl
    | some u => rw [R.sub p u h] at hp; cases hp
  have st : Step w ⟨w.F, upd w.H p o, w.m ++ [some p]⟩ := by
    refine ⟨fun q u h => h, fun q u h _ => ?_, fun q u hf h _ => hf, fun k x h => .inl (get_snoc_lt h), fun q l => ?_, fun q u h => ?_⟩
    · show upd w.H p o q = some u
      rw [upd_ne (ne_of_none h hp)]; exact h
    · obtain ⟨k, h⟩ := l
      rcases get_snoc h with h | ⟨_, h⟩
      · exact .inl ⟨k, h⟩
      · exact .inr (by cases h; exact hp)
    · exact ⟨u, by show upd w.H p o q = some u; rw [upd_ne (ne_of_none h hp)]; exact h⟩
  refine ⟨st, ?_, fun q u h => ?_, fun k q h => ?_, fun k t h hd => ?_, fun j k q h1 h2 => ?_⟩
  · show (w.m ++ [some p]).length = (μ ++ [s]).length
    rw [List.length_append, List.length_append, R.len] <;> rfl
  · show upd w.H p o q = some u
    rw [upd_ne (ne_of_none (R.sub q u h) hp)]; exact R.sub q u h
  · rcases get_snoc h with h | ⟨e, h⟩
    · obtain ⟨f, t, e, r⟩ := R.box k q h
      obtain ⟨u, hu, _⟩ := r.has
      have ne : q ≠ p := ne_of_none hu hp
      refine ⟨f, t, get_snoc_lt e, r.mono st ?_⟩
      show upd w.H p o q = w.H q
      rw [upd_ne ne]
    · cases h
      subst e
      refine ⟨fn, s, ?_, hs _ st upd_same⟩
      show (μ ++ [s])[w.m.length]? = some s
      rw [R.len]; exact get_snoc_eq
  · rcases get_snoc h with h | ⟨e, h⟩
    · obtain ⟨q, hq⟩ := R.liv k t h hd
      exact ⟨q, get_snoc_lt hq⟩
    · subst e
      refine ⟨p, ?_⟩
      show (w.m ++ [some p])[μ.length]? = some (some p)
      rw [← R.len]; exact get_snoc_eq
  · have nl : ∀ k, w.m[k]? ≠ some (some p) := fun k h => by
      obtain ⟨_, t, _, r⟩ := R.box k p h
      obtain ⟨u, hu, _⟩ := r.has
      rw [hp] at hu; cases hu
    rcases get_snoc h1 with h1 | ⟨e1, z1⟩ <;> rcases get_snoc h2 with h2 | ⟨e2, z2⟩
    · exact R.inj j k q h1 h2
    · cases z2; exact absurd h1 (nl _)
    · cases z1; exact absurd h2 (nl _)
    · rw [e1, e2]
/-- a box is changed -/
theorem set_box (R : Rel K cls w μ) {p : Addr} {k : Nat} {o : HO} {s : SO} (hk : w.m[k]? = some (some p)) (hs : ∀ w' : Wd, Step w w' → w'.H p = some o → SOr K cls w' p s) :
    Step w ⟨w.F, upd w.H p o, w.m⟩ ∧ Rel K cls ⟨w.F, upd w.H p o, w.m⟩ (μ.set k s) := by
  obtain ⟨fn, s0, hs0, r0⟩ := R.box k p hk
  obtain ⟨u0, hu0, _⟩ := r0.has
  have st : Step w ⟨w.F, upd w.H p o, w.m⟩ := by
    refine ⟨fun q u h => h, fun q u h n => ?_, fun q u hf h _ => hf, fun k x h => .inl h, fun q l => .inl l, fun q u h => ?_⟩
    · show upd w.H p o q = some u
      rw [upd_ne (fun e => n ⟨k, by rw [e]; exact hk⟩)]; exact h
    · by_cases e : q = p
      · subst e; exact ⟨o, upd_same⟩
      · exact ⟨u, by show upd w.H p o q = some u; rw [upd_ne e]; exact h⟩
  refine ⟨st, ?_, fun q u h => ?_, fun j q h => ?_, fun j t h hd => ?_, R.inj⟩
  · show w.m.length = (μ.set k s).length
    rw [List.length_set]; exact R.len
  · show upd w.H p o q = some u
    have ne : q ≠ p := fun e => by
      have h : w.F q = some u := h
      rw [e, fn] at h; cases h
    rw [upd_ne ne]; exact R.sub q u h
  · obtain ⟨f, t, e, r⟩ := R.box j q h
    by_cases ej : j = k
    · subst ej
      have : q = p := by
        have h : w.m[j]? = some (some q) := h
        rw [hk] at h; cases h; rfl
      subst this
      refine ⟨f, s, ?_, hs _ st upd_same⟩
      rw [List.getElem?_set_self (List.getElem?_eq_some_iff.mp e).1]
    · have ne : q ≠ p := fun z => ej (R.inj j k p (z ▸ h) hk)
      refine ⟨f, t, ?_, r.mono st ?_⟩
      · rw [List.getElem?_set_ne (fun z => ej z.symm)]; exact e
      · show upd w.H p o q = w.H q
        rw [upd_ne ne]
  · by_cases ej : j = k
    · subst ej; exact ⟨p, hk⟩
    · rw [List.getElem?_set_ne (fun z => ej z.symm)] at h
      exact R.liv j t h hd
/-- a box is frozen -/
theorem freeze_box (R : Rel K cls w μ) {p : Addr} {k : Nat} {o : HO} (hk : w.m[k]? = some (some p)) (ho : w.H p = some o) :
    Step w ⟨upd w.F p o, w.H, w.m.set k none⟩ ∧ Rel K cls ⟨upd w.F p o, w.H, w.m.set k none⟩ (μ.set k .dead) := by
  obtain ⟨fn, s0, hs0, r0⟩ := R.box k p hk
  have hkl : k < w.m.length := (List.getElem?_eq_some_iff.mp hk).1
  have st : Step w ⟨upd w.F p o, w.H, w.m.set k none⟩ := by
    refine ⟨fun q u h => ?_, fun q u h n => h, fun q u hf h n => ?_, fun j x h => ?_, fun q l => ?_, fun q u h => ⟨u, h⟩⟩
    · show upd w.F p o q = some u
      rw [upd_ne (ne_of_none h fn)]; exact h
    · show upd w.F p o q = none
      rw [upd_ne (fun e => n ⟨k, by rw [e]; exact hk⟩)]; exact hf
    · show (w.m.set k none)[j]? = some x ∨ (w.m.set k none)[j]? = some none
      by_cases e : j = k
      · subst e; rw [List.getElem?_set_self hkl]; exact .inr rfl
      · rw [List.getElem?_set_ne (fun z => e z.symm)]; exact .inl h
    · obtain ⟨j, h⟩ := l
      have h : (w.m.set k none)[j]? = some (some q) := h
      by_cases e : j = k
      · subst e; rw [List.getElem?_set_self hkl] at h; cases h
      · rw [List.getElem?_set_ne (fun z => e z.symm)] at h; exact .inl ⟨j, h⟩
  refine ⟨st, ?_, fun q u h => ?_, fun j q h => ?_, fun j t h hd => ?_, fun i j q h1 h2 => ?_⟩
  · show (w.m.set k none).length = (μ.set k .dead).length
    rw [List.length_set, List.length_set]; exact R.len
  · have h : upd w.F p o q = some u := h
    by_cases e : q = p
    · subst e; rw [upd_same] at h; cases h; exact ho
    · rw [upd_ne e] at h; exact R.sub q u h
  · have h : (w.m.set k none)[j]? = some (some q) := h
    have ej : j ≠ k := fun e => by subst e; rw [List.getElem?_set_self hkl] at h; cases h
    rw [List.getElem?_set_ne (fun z => ej z.symm)] at h
    obtain ⟨f, t, e, r⟩ := R.box j q h
    have ne : q ≠ p := fun z => ej (R.inj j k p (z ▸ h) hk)
    refine ⟨?_, t, ?_, r.mono st rfl⟩
    · show upd w.F p o q = none
      rw [upd_ne ne]; exact f
    · rw [List.getElem?_set_ne (fun z => ej z.symm)]; exact e
  · have ej : j ≠ k := fun e => by
      subst e
      have hl : j < μ.length := by rw [← R.len]; exact hkl
      rw [List.getElem?_set_self hl] at h; cases h; exact hd rfl
    rw [List.getElem?_set_ne (fun z => ej z.symm)] at h
    obtain ⟨q, hq⟩ := R.liv j t h hd
    exact ⟨q, by show (w.m.set k none)[j]? = _; rw [List.getElem?_set_ne (fun z => ej z.symm)]; exact hq⟩
  · have cut : ∀ {j q}, (w.m.set k none)[j]? = some (some q) → w.m[j]? = some (some q) := fun {j q} h => by
      by_cases e : j = k
      · subst e; rw [List.getElem?_set_self hkl] at h; cases h
      · rw [List.getElem?_set_ne (fun z => e z.symm)] at h; exact h
    exact R.inj i j q (cut h1) (cut h2)

/-! ### lists of values -/
def datOf : Val → Option D
  | .dat d => some d
  | .box _ => none
def datsOf : List Val → Option (List D)
  | [] => some []
  | v :: vs => match datOf v, datsOf vs with
    | some d, some ds => some (d :: ds)
    | _, _ => none
theorem dats_rel {K : PySem.W.Frag} {w : Wd} : ∀ {xs : List V} {vs : List Val} {ds : List D}, VrA K w xs vs → datsOf vs = some ds → DrA K w.F xs ds
  | _, _, ds, .nil, h => by simp only [datsOf, Option.some.injEq] at h; subst h; exact .nil
  | _, _, ds, .cons (b := v) (l₂ := vs) r t, h => by
    simp only [datsOf] at h
    cases r with
    | dat r =>
      simp only [datOf] at h
      cases e : datsOf vs with
      | none => rw [e] at h; cases h
      | some es =>
        rw [e] at h
        simp only [Option.some.injEq] at h
        subst h
        exact .cons r (dats_rel t e)
    | box r => simp only [datOf] at h; cases h
theorem vra_dats {K : PySem.W.Frag} {w : Wd} : ∀ {xs : List V} {ds : List D}, DrA K w.F xs ds → VrA K w xs (ds.map .dat)
  | _, _, .nil => .nil
  | _, _, .cons r t => .cons (.dat r) (vra_dats t)
@[simp] theorem datsOf_map : ∀ ds : List D, datsOf (ds.map .dat) = some ds
  | [] => rfl
  | d :: ds => by simp only [List.map_cons, datsOf, datOf, datsOf_map ds]

/-- a new list: frozen data, or a box -/
def mkL (bx : Bool) (vs : List Val) (μ : Store) : Option (Val × Store) :=
  if bx then some (.box μ.length, μ ++ [.lst vs]) else (datsOf vs).map fun ds => (.dat (.lst ds), μ)
def mkT (vs : List Val) (μ : Store) : Option (Val × Store) := (datsOf vs).map fun ds => (.dat (.tup ds), μ)
theorem mkL_ok {bx : Bool} {vs : List Val} {μ' : Store} {v : Val} {xs : List V} {p : Addr} (R : Rel K cls w μ) (r : VrA K w xs vs) (h : mkL bx vs μ = some (v, μ')) (hp : w.H p = none) :
    ∃ w', w'.H = upd w.H p (.lst xs) ∧ Step w w' ∧ Rel K cls w' μ' ∧ Vr K w' (.ref p) v := by
  unfold mkL at h
  cases bx with
  | true =>
    simp only [if_true, Option.some.injEq, Prod.mk.injEq] at h
    obtain ⟨rfl, rfl⟩ := h
    obtain ⟨s, R'⟩ := lay_box (s := .lst vs) (o := .lst xs) R hp fun w' st hw => ⟨xs, hw, r.mono st⟩
    refine ⟨_, rfl, s, R', .box (.inl ?_)⟩
    show (w.m ++ [some p])[μ.length]? = some (some p)
    rw [← R.len]; exact get_snoc_eq
  | false =>
    cases e : datsOf vs with
    | none => rw [e] at h; cases h
    | some ds =>
      rw [e] at h
      simp only [Bool.false_eq_true, if_false, Option.map_some, Option.some.injEq, Prod.mk.injEq] at h
      obtain ⟨rfl, rfl⟩ := h
      obtain ⟨s, R'⟩ := lay_frozen (o := .lst xs) R hp
      exact ⟨_, rfl, s, R', .dat (.lst upd_same ((dats_rel r e).mono s.fr))⟩
theorem mkT_ok {vs : List Val} {μ' : Store} {v : Val} {xs : List V} {p : Addr} (R : Rel K cls w μ) (r : VrA K w xs vs) (h : mkT vs μ = some (v, μ')) (hp : w.H p = none) :
    ∃ w', w'.H = upd w.H p (.tup xs) ∧ Step w w' ∧ Rel K cls w' μ' ∧ Vr K w' (.ref p) v := by
  unfold mkT at h
  cases e : datsOf vs with
  | none => rw [e] at h; cases h
  | some ds =>
    rw [e] at h
    simp only [Option.map_some, Option.some.injEq, Prod.mk.injEq] at h
    obtain ⟨rfl, rfl⟩ := h
    obtain ⟨s, R'⟩ := lay_frozen (o := .tup xs) R hp
    exact ⟨_, rfl, s, R', .dat (.tup upd_same ((dats_rel r e).mono s.fr))⟩

/-! ### what is read -/
def lstOf (v : Val) (μ : Store) : Option (List Val) := match v with
  | .dat (.lst ds) => some (ds.map .dat)
  | .box k => match μ[k]? with
    | some (.lst vs) => some vs
    | _ => none
  | _ => none
def tupOf (v : Val) : Option (List Val) := match v with
  | .dat (.tup ds) => some (ds.map .dat)
  | _ => none
theorem lst_of {x : V} {v : Val} {vs : List Val} (R : Rel K cls w μ) (r : Vr K w x v) (h : lstOf v μ = some vs) : ∃ a xs, x = .ref a ∧ w.H a = some (.lst xs) ∧ VrA K w xs vs := by
  cases r with
  | dat r =>
    cases r with
    | lst hf ha =>
      simp only [lstOf, Option.some.injEq] at h
      subst h
      exact ⟨_, _, rfl, R.sub _ _ hf, vra_dats ha⟩
    | _ => cases h
  | @box p k r =>
    simp only [lstOf] at h
    cases e : μ[k]? with
    | none => rw [e] at h; cases h
    | some s =>
      rw [e] at h
      cases s with
      | lst vs' =>
        simp only [Option.some.injEq] at h
        subst h
        obtain ⟨q, hq⟩ := R.liv k _ e (fun z => nomatch z)
        have : w.m[k]? = some (some p) := by
          rcases r with r | r
          · exact r
          · rw [hq] at r; cases r
        obtain ⟨_, s, hs, so⟩ := R.box k p this
        rw [e] at hs
        cases hs
        obtain ⟨xs, hx, rx⟩ := so
        exact ⟨p, xs, rfl, hx, rx⟩
      | ins _ _ => cases h
      | dead => cases h
theorem tup_of {x : V} {v : Val} {vs : List Val} (R : Rel K cls w μ) (r : Vr K w x v) (h : tupOf v = some vs) : ∃ a xs, x = .ref a ∧ w.H a = some (.tup xs) ∧ VrA K w xs vs := by
  cases r with
  | dat r =>
    cases r with
    | tup hf ha =>
      simp only [tupOf, Option.some.injEq] at h
      subst h
      exact ⟨_, _, rfl, R.sub _ _ hf, vra_dats ha⟩
    | _ => cases h
  | box r => cases h
/-- a live box -/
theorem box_of {p : Addr} {k : Nat} {s : SO} (R : Rel K cls w μ) (r : Vr K w (.ref p) (.box k)) (h : μ[k]? = some s) (hd : s ≠ .dead) : w.m[k]? = some (some p) ∧ SOr K cls w p s := by
  cases r with
  | box r =>
    obtain ⟨q, hq⟩ := R.liv k s h hd
    have : w.m[k]? = some (some p) := by
      rcases r with r | r
      · exact r
      · rw [hq] at r; cases r
    obtain ⟨_, s', hs, so⟩ := R.box k p this
    rw [h] at hs
    cases hs
    exact ⟨this, so⟩
end
end EV

/-! EvB: the language of readings, its evaluator, what it denotes. -/
namespace EV
open PySem L2

/-- what is made of an answer -/
abbrev Ans1 (K : PySem.W.Frag) (cls : Nat → Addr) (w : Wd) (v : Val) (μ' : Store) (Q : VK) : Prop := ∀ x w', Step w w' → Rel K cls w' μ' → Vr K w' x v → Q x w'.H

/-- an operation upon values, told with its reading -/
structure Op where
  sem : List Val → Store → Option (Val × Store)
  rd : PySem.W.Frag → List V → Hp → VK → Prop
  ok : ∀ (K : PySem.W.Frag) (cls : Nat → Addr) (args : List Val) (μ : Store) (v : Val) (μ' : Store), sem args μ = some (v, μ') →
    ∀ (w : Wd) (xs : List V), Rel K cls w μ → VrA K w xs args → ∀ Q : VK, Ans1 K cls w v μ' Q → rd K xs w.H Q
/-- a method of a built-in type: the receiver's type first -/
structure Mt where
  T : String
  is : Val → Store → Bool
  sem : Val → List Val → Store → Option (Val × Store)
  rd : PySem.W.Frag → V → List V → Hp → VK → Prop
  ty : ∀ (K : PySem.W.Frag) (cls : Nat → Addr) (v : Val) (μ : Store), is v μ = true → ∀ (w : Wd) (x : V), Rel K cls w μ → Vr K w x v → tyV K T x w.H
  ok : ∀ (K : PySem.W.Frag) (cls : Nat → Addr) (r : Val) (args : List Val) (μ : Store) (v : Val) (μ' : Store), sem r args μ = some (v, μ') →
    ∀ (w : Wd) (x : V) (xs : List V), Rel K cls w μ → Vr K w x r → VrA K w xs args → ∀ Q : VK, Ans1 K cls w v μ' Q → rd K x xs w.H Q
structure Sl where
  sem : Val → Option Int → Option Int → Store → Option (Val × Store)
  rd : PySem.W.Frag → V → Option Int → Option Int → Hp → VK → Prop
  ok : ∀ (K : PySem.W.Frag) (cls : Nat → Addr) (r : Val) (lo hi : Option Int) (μ : Store) (v : Val) (μ' : Store), sem r lo hi μ = some (v, μ') →
    ∀ (w : Wd) (x : V), Rel K cls w μ → Vr K w x r → ∀ Q : VK, Ans1 K cls w v μ' Q → rd K x lo hi w.H Q
/-- a value's truth -/
structure Tr where
  sem : Val → Store → Option Bool
  rd : PySem.W.Frag → V → Hp → (Bool → Hp → Prop) → Prop
  ok : ∀ (K : PySem.W.Frag) (cls : Nat → Addr) (r : Val) (μ : Store) (b : Bool), sem r μ = some b → ∀ (w : Wd) (x : V), Rel K cls w μ → Vr K w x r → ∀ Q : Bool → Hp → Prop, Q b w.H → rd K x w.H Q
/-- what is walked: at turn i an item, or the end -/
abbrev Nxt := Nat → Store → Option (Option Val)
def ItOk (K : PySem.W.Frag) (cls : Nat → Addr) (J : It) (nx : Nxt) (w : Wd) : Prop := ∀ (w1 : Wd) (μ1 : Store), Step w w1 → Rel K cls w1 μ1 → ∀ i,
  (nx i μ1 = some none → J.stop i w1.H) ∧ (∀ v, nx i μ1 = some (some v) → J.go i w1.H ∧ ∀ x H', J.yld i w1.H x H' → ∃ w', w'.H = H' ∧ Step w1 w' ∧ Rel K cls w' μ1 ∧ Vr K w' x v)
structure Ito where
  sem : List Val → Store → Option Nxt
  rd : PySem.W.Frag → List V → Hp → (It → Hp → Prop) → Prop
  ok : ∀ (K : PySem.W.Frag) (cls : Nat → Addr) (args : List Val) (μ : Store) (nx : Nxt), sem args μ = some nx →
    ∀ (w : Wd) (xs : List V), Rel K cls w μ → VrA K w xs args → ∀ R : It → Hp → Prop, (∀ J, ItOk K cls J nx w → R J w.H) → rd K xs w.H R

inductive Sc where
  | non | bl (b : Bool) | int (i : Int) | str (s : Str)
def Sc.v : Sc → V
  | .non => .non | .bl b => .bl b | .int i => .int i | .str s => .str s
def Sc.d : Sc → D
  | .non => .non | .bl b => .bl b | .int i => .int i | .str s => .str s
theorem Sc.r {K : PySem.W.Frag} {w : Wd} : ∀ c : Sc, Vr K w c.v (.dat c.d)
  | .non => .dat .non | .bl b => .dat (.bl b) | .int i => .dat (.int i) | .str s => .dat (.str s)

/-- targets: a name, a tuple (or list) of them -/
inductive RG where
  | nm (i : Nat)
  | tup (gs : List RG)
  | unl (gs : List RG)

mutual
inductive RE where
  | var (i : Nat)
  | cst (c : Sc)
  | app (o : Op) (a : RL)
  | call (f : Nat) (a : RL)
  | mth (c : Nat) (nm : Str) (f : Nat) (o : RE) (a : RL)
  | new (c : Nat) (f : Nat) (a : RL)
  | fld (c : Nat) (o : RE) (f : Str)
  | bm (o : Mt) (r : RE) (a : RL)
  | sl (o : Sl) (e : RE) (lo hi : RO)
  | ifx (t : RT) (a b : RE)
  | andV (a b : RE)
  | orV (a b : RE)
  | chain (o1 o2 : Op) (a b c : RE)
  | lc (bx : Bool) (vs : List Nat) (it : Ito) (ia : RL) (g : RG) (t : RT) (e : RE)
  | frz (e : RE)
inductive RL where
  | nil
  | cons (e : RE) (r : RL)
inductive RO where
  | no
  | so (e : RE)
inductive RT where
  | yes
  | tr (o : Tr) (e : RE)
  | bv (e : RE)
  | and (a b : RT)
  | or (a b : RT)
  | not (a : RT)
end
/-- where a statement stores beside names -/
inductive RS where
  | nx
  | seq (a b : RS)
  | asg (g : RG) (e : RE)
  | setI (o i e : RE)
  | setF (c : Nat) (o : RE) (f : Str) (e : RE)
  | drop (e : RE)
  | ret (e : RE)
  | retN
  | ifs (t : RT) (a b : RS)
  | whil (t : RT) (b : RS)
  | forr (it : Ito) (ia : RL) (g : RG) (b : RS)
  | brk
  | cnt
  | gz (i : Nat) (s : RS)
  | never

/-- what a text's facts give -/
structure Cn where
  K : PySem.W.Frag
  cls : Nat → Addr
  sp : Nat → Sp

/-! ### readings -/
mutual
def denG (c : Cn) : RG → TG
  | .nm i => gName i
  | .tup gs => gTup c.K gs.length (denGs c gs)
  | .unl gs => gUnl c.K gs.length (denGs c gs)
def denGs (c : Cn) : List RG → TGs
  | [] => gNil
  | g :: gs => gCons (denG c g) (denGs c gs)
end
mutual
def denE (c : Cn) : RE → TE
  | .var i => tVar i
  | .cst s => tC s.v
  | .app o a => fun σ H Q => denL c a σ H fun vs H1 => o.rd c.K vs H1 Q
  | .call f a => tCall (c.sp f) [] E0 (denL c a)
  | .mth k nm f o a => tMeth (c.cls k) nm (c.sp f) [] E0 (denE c o) (denL c a)
  | .new k f a => tMake (c.cls k) (c.sp f) [] E0 (denL c a)
  | .fld _ o f => tFld c.K (denE c o) f
  | .bm o r a => tBM c.K o.T (o.rd c.K) (denE c r) (denL c a)
  | .sl o e lo hi => tSl (o.rd c.K) (denE c e) (denO c lo) (denO c hi)
  | .ifx t a b => tIf (denT c t) (denE c a) (denE c b)
  | .andV a b => tAndV (denE c a) (denE c b)
  | .orV a b => tOrV (denE c a) (denE c b)
  | .chain o1 o2 a b d => tChain (fun x y H Q => o1.rd c.K [x, y] H Q) (fun x y H Q => o2.rd c.K [x, y] H Q) (denE c a) (denE c b) (denE c d)
  | .lc _ vs it ia g t e => tLc (fun σ H R => denL c ia σ H fun xs H1 => it.rd c.K xs H1 R) (denG c g) (denT c t) (denE c e) vs
  | .frz e => denE c e
def denL (c : Cn) : RL → TA
  | .nil => tNil
  | .cons e r => tCons (denE c e) (denL c r)
def denO (c : Cn) : RO → TO
  | .no => tNoPart
  | .so e => tPart (denE c e)
def denT (c : Cn) : RT → TT
  | .yes => tYes
  | .tr o e => fun σ H Q => denE c e σ H fun x H1 => o.rd c.K x H1 Q
  | .bv e => tTest (denE c e)
  | .and a b => tAnd (denT c a) (denT c b)
  | .or a b => tOr (denT c a) (denT c b)
  | .not a => tNot (denT c a)
end
def denS (c : Cn) : RS → TS
  | .nx => tNext
  | .seq a b => tSeq (denS c a) (denS c b)
  | .asg g e => tAsg (denE c e) (denG c g)
  | .setI o i e => tAsg (denE c e) (gSub (denE c o) (denE c i) rSetL)
  | .setF _ o f e => sFld c.K (denE c o) (denE c e) f
  | .drop e => tDrop (denE c e)
  | .ret e => tRet (denE c e)
  | .retN => tRetN
  | .ifs t a b => tIfS (denT c t) (denS c a) (denS c b)
  | .whil t b => tWhile (denT c t) (denS c b)
  | .forr it ia g b => tFor (fun σ H R => denL c ia σ H fun xs H1 => it.rd c.K xs H1 R) (denG c g) (denS c b)
  | .brk => tBreak
  | .cnt => tCont
  | .gz _ s => denS c s
  | .never => tNever

/-! ### the evaluator -/
structure Ev where
  call : Nat → List Val → Store → Option (Val × Store)
  n : Nat
  fs : Nat → List Str

def wipeE (ρ : Rho) : List Nat → Rho
  | [] => ρ
  | v :: vs => (wipeE ρ vs).set v none
def listD : Val → Option (List D)
  | .dat (.lst ds) => some ds
  | _ => none
def tupD : Val → Option (List D)
  | .dat (.tup ds) => some ds
  | _ => none
mutual
def asgG : RG → Val → Rho → Store → Option Rho
  | .nm i, v, ρ, _ => some (ρ.set i (some v))
  | .tup gs, v, ρ, μ => match tupOf v with
    | some vs => if vs.length = gs.length then asgGs gs vs ρ μ else none
    | none => none
  | .unl gs, v, ρ, μ => match lstOf v μ with
    | some vs => if vs.length = gs.length then asgGs gs vs ρ μ else none
    | none => none
def asgGs : List RG → List Val → Rho → Store → Option Rho
  | [], [], ρ, _ => some ρ
  | g :: gs, v :: vs, ρ, μ => match asgG g v ρ μ with
    | some ρ' => asgGs gs vs ρ' μ
    | none => none
  | _, _, _, _ => none
end
mutual
def slotsG : RG → List Nat
  | .nm i => [i]
  | .tup gs => slotsGs gs
  | .unl gs => slotsGs gs
def slotsGs : List RG → List Nat
  | [] => []
  | g :: gs => slotsG g ++ slotsGs gs
end
/-- the items of a comprehension -/
def lcLoop (nx : Nxt) (step : Val → Store → Option (Option Val × Store)) : Nat → Nat → List Val → Store → Option (List Val × Store)
  | 0, _, _, _ => none
  | n + 1, i, acc, μ => match nx i μ with
    | none => none
    | some none => some (acc, μ)
    | some (some v) => match step v μ with
      | none => none
      | some (none, μ') => lcLoop nx step n (i + 1) acc μ'
      | some (some y, μ') => if acc.length < sizeLine then lcLoop nx step n (i + 1) (acc ++ [y]) μ' else none
def lookF (f : Str) : List (Str × Val) → Option Val
  | [] => none
  | (g, v) :: r => if g = f then some v else lookF f r
def putG (f : Str) (v : Val) : List (Str × Val) → List (Str × Val)
  | [] => [(f, v)]
  | (g, x) :: r => if g = f then (g, v) :: r else (g, x) :: putG f v r
def frzV (v : Val) (μ : Store) : Option (Val × Store) := match v with
  | .box k => match μ[k]? with
    | some (.lst vs) => (datsOf vs).map fun ds => (.dat (.lst ds), μ.set k .dead)
    | _ => none
  | v => some (v, μ)
mutual
def evE (c : Ev) : RE → Rho → Store → Option (Val × Store)
  | .var i, ρ, μ => match ρ[i]? with
    | some (some v) => some (v, μ)
    | _ => none
  | .cst s, _, μ => some (.dat s.d, μ)
  | .app o a, ρ, μ => match evL c a ρ μ with
    | some (vs, μ) => o.sem vs μ
    | none => none
  | .call f a, ρ, μ => match evL c a ρ μ with
    | some (vs, μ) => c.call f vs μ
    | none => none
  | .mth k nm f o a, ρ, μ => match evE c o ρ μ with
    | some (.box j, μ) => match μ[j]? with
      | some (.ins k' fs) => if k' = k ∧ lookF nm fs = none then match evL c a ρ μ with
          | some (vs, μ) => c.call f (.box j :: vs) μ
          | none => none
        else none
      | _ => none
    | _ => none
  | .new k f a, ρ, μ => match evL c a ρ μ with
    | some (vs, μ) => match c.call f (.box μ.length :: vs) (μ ++ [.ins k []]) with
      | some (.dat .non, μ') => some (.box μ.length, μ')
      | _ => none
    | none => none
  | .fld k o f, ρ, μ => match evE c o ρ μ with
    | some (.box j, μ) => match μ[j]? with
      | some (.ins k' fs) => if k' = k ∧ (c.fs k).contains f then match lookF f fs with
          | some v => some (v, μ)
          | none => none
        else none
      | _ => none
    | _ => none
  | .bm o r a, ρ, μ => match evE c r ρ μ with
    | some (v, μ) => if o.is v μ then match evL c a ρ μ with
        | some (vs, μ) => o.sem v vs μ
        | none => none
      else none
    | none => none
  | .sl o e lo hi, ρ, μ => match evE c e ρ μ with
    | some (v, μ) => match evO c lo ρ μ with
      | some (l, μ) => match evO c hi ρ μ with
        | some (h, μ) => o.sem v l h μ
        | none => none
      | none => none
    | none => none
  | .ifx t a b, ρ, μ => match evT c t ρ μ with
    | some (true, μ) => evE c a ρ μ
    | some (false, μ) => evE c b ρ μ
    | none => none
  | .andV a b, ρ, μ => match evE c a ρ μ with
    | some (.dat (.bl true), μ) => evE c b ρ μ
    | some (.dat (.bl false), μ) => some (.dat (.bl false), μ)
    | _ => none
  | .orV a b, ρ, μ => match evE c a ρ μ with
    | some (.dat (.bl true), μ) => some (.dat (.bl true), μ)
    | some (.dat (.bl false), μ) => evE c b ρ μ
    | _ => none
  | .chain o1 o2 a b d, ρ, μ => match evE c a ρ μ with
    | some (x, μ) => match evE c b ρ μ with
      | some (y, μ) => match o1.sem [x, y] μ with
        | some (.dat (.bl true), μ) => match evE c d ρ μ with
          | some (z, μ) => o2.sem [y, z] μ
          | none => none
        | some (.dat (.bl false), μ) => some (.dat (.bl false), μ)
        | _ => none
      | none => none
    | none => none
  | .lc bx vs it ia g t e, ρ, μ => match evL c ia ρ μ with
    | some (xs, μ) => match it.sem xs μ with
      | some nx => if (slotsG g).all vs.contains then match lcLoop nx (fun v μ => match asgG g v (wipeE ρ vs) μ with
            | some ρ2 => match evT c t ρ2 μ with
              | some (true, μ) => match evE c e ρ2 μ with
                | some (y, μ) => some (some y, μ)
                | none => none
              | some (false, μ) => some (none, μ)
              | none => none
            | none => none) c.n 0 [] μ with
          | some (acc, μ) => mkL bx acc μ
          | none => none
        else none
      | none => none
    | none => none
  | .frz e, ρ, μ => match evE c e ρ μ with
    | some (v, μ) => frzV v μ
    | none => none
def evL (c : Ev) : RL → Rho → Store → Option (List Val × Store)
  | .nil, _, μ => some ([], μ)
  | .cons e r, ρ, μ => match evE c e ρ μ with
    | some (v, μ) => match evL c r ρ μ with
      | some (vs, μ) => some (v :: vs, μ)
      | none => none
    | none => none
def evO (c : Ev) : RO → Rho → Store → Option (Option Int × Store)
  | .no, _, μ => some (none, μ)
  | .so e, ρ, μ => match evE c e ρ μ with
    | some (.dat (.int i), μ) => some (some i, μ)
    | _ => none
def evT (c : Ev) : RT → Rho → Store → Option (Bool × Store)
  | .yes, _, μ => some (true, μ)
  | .tr o e, ρ, μ => match evE c e ρ μ with
    | some (v, μ) => match o.sem v μ with
      | some b => some (b, μ)
      | none => none
    | none => none
  | .bv e, ρ, μ => match evE c e ρ μ with
    | some (.dat (.bl b), μ) => some (b, μ)
    | _ => none
  | .and a b, ρ, μ => match evT c a ρ μ with
    | some (true, μ) => evT c b ρ μ
    | some (false, μ) => some (false, μ)
    | none => none
  | .or a b, ρ, μ => match evT c a ρ μ with
    | some (true, μ) => some (true, μ)
    | some (false, μ) => evT c b ρ μ
    | none => none
  | .not a, ρ, μ => match evT c a ρ μ with
    | some (b, μ) => some (!b, μ)
    | none => none
end

inductive Out where
  | nx | bk | ct | rt (v : Val)
abbrev Res := Option (Out × Rho × Store)
def forLoop (nx : Nxt) (body : Val → Rho → Store → Res) : Nat → Nat → Rho → Store → Res
  | 0, _, _, _ => none
  | n + 1, i, ρ, μ => match nx i μ with
    | none => none
    | some none => some (.nx, ρ, μ)
    | some (some v) => match body v ρ μ with
      | some (.nx, ρ, μ) => forLoop nx body n (i + 1) ρ μ
      | some (.ct, ρ, μ) => forLoop nx body n (i + 1) ρ μ
      | some (.bk, ρ, μ) => some (.nx, ρ, μ)
      | some (.rt v, ρ, μ) => some (.rt v, ρ, μ)
      | none => none
def whLoop (test : Rho → Store → Option (Bool × Store)) (body : Rho → Store → Res) : Nat → Rho → Store → Res
  | 0, _, _ => none
  | n + 1, ρ, μ => match test ρ μ with
    | none => none
    | some (false, μ) => some (.nx, ρ, μ)
    | some (true, μ) => match body ρ μ with
      | some (.nx, ρ, μ) => whLoop test body n ρ μ
      | some (.ct, ρ, μ) => whLoop test body n ρ μ
      | some (.bk, ρ, μ) => some (.nx, ρ, μ)
      | some (.rt v, ρ, μ) => some (.rt v, ρ, μ)
      | none => none
def ixN' (n : Nat) (i : Int) : Option Nat := if 0 ≤ i then (if i < n then some i.toNat else none) else if -(n : Int) ≤ i then some (i + n).toNat else none
def evS (c : Ev) : RS → Rho → Store → Res
  | .nx, ρ, μ => some (.nx, ρ, μ)
  | .seq a b, ρ, μ => match evS c a ρ μ with
    | some (.nx, ρ, μ) => evS c b ρ μ
    | r => r
  | .asg g e, ρ, μ => match evE c e ρ μ with
    | some (v, μ) => match asgG g v ρ μ with
      | some ρ => some (.nx, ρ, μ)
      | none => none
    | none => none
  | .setI o i e, ρ, μ => match evE c e ρ μ with
    | some (v, μ) => match evE c o ρ μ with
      | some (.box k, μ) => match evE c i ρ μ with
        | some (.dat (.int j), μ) => match μ[k]? with
          | some (.lst vs) => match ixN vs.length j with
            | some j => some (.nx, ρ, μ.set k (.lst (vs.set j v)))
            | none => none
          | _ => none
        | _ => none
      | _ => none
    | none => none
  | .setF k o f e, ρ, μ => match evE c e ρ μ with
    | some (v, μ) => match evE c o ρ μ with
      | some (.box j, μ) => match μ[j]? with
        | some (.ins k' fs) => if k' = k ∧ (c.fs k).contains f ∧ fs.length < 1000 then some (.nx, ρ, μ.set j (.ins k' (putG f v fs))) else none
        | _ => none
      | _ => none
    | none => none
  | .drop e, ρ, μ => match evE c e ρ μ with
    | some (_, μ) => some (.nx, ρ, μ)
    | none => none
  | .ret e, ρ, μ => match evE c e ρ μ with
    | some (v, μ) => some (.rt v, ρ, μ)
    | none => none
  | .retN, ρ, μ => some (.rt (.dat .non), ρ, μ)
  | .ifs t a b, ρ, μ => match evT c t ρ μ with
    | some (true, μ) => evS c a ρ μ
    | some (false, μ) => evS c b ρ μ
    | none => none
  | .whil t b, ρ, μ => whLoop (evT c t) (evS c b) c.n ρ μ
  | .forr it ia g b, ρ, μ => match evL c ia ρ μ with
    | some (xs, μ) => match it.sem xs μ with
      | some nx => forLoop nx (fun v ρ μ => match asgG g v ρ μ with
          | some ρ => evS c b ρ μ
          | none => none) c.n 0 ρ μ
      | none => none
    | none => none
  | .brk, ρ, μ => some (.bk, ρ, μ)
  | .cnt, ρ, μ => some (.ct, ρ, μ)
  | .gz i s, ρ, μ => match ρ[i]? with
    | some (some v) => match frzV v μ with
      | some (v, μ) => evS c s (ρ.set i (some v)) μ
      | none => none
    | _ => none
  | .never, _, _ => none

/-! ### a def -/
def valOk (n : Nat) : Val → Bool
  | .dat _ => true
  | .box k => k < n
def soOk (n : Nat) : SO → Bool
  | .lst vs => vs.all (valOk n)
  | .ins _ fs => fs.all fun p => valOk n p.2
  | .dead => true
/-- what a def leaves: of its own boxes at most the one that it hands back -/
def fin (n : Nat) (v : Val) (μ : Store) : Option (Val × Store) :=
  if (μ.take n).all (soOk n) && decide (n ≤ μ.length) then match v with
    | .dat d => some (.dat d, μ.take n)
    | .box k => if k < n then some (.box k, μ.take n) else match μ[k]? with
      | some (.lst vs) => match datsOf vs with
        | some ds => some (.box n, μ.take n ++ [.lst (ds.map .dat)])
        | none => none
      | _ => none
  else none
structure Fn where
  body : RS
  slots : Nat
  pars : Nat
def evFn (c : Ev) (f : Fn) (args : List Val) (μ : Store) : Option (Val × Store) :=
  match evS c f.body (args.map some ++ List.replicate (f.slots - args.length) none) μ with
  | some (.nx, _, μ') => fin μ.length (.dat .non) μ'
  | some (.rt v, _, μ') => fin μ.length v μ'
  | _ => none
structure Pr where
  fns : Nat → Option Fn
  fs : Nat → List Str
def evCall (P : Pr) (n : Nat) : Nat → Nat → List Val → Store → Option (Val × Store)
  | 0, _, _, _ => none
  | k + 1, f, args, μ => match P.fns f with
    | some F => if args.length = F.pars then evFn ⟨evCall P n k, n, P.fs⟩ F args μ else none
    | none => none
end EV

/-! EvC: the evaluator is sound for what its language denotes. -/
namespace EV
open PySem L2

def Er (K : PySem.W.Frag) (w : Wd) (σ : St) (ρ : Rho) : Prop := σ.length = ρ.length ∧ ∀ (i : Nat) v, ρ[i]? = some (some v) → ∃ x, σ[i]? = some (some x) ∧ Vr K w x v
theorem Er.mono {K : PySem.W.Frag} {a b : Wd} (s : Step a b) {σ : St} {ρ : Rho} (h : Er K a σ ρ) : Er K b σ ρ :=
  ⟨h.1, fun i v e => let ⟨x, hx, r⟩ := h.2 i v e; ⟨x, hx, r.mono s⟩⟩
theorem Er.set {K : PySem.W.Frag} {w : Wd} {σ : St} {ρ : Rho} (h : Er K w σ ρ) {x : V} {v : Val} (r : Vr K w x v) (i : Nat) : Er K w (σ.set i (some x)) (ρ.set i (some v)) := by
  refine ⟨by rw [List.length_set, List.length_set]; exact h.1, fun j u e => ?_⟩
  by_cases ij : i = j
  · subst ij
    by_cases hl : i < ρ.length
    · rw [List.getElem?_set_self hl] at e
      cases e
      exact ⟨x, by rw [List.getElem?_set_self (by rw [h.1]; exact hl)], r⟩
    · rw [List.getElem?_eq_none (by rw [List.length_set]; omega)] at e; cases e
  · rw [List.getElem?_set_ne ij] at e
    obtain ⟨y, hy, ry⟩ := h.2 j u e
    exact ⟨y, by rw [List.getElem?_set_ne ij]; exact hy, ry⟩
theorem Er.unset {K : PySem.W.Frag} {w : Wd} {σ : St} {ρ : Rho} (h : Er K w σ ρ) (i : Nat) : Er K w (σ.set i none) (ρ.set i none) := by
  refine ⟨by rw [List.length_set, List.length_set]; exact h.1, fun j u e => ?_⟩
  by_cases ij : i = j
  · subst ij
    by_cases hl : i < ρ.length
    · rw [List.getElem?_set_self hl] at e; cases e
    · rw [List.getElem?_eq_none (by rw [List.length_set]; omega)] at e; cases e
  · rw [List.getElem?_set_ne ij] at e
    obtain ⟨y, hy, ry⟩ := h.2 j u e
    exact ⟨y, by rw [List.getElem?_set_ne ij]; exact hy, ry⟩
theorem Er.wipe {K : PySem.W.Frag} {w : Wd} {σ : St} {ρ : Rho} (h : Er K w σ ρ) : ∀ vs : List Nat, Er K w (wipe σ vs) (wipeE ρ vs)
  | [] => h
  | v :: vs => (Er.wipe h vs).unset v
def Agree (S : List Nat) (σ σ' : St) : Prop := σ'.length = σ.length ∧ ∀ i, i ∉ S → σ'[i]? = σ[i]?
theorem wipe_get (σ : St) (i : Nat) : ∀ vs : List Nat, (wipe σ vs)[i]? = if i ∈ vs then (if i < σ.length then some none else none) else σ[i]?
  | [] => by simp [wipe]
  | v :: vs => by
    unfold wipe
    by_cases e : v = i
    · subst e
      rw [if_pos List.mem_cons_self]
      split
      · rw [List.getElem?_set_self (by rw [wipe_length]; assumption)]
      · rw [List.getElem?_eq_none (by rw [List.length_set, wipe_length]; omega)]
    · rw [List.getElem?_set_ne e, wipe_get σ i vs]
      have : (i ∈ v :: vs) ↔ i ∈ vs := by
        rw [List.mem_cons]
        exact ⟨fun h => h.resolve_left fun z => e z.symm, .inr⟩
      simp only [this]
theorem wipe_agree {S vs : List Nat} (hs : ∀ i ∈ S, i ∈ vs) {σ σ2 : St} (a : Agree S (wipe σ vs) σ2) : wipe σ2 vs = wipe σ vs := by
  refine List.ext_getElem? fun i => ?_
  rw [wipe_get, wipe_get]
  have hl : σ2.length = σ.length := by rw [a.1, wipe_length]
  rw [hl]
  by_cases hi : i ∈ vs
  · rw [if_pos hi, if_pos hi]
  · rw [if_neg hi, if_neg hi, a.2 i fun z => hi (hs i z), wipe_get, if_neg hi]

structure CallOk (cn : Cn) (c : Ev) : Prop where
  call : ∀ f args μ v μ', c.call f args μ = some (v, μ') → ∀ (w : Wd) (xs : List V), Rel cn.K cn.cls w μ → VrA cn.K w xs args → ∀ (Q : VK) (E : XK), Ans1 cn.K cn.cls w v μ' Q → cn.sp f xs w.H Q E
  fld : ∀ k f, (c.fs k).contains f = true → Cls cn.K (cn.cls k) ∧ NoAttr cn.K (cn.cls k) f

/-! ### targets -/
section
variable {cn : Cn} {w : Wd} {μ : Store}
theorem agree_refl (S : List Nat) (σ : St) : Agree S σ σ := ⟨rfl, fun _ _ => rfl⟩
theorem agree_trans {S S' : List Nat} {σ σ1 σ2 : St} (a : Agree S σ σ1) (b : Agree S' σ1 σ2) : Agree (S ++ S') σ σ2 :=
  ⟨by rw [b.1, a.1], fun i h => by rw [b.2 i fun z => h (List.mem_append_right _ z), a.2 i fun z => h (List.mem_append_left _ z)]⟩
mutual
theorem soundG (R : Rel cn.K cn.cls w μ) : ∀ (g : RG) {v : Val} {ρ ρ' : Rho} {x : V} {σ : St}, asgG g v ρ μ = some ρ' → Er cn.K w σ ρ → Vr cn.K w x v → ∀ Q : St → Hp → Prop,
    (∀ σ', Er cn.K w σ' ρ' → Agree (slotsG g) σ σ' → Q σ' w.H) → denG cn g x σ w.H Q
  | .nm i, v, ρ, ρ', x, σ, h, E, r, Q, q => by
    simp only [asgG, Option.some.injEq] at h
    subst h
    refine q _ (E.set r i) ⟨by rw [List.length_set], fun j hj => ?_⟩
    rw [List.getElem?_set_ne fun e => hj (by simp [slotsG, e])]
  | .tup gs, v, ρ, ρ', x, σ, h, E, r, Q, q => by
    simp only [asgG] at h
    split at h
    · rename_i vs e
      split at h
      · rename_i hl
        obtain ⟨a, xs, rfl, ha, ra⟩ := tup_of R r e
        exact ⟨a, xs, rfl, SqT.of ha, by rw [← hl]; exact ra.length, soundGs R gs h E ra Q q⟩
      · cases h
    · cases h
  | .unl gs, v, ρ, ρ', x, σ, h, E, r, Q, q => by
    simp only [asgG] at h
    split at h
    · rename_i vs e
      split at h
      · rename_i hl
        obtain ⟨a, xs, rfl, ha, ra⟩ := lst_of R r e
        exact ⟨a, xs, rfl, SqL.of ha, by rw [← hl]; exact ra.length, soundGs R gs h E ra Q q⟩
      · cases h
    · cases h
theorem soundGs (R : Rel cn.K cn.cls w μ) : ∀ (gs : List RG) {vs : List Val} {ρ ρ' : Rho} {xs : List V} {σ : St}, asgGs gs vs ρ μ = some ρ' → Er cn.K w σ ρ → VrA cn.K w xs vs → ∀ Q : St → Hp → Prop,
    (∀ σ', Er cn.K w σ' ρ' → Agree (slotsGs gs) σ σ' → Q σ' w.H) → denGs cn gs xs σ w.H Q
  | [], vs, ρ, ρ', xs, σ, h, E, r, Q, q => by
    cases r with
    | nil =>
      simp only [asgGs, Option.some.injEq] at h
      subst h
      exact ⟨rfl, q _ E (agree_refl _ _)⟩
    | cons _ _ => cases h
  | g :: gs, vs, ρ, ρ', xs, σ, h, E, r, Q, q => by
    cases r with
    | nil => cases h
    | cons r1 r2 =>
      simp only [asgGs] at h
      split at h
      · rename_i ρ1 e
        refine ⟨_, _, rfl, soundG R g e E r1 _ fun σ1 E1 a1 => ?_⟩
        exact soundGs R gs h E1 r2 Q fun σ2 E2 a2 => q σ2 E2 (agree_trans a1 a2)
      · cases h
end
end

/-! ### an object of ours, outside the boxes -/
section
variable {K : PySem.W.Frag} {cls : Nat → Addr} {w w' w0 : Wd} {μ : Store}
theorem lay_priv (R : Rel K cls w μ) {p : Addr} {o : HO} (hp : w.H p = none) : Step w ⟨w.F, upd w.H p o, w.m⟩ ∧ Rel K cls ⟨w.F, upd w.H p o, w.m⟩ μ ∧ w.F p = none ∧ ¬ live w.m p := by
  have fn : w.F p = none := by
    cases h : w.F p with
    | none => rfl
    | some u => rw [R.sub p u h] at hp; cases hp
  have nl : ¬ live w.m p := fun l => by
    obtain ⟨u, hu, _⟩ := R.livH l
    rw [hp] at hu; cases hu
  have s : Step w ⟨w.F, upd w.H p o, w.m⟩ := by
    refine ⟨fun q u h => h, fun q u h _ => ?_, fun q u hf h _ => hf, fun _ _ h => .inl h, fun _ h => .inl h, fun q u h => ⟨u, ?_⟩⟩
    · show upd w.H p o q = some u
      rw [upd_ne (ne_of_none h hp)]; exact h
    · show upd w.H p o q = some u
      rw [upd_ne (ne_of_none h hp)]; exact h
  refine ⟨s, ⟨R.len, fun q u h => ?_, fun k q h => ?_, R.liv, R.inj⟩, fn, nl⟩
  · show upd w.H p o q = some u
    rw [upd_ne (ne_of_none (R.sub q u h) hp)]; exact R.sub q u h
  · obtain ⟨f, st, e, r⟩ := R.box k q h
    have ne : q ≠ p := fun z => nl ⟨k, by rw [← z]; exact h⟩
    exact ⟨f, st, e, r.mono s (by show upd w.H p o q = w.H q; rw [upd_ne ne])⟩
theorem vr_same {a b : Wd} (hf : b.F = a.F) (hm : b.m = a.m) {x : V} {v : Val} (h : Vr K a x v) : Vr K b x v := by
  cases h with
  | dat z => exact .dat (by rw [hf]; exact z)
  | box z => exact .box (by rw [hm]; exact z)
theorem vr_H {H' : Hp} {x : V} {v : Val} (h : Vr K w x v) : Vr K ⟨w.F, H', w.m⟩ x v := by
  cases h with
  | dat z => exact .dat z
  | box z => exact .box z
/-- it is changed -/
theorem set_priv (R : Rel K cls w μ) {p : Addr} {o : HO} (fn : w.F p = none) (nl : ¬ live w.m p) :
    Rel K cls ⟨w.F, upd w.H p o, w.m⟩ μ ∧ ∀ w0 : Wd, Step w0 w → w0.H p = none → Step w0 ⟨w.F, upd w.H p o, w.m⟩ := by
  refine ⟨⟨R.len, fun q u h => ?_, fun k q h => ?_, R.liv, R.inj⟩, fun w0 s h0 => ?_⟩
  · show upd w.H p o q = some u
    rw [upd_ne (ne_of_none h fn)]; exact R.sub q u h
  · obtain ⟨f, st, e, r⟩ := R.box k q h
    have ne : q ≠ p := fun z => nl ⟨k, by rw [← z]; exact h⟩
    refine ⟨f, st, e, ?_⟩
    have eq : upd w.H p o q = w.H q := upd_ne ne
    cases st with
    | lst vs => obtain ⟨xs, h1, h2⟩ := r; exact ⟨xs, by show upd w.H p o q = _; rw [eq]; exact h1, paired_mono (fun _ _ z => vr_H z) h2⟩
    | ins c fs => obtain ⟨dx, gs, h1, h2⟩ := r; exact ⟨dx, gs, by show upd w.H p o q = _; rw [eq]; exact h1, paired_mono (fun _ _ z => ⟨z.1, vr_H z.2⟩) h2⟩
    | dead => exact r
  · refine ⟨s.fr, fun q u h n => ?_, s.new, s.mm, s.nb, fun q u h => ?_⟩
    · show upd w.H p o q = some u
      rw [upd_ne (ne_of_none h h0)]; exact s.keep q u h n
    · obtain ⟨u', hu⟩ := s.there q u h
      exact ⟨u', by show upd w.H p o q = _; rw [upd_ne (ne_of_none h h0)]; exact hu⟩
theorem priv_stays {p : Addr} {o : HO} (s : Step w w') (h : w.H p = some o) (fn : w.F p = none) (nl : ¬ live w.m p) : w'.H p = some o ∧ w'.F p = none ∧ ¬ live w'.m p := by
  refine ⟨s.keep p o h nl, s.new p o fn h nl, fun l => ?_⟩
  rcases s.nb p l with l | z
  · exact nl l
  · rw [h] at z; cases z
/-- it becomes data, or a box -/
theorem mkL_at {bx : Bool} {vs : List Val} {μ' : Store} {v : Val} {xs : List V} {p : Addr} (R : Rel K cls w μ) (r : VrA K w xs vs) (h : mkL bx vs μ = some (v, μ')) (hp : w.H p = some (.lst xs)) (fn : w.F p = none) (nl : ¬ live w.m p) :
    ∃ w', w'.H = w.H ∧ Rel K cls w' μ' ∧ Vr K w' (.ref p) v ∧ ∀ w0 : Wd, Step w0 w → w0.H p = none → Step w0 w' := by
  unfold mkL at h
  cases bx with
  | true =>
    simp only [if_true, Option.some.injEq, Prod.mk.injEq] at h
    obtain ⟨rfl, rfl⟩ := h
    have mm : ∀ (k : Nat) x, w.m[k]? = some x → (w.m ++ [some p])[k]? = some x := fun k x h => get_snoc_lt h
    have vm : ∀ x v, Vr K w x v → Vr K ⟨w.F, w.H, w.m ++ [some p]⟩ x v := fun x v z => by
      cases z with
      | dat z => exact .dat z
      | box z =>
        refine .box ?_
        rcases z with z | z
        · exact .inl (mm _ _ z)
        · exact .inr (mm _ _ z)
    refine ⟨⟨w.F, w.H, w.m ++ [some p]⟩, rfl, ⟨?_, R.sub, fun k q h => ?_, fun k t h hd => ?_, fun j k q h1 h2 => ?_⟩, ?_, fun w0 s h0 => ?_⟩
    · show (w.m ++ [some p]).length = (μ ++ [SO.lst vs]).length
      rw [List.length_append, List.length_append, R.len] <;> rfl
    · rcases get_snoc h with h | ⟨e, h⟩
      · obtain ⟨f, t, e, r⟩ := R.box k q h
        refine ⟨f, t, get_snoc_lt e, ?_⟩
        cases t with
        | lst vs => obtain ⟨xs, h1, h2⟩ := r; exact ⟨xs, h1, paired_mono (vm) h2⟩
        | ins c fs => obtain ⟨dx, gs, h1, h2⟩ := r; exact ⟨dx, gs, h1, paired_mono (fun _ _ z => ⟨z.1, vm _ _ z.2⟩) h2⟩
        | dead => exact r
      · cases h
        subst e
        refine ⟨fn, .lst vs, ?_, xs, hp, paired_mono vm r⟩
        rw [R.len]; exact get_snoc_eq
    · rcases get_snoc h with h | ⟨e, h⟩
      · obtain ⟨q, hq⟩ := R.liv k t h hd
        exact ⟨q, get_snoc_lt hq⟩
      · subst e
        exact ⟨p, by show (w.m ++ [some p])[μ.length]? = some (some p); rw [← R.len]; exact get_snoc_eq⟩
    · rcases get_snoc h1 with h1 | ⟨e1, z1⟩ <;> rcases get_snoc h2 with h2 | ⟨e2, z2⟩
      · exact R.inj j k q h1 h2
      · cases z2; exact absurd ⟨_, h1⟩ nl
      · cases z1; exact absurd ⟨_, h2⟩ nl
      · rw [e1, e2]
    · refine .box (.inl ?_)
      show (w.m ++ [some p])[μ.length]? = some (some p)
      rw [← R.len]; exact get_snoc_eq
    · refine ⟨s.fr, s.keep, s.new, fun k x h => ?_, fun q l => ?_, s.there⟩
      · rcases s.mm k x h with h | h
        · exact .inl (mm _ _ h)
        · exact .inr (mm _ _ h)
      · obtain ⟨k, l⟩ := l
        rcases get_snoc l with l | ⟨_, l⟩
        · exact s.nb q ⟨k, l⟩
        · cases l; exact .inr h0
  | false =>
    cases e : datsOf vs with
    | none => rw [e] at h; cases h
    | some ds =>
      rw [e] at h
      simp only [Bool.false_eq_true, if_false, Option.map_some, Option.some.injEq, Prod.mk.injEq] at h
      obtain ⟨rfl, rfl⟩ := h
      have fr : ∀ q u, w.F q = some u → upd w.F p (.lst xs) q = some u := fun q u h => by rw [upd_ne (ne_of_none h fn)]; exact h
      have vm : ∀ x v, Vr K w x v → Vr K ⟨upd w.F p (.lst xs), w.H, w.m⟩ x v := fun x v z => by
        cases z with
        | dat z => exact .dat (z.mono fr)
        | box z => exact .box z
      refine ⟨⟨upd w.F p (.lst xs), w.H, w.m⟩, rfl, ⟨R.len, fun q u h => ?_, fun k q h => ?_, R.liv, R.inj⟩, .dat (.lst upd_same ((dats_rel r e).mono fr)), fun w0 s h0 => ?_⟩
      · have h : upd w.F p (.lst xs) q = some u := h
        by_cases e : q = p
        · subst e; rw [upd_same] at h; cases h; exact hp
        · rw [upd_ne e] at h; exact R.sub q u h
      · obtain ⟨f, t, e, r⟩ := R.box k q h
        have ne : q ≠ p := fun z => nl ⟨k, by rw [← z]; exact h⟩
        refine ⟨by show upd w.F p (.lst xs) q = none; rw [upd_ne ne]; exact f, t, e, ?_⟩
        cases t with
        | lst vs => obtain ⟨xs, h1, h2⟩ := r; exact ⟨xs, h1, paired_mono (vm) h2⟩
        | ins c fs => obtain ⟨dx, gs, h1, h2⟩ := r; exact ⟨dx, gs, h1, paired_mono (fun _ _ z => ⟨z.1, vm _ _ z.2⟩) h2⟩
        | dead => exact r
      · refine ⟨fun q u h => fr q u (s.fr q u h), s.keep, fun q u hf h n => ?_, s.mm, s.nb, s.there⟩
        show upd w.F p (.lst xs) q = none
        rw [upd_ne (ne_of_none h h0)]; exact s.new q u hf h n
theorem frzV_ok {x : V} {v v' : Val} {μ' : Store} (R : Rel K cls w μ) (r : Vr K w x v) (h : frzV v μ = some (v', μ')) : ∃ w', w'.H = w.H ∧ Step w w' ∧ Rel K cls w' μ' ∧ Vr K w' x v' := by
  cases r with
  | dat r =>
    simp only [frzV, Option.some.injEq, Prod.mk.injEq] at h
    obtain ⟨rfl, rfl⟩ := h
    exact ⟨w, rfl, Step.refl w, R, .dat r⟩
  | @box p k r =>
    simp only [frzV] at h
    split at h
    · rename_i vs e
      obtain ⟨hk, xs, hx, rx⟩ := box_of R (.box r) e (fun z => nomatch z)
      cases e2 : datsOf vs with
      | none => rw [e2] at h; cases h
      | some ds =>
        rw [e2] at h
        simp only [Option.map_some, Option.some.injEq, Prod.mk.injEq] at h
        obtain ⟨rfl, rfl⟩ := h
        obtain ⟨s, R'⟩ := freeze_box R hk hx
        exact ⟨⟨upd w.F p (.lst xs), w.H, w.m.set k none⟩, rfl, s, R', .dat (.lst upd_same ((dats_rel rx e2).mono s.fr))⟩
    · cases h
/-! ### attributes -/
abbrev FP (K : PySem.W.Frag) (w : Wd) : List (Str × V) → List (Str × Val) → Prop := Paired fun a b => a.1 = b.1 ∧ Vr K w a.2 b.2
theorem fp_look {f : Str} : ∀ {gs : List (Str × V)} {fs : List (Str × Val)}, FP K w gs fs → (∀ v, lookF f fs = some v → ∃ x, gs.lookup f = some x ∧ Vr K w x v) ∧ (lookF f fs = none → gs.lookup f = none)
  | [], [], _ => ⟨(fun v (h : (none : Option Val) = some v) => nomatch h), fun _ => rfl⟩
  | (g, x) :: gs, (g', v') :: fs, .cons er t => by
    obtain ⟨e, r⟩ := er
    have e : g = g' := e
    subst e
    obtain ⟨i1, i2⟩ := fp_look (f := f) t
    by_cases h : g = f
    · subst h
      have hb : (g == g) = true := by simp
      refine ⟨fun v hv => ?_, fun hn => ?_⟩
      · simp only [lookF, if_true] at hv
        cases hv
        exact ⟨x, by rw [List.lookup_cons, hb], r⟩
      · simp only [lookF, if_true] at hn; cases hn
    · have hb : (f == g) = false := by
        rw [beq_eq_false_iff_ne]
        exact fun z => h z.symm
      refine ⟨fun v hv => ?_, fun hn => ?_⟩
      · simp only [lookF, if_neg h] at hv
        obtain ⟨y, hy, ry⟩ := i1 v hv
        exact ⟨y, by rw [List.lookup_cons, hb]; exact hy, ry⟩
      · simp only [lookF, if_neg h] at hn
        rw [List.lookup_cons, hb]; exact i2 hn
theorem fp_put {f : Str} {x : V} {v : Val} (r : Vr K w x v) : ∀ {gs : List (Str × V)} {fs : List (Str × Val)}, FP K w gs fs → FP K w (putF f x gs) (putG f v fs)
  | [], [], _ => .cons ⟨rfl, r⟩ .nil
  | (g, y) :: gs, (g', u) :: fs, .cons er t => by
    obtain ⟨e, r1⟩ := er
    have e : g = g' := e
    subst e
    unfold putF putG
    split
    · exact .cons ⟨rfl, r⟩ t
    · exact .cons ⟨rfl, r1⟩ (fp_put r t)
end
end EV

/-! EvD: soundness of expressions, tests, statements, defs. -/
namespace EV
open PySem L2

section
variable {cn : Cn} {c : Ev}
abbrev AnsE (cn : Cn) (w : Wd) (v : Val) (μ' : Store) (Q : VK) : Prop := Ans1 cn.K cn.cls w v μ' Q

/-- the loop of a comprehension -/
theorem sound_lc {w0 w : Wd} {σ : St} {D0 : Addr} {J : It} {nx : Nxt} {step : Val → Store → Option (Option Val × Store)} {g : TG} {tt : TT} {te : TE} {vs : List Nat} {Q : VK} {accF : List Val} {μF : Store}
    (hJ : ItOk cn.K cn.cls J nx w0) (hD0 : w0.H D0 = none)
    (hstep : ∀ (v : Val) (μ : Store) (r : Option Val) (μ' : Store), step v μ = some (r, μ') → ∀ (w1 : Wd) (x : V), Step w0 w1 → Rel cn.K cn.cls w1 μ → Vr cn.K w1 x v → ∀ (F : V → Hp → Prop) (G : Hp → Prop),
      (∀ w2, Step w1 w2 → Rel cn.K cn.cls w2 μ' → match r with | some y => ∀ yv, Vr cn.K w2 yv y → F yv w2.H | none => G w2.H) →
      g x (wipe σ vs) w1.H fun σ2 H2 => wipe σ2 vs = wipe σ vs ∧ tt σ2 H2 fun b H3 => if b = true then te σ2 H3 F else G H3)
    (hQ : ∀ (w1 : Wd) (xs : List V), Step w0 w1 → Rel cn.K cn.cls w1 μF → w1.H D0 = some (.lst xs) → VrA cn.K w1 xs accF → w1.F D0 = none → ¬ live w1.m D0 → Q (.ref D0) w1.H)
    (n : Nat) (μ : Store) (hw : w.H = upd w0.H D0 (.lst [])) (s0 : Step w0 w) (R0 : Rel cn.K cn.cls w μ) (f0 : w.F D0 = none) (l0 : ¬ live w.m D0)
    (h : lcLoop nx step n 0 [] μ = some (accF, μF)) :
    ∃ W : Nat → Nat → Hp → Prop, (∃ m, W 0 m (upd w0.H D0 (.lst []))) ∧ ∀ i m H, W i m H →
      (J.stop i H ∧ Q (.ref D0) H) ∨ (J.go i H ∧ ∃ Nx : Hp → Prop, (∀ H', Nx H' → ∃ m', m' < m ∧ W (i + 1) m' H') ∧ ∀ x H', J.yld i H x H' → g x (wipe σ vs) H' fun σ2 H2 => wipe σ2 vs = wipe σ vs ∧ tt σ2 H2 fun b H3 =>
        if b = true then te σ2 H3 fun y H4 => ∃ acc, H4 D0 = some (.lst acc) ∧ acc.length < sizeLine ∧ Nx (upd H4 D0 (.lst (acc ++ [y]))) else Nx H3) := by
  refine ⟨fun i m H => ∃ (w1 : Wd) (μ1 : Store) (acc : List Val) (xs : List V), w1.H = H ∧ Step w0 w1 ∧ Rel cn.K cn.cls w1 μ1 ∧ w1.H D0 = some (.lst xs) ∧ VrA cn.K w1 xs acc ∧ w1.F D0 = none ∧ ¬ live w1.m D0 ∧ lcLoop nx step m i acc μ1 = some (accF, μF),
    ⟨n, w, μ, [], [], hw, s0, R0, by rw [hw]; exact upd_same, .nil, f0, l0, h⟩, ?_⟩
  rintro i m H ⟨w1, μ1, acc, xs, rfl, s1, R1, hD, rA, fD, lD, hl⟩
  cases m with
  | zero => cases hl
  | succ m =>
    simp only [lcLoop] at hl
    obtain ⟨j1, j2⟩ := hJ w1 μ1 s1 R1 i
    split at hl
    · cases hl
    · rename_i e
      simp only [Option.some.injEq, Prod.mk.injEq] at hl
      obtain ⟨rfl, rfl⟩ := hl
      exact .inl ⟨j1 e, hQ w1 xs s1 R1 hD rA fD lD⟩
    · rename_i v e
      obtain ⟨jg, jy⟩ := j2 v e
      refine .inr ⟨jg, fun H' => ∃ (w2 : Wd) (μ2 : Store) (acc2 : List Val) (xs2 : List V), w2.H = H' ∧ Step w0 w2 ∧ Rel cn.K cn.cls w2 μ2 ∧ w2.H D0 = some (.lst xs2) ∧ VrA cn.K w2 xs2 acc2 ∧ w2.F D0 = none ∧ ¬ live w2.m D0 ∧ lcLoop nx step m (i + 1) acc2 μ2 = some (accF, μF), fun H' hN => ⟨m, Nat.lt_succ_self m, hN⟩, ?_⟩
      intro x H' hy
      obtain ⟨w2, rfl, s2, R2, rx⟩ := jy x H' hy
      obtain ⟨hD2, fD2, lD2⟩ := priv_stays s2 hD fD lD
      split at hl
      · cases hl
      · rename_i μ3 es
        refine hstep v μ1 none μ3 es w2 x (s1.trans s2) R2 rx _ _ fun w3 s3 R3 => ?_
        obtain ⟨hD3, fD3, lD3⟩ := priv_stays s3 hD2 fD2 lD2
        exact ⟨w3, μ3, acc, xs, rfl, (s1.trans s2).trans s3, R3, hD3, (rA.mono s2).mono s3, fD3, lD3, hl⟩
      · rename_i y μ3 es
        refine hstep v μ1 (some y) μ3 es w2 x (s1.trans s2) R2 rx _ _ fun w3 s3 R3 yv ry => ?_
        obtain ⟨hD3, fD3, lD3⟩ := priv_stays s3 hD2 fD2 lD2
        split at hl
        · rename_i hz
          have rA3 : VrA cn.K w3 xs acc := (rA.mono s2).mono s3
          obtain ⟨R4, s4⟩ := set_priv (o := .lst (xs ++ [yv])) R3 fD3 lD3
          refine ⟨xs, hD3, by rw [rA3.length]; exact hz, ⟨w3.F, upd w3.H D0 (.lst (xs ++ [yv])), w3.m⟩, μ3, acc ++ [y], xs ++ [yv], rfl, s4 w0 ((s1.trans s2).trans s3) hD0, R4, upd_same, ?_, fD3, lD3, hl⟩
          exact Paired.snoc (paired_mono (fun _ _ z => vr_H z) rA3) (vr_H ry)
        · cases hl

mutual
theorem soundE (hc : CallOk cn c) : ∀ (e : RE) {ρ : Rho} {μ μ' : Store} {v : Val}, evE c e ρ μ = some (v, μ') → ∀ {w : Wd} {σ : St}, Rel cn.K cn.cls w μ → Er cn.K w σ ρ → ∀ Q : VK, AnsE cn w v μ' Q → denE cn e σ w.H Q
  | .var i, ρ, μ, μ', v, h, w, σ, R, E, Q, q => by
    simp only [evE] at h
    split at h
    · rename_i u e
      simp only [Option.some.injEq, Prod.mk.injEq] at h
      obtain ⟨rfl, rfl⟩ := h
      obtain ⟨x, hx, r⟩ := E.2 i _ e
      exact ⟨x, hx, q x w (Step.refl w) R r⟩
    · cases h
  | .cst s, ρ, μ, μ', v, h, w, σ, R, E, Q, q => by
    simp only [evE, Option.some.injEq, Prod.mk.injEq] at h
    obtain ⟨rfl, rfl⟩ := h
    exact q _ w (Step.refl w) R s.r
  | .app o a, ρ, μ, μ', v, h, w, σ, R, E, Q, q => by
    simp only [evE] at h
    split at h
    · rename_i vs μ1 e1
      refine soundL hc a e1 R E _ fun xs w1 s1 R1 r1 => ?_
      exact o.ok _ _ _ _ _ _ h w1 xs R1 r1 Q fun x w2 s2 R2 r2 => q x w2 (s1.trans s2) R2 r2
    · cases h
  | .call f a, ρ, μ, μ', v, h, w, σ, R, E, Q, q => by
    simp only [evE] at h
    split at h
    · rename_i vs μ1 e1
      refine soundL hc a e1 R E _ fun xs w1 s1 R1 r1 => ?_
      show cn.sp f (xs ++ []) w1.H Q E0
      rw [List.append_nil]
      exact hc.call f _ _ _ _ h w1 xs R1 r1 Q E0 fun x w2 s2 R2 r2 => q x w2 (s1.trans s2) R2 r2
    · cases h
  | .mth k nm f o a, ρ, μ, μ', v, h, w, σ, R, E, Q, q => by
    simp only [evE] at h
    split at h
    · rename_i j μ1 e1
      split at h
      · rename_i k' fs e2
        split at h
        · rename_i hk
          obtain ⟨rfl, hn⟩ := hk
          refine soundE hc o e1 R E _ fun x w1 s1 R1 r1 => ?_
          obtain ⟨p, rfl⟩ : ∃ p, x = .ref p := by cases r1; exact ⟨_, rfl⟩
          obtain ⟨hm, dx, gs, hp, hg⟩ := box_of R1 r1 e2 (fun z => nomatch z)
          refine ⟨p, dx, gs, rfl, hp, (fp_look hg).2 hn, ?_⟩
          split at h
          · rename_i vs μ2 e3
            refine soundL hc a e3 R1 (E.mono s1) _ fun xs w2 s2 R2 r2 => ?_
            show cn.sp f (.ref p :: (xs ++ [])) w2.H Q E0
            rw [List.append_nil]
            exact hc.call f _ _ _ _ h w2 _ R2 (.cons (r1.mono s2) r2) Q E0 fun x w3 s3 R3 r3 => q x w3 ((s1.trans s2).trans s3) R3 r3
          · cases h
        · cases h
      · cases h
    · cases h
  | .new k f a, ρ, μ, μ', v, h, w, σ, R, E, Q, q => by
    simp only [evE] at h
    split at h
    · rename_i vs μ1 e1
      split at h
      · rename_i μ2 e2
        simp only [Option.some.injEq, Prod.mk.injEq] at h
        obtain ⟨rfl, rfl⟩ := h
        refine soundL hc a e1 R E _ fun xs w1 s1 R1 r1 => ?_
        intro x dx nx ndx ne
        obtain ⟨s2, R2, _, _⟩ := lay_priv (o := .own x) R1 ndx
        obtain ⟨s3, R3⟩ := lay_box (w := ⟨w1.F, upd w1.H dx (.own x), w1.m⟩) (p := x) (o := .ins (cn.cls k) dx []) (s := .ins k []) R2 (by show upd w1.H dx (.own x) x = none; rw [upd_ne (fun z => ne z.symm)]; exact nx)
          (fun w' st hw => ⟨dx, [], hw, .nil⟩)
        have hb : Vr cn.K ⟨w1.F, upd (upd w1.H dx (.own x)) x (.ins (cn.cls k) dx []), w1.m ++ [some x]⟩ (.ref x) (.box μ1.length) := by
          refine .box (.inl ?_)
          show (w1.m ++ [some x])[μ1.length]? = some (some x)
          rw [← R1.len]; exact get_snoc_eq
        show cn.sp f (.ref x :: (xs ++ [])) _ _ E0
        rw [List.append_nil]
        refine hc.call f _ _ _ _ e2 ⟨w1.F, upd (upd w1.H dx (.own x)) x (.ins (cn.cls k) dx []), w1.m ++ [some x]⟩ _ R3 (.cons hb ((r1.mono s2).mono s3)) _ E0 fun y w4 s4 R4 r4 => ?_
        refine ⟨by cases r4 with | dat z => cases z; rfl, q _ w4 (((s1.trans s2).trans s3).trans s4) R4 (hb.mono s4)⟩
      · cases h
    · cases h
  | .fld k o f, ρ, μ, μ', v, h, w, σ, R, E, Q, q => by
    simp only [evE] at h
    split at h
    · rename_i j μ1 e1
      split at h
      · rename_i k' fs e2
        split at h
        · rename_i hk
          obtain ⟨rfl, hf⟩ := hk
          split at h
          · rename_i u e3
            simp only [Option.some.injEq, Prod.mk.injEq] at h
            obtain ⟨rfl, rfl⟩ := h
            refine soundE hc o e1 R E _ fun x w1 s1 R1 r1 => ?_
            obtain ⟨p, rfl⟩ : ∃ p, x = .ref p := by cases r1; exact ⟨_, rfl⟩
            obtain ⟨hm, dx, gs, hp, hg⟩ := box_of R1 r1 e2 (fun z => nomatch z)
            obtain ⟨y, hy, ry⟩ := (fp_look hg).1 _ e3
            obtain ⟨h1, h2⟩ := hc.fld _ f hf
            exact ⟨p, _, dx, gs, y, rfl, hp, h1, h2, hy, q y w1 s1 R1 ry⟩
          · cases h
        · cases h
      · cases h
    · cases h
  | .bm o r a, ρ, μ, μ', v, h, w, σ, R, E, Q, q => by
    simp only [evE] at h
    split at h
    · rename_i u μ1 e1
      split at h
      · rename_i hi
        refine soundE hc r e1 R E _ fun x w1 s1 R1 r1 => ?_
        refine ⟨o.ty _ _ _ _ hi w1 x R1 r1, ?_⟩
        split at h
        · rename_i vs μ2 e2
          refine soundL hc a e2 R1 (E.mono s1) _ fun xs w2 s2 R2 r2 => ?_
          exact o.ok _ _ _ _ _ _ _ h w2 x xs R2 (r1.mono s2) r2 Q fun x w3 s3 R3 r3 => q x w3 ((s1.trans s2).trans s3) R3 r3
        · cases h
      · cases h
    · cases h
  | .sl o e lo hi, ρ, μ, μ', v, h, w, σ, R, E, Q, q => by
    simp only [evE] at h
    split at h
    · rename_i u μ1 e1
      split at h
      · rename_i l μ2 e2
        split at h
        · rename_i hh μ3 e3
          refine soundE hc e e1 R E _ fun x w1 s1 R1 r1 => ?_
          refine soundO hc lo e2 R1 (E.mono s1) _ fun w2 s2 R2 => ?_
          refine soundO hc hi e3 R2 ((E.mono s1).mono s2) _ fun w3 s3 R3 => ?_
          exact o.ok _ _ _ _ _ _ _ _ h w3 x R3 ((r1.mono s2).mono s3) Q fun x w4 s4 R4 r4 => q x w4 (((s1.trans s2).trans s3).trans s4) R4 r4
        · cases h
      · cases h
    · cases h
  | .ifx t a b, ρ, μ, μ', v, h, w, σ, R, E, Q, q => by
    simp only [evE] at h
    split at h
    · rename_i μ1 e1
      refine soundT hc t e1 R E _ fun w1 s1 R1 => ?_
      rw [if_pos rfl]
      exact soundE hc a h R1 (E.mono s1) Q fun x w2 s2 R2 r2 => q x w2 (s1.trans s2) R2 r2
    · rename_i μ1 e1
      refine soundT hc t e1 R E _ fun w1 s1 R1 => ?_
      rw [if_neg Bool.false_ne_true]
      exact soundE hc b h R1 (E.mono s1) Q fun x w2 s2 R2 r2 => q x w2 (s1.trans s2) R2 r2
    · cases h
  | .andV a b, ρ, μ, μ', v, h, w, σ, R, E, Q, q => by
    simp only [evE] at h
    split at h
    · rename_i μ1 e1
      refine soundE hc a e1 R E _ fun x w1 s1 R1 r1 => ?_
      refine ⟨true, by cases r1 with | dat z => cases z; rfl, ?_⟩
      rw [if_pos rfl]
      exact soundE hc b h R1 (E.mono s1) Q fun x w2 s2 R2 r2 => q x w2 (s1.trans s2) R2 r2
    · rename_i μ1 e1
      simp only [Option.some.injEq, Prod.mk.injEq] at h
      obtain ⟨rfl, rfl⟩ := h
      refine soundE hc a e1 R E _ fun x w1 s1 R1 r1 => ?_
      refine ⟨false, by cases r1 with | dat z => cases z; rfl, ?_⟩
      rw [if_neg Bool.false_ne_true]
      exact q _ w1 s1 R1 (.dat (.bl false))
    · cases h
  | .orV a b, ρ, μ, μ', v, h, w, σ, R, E, Q, q => by
    simp only [evE] at h
    split at h
    · rename_i μ1 e1
      simp only [Option.some.injEq, Prod.mk.injEq] at h
      obtain ⟨rfl, rfl⟩ := h
      refine soundE hc a e1 R E _ fun x w1 s1 R1 r1 => ?_
      refine ⟨true, by cases r1 with | dat z => cases z; rfl, ?_⟩
      rw [if_pos rfl]
      exact q _ w1 s1 R1 (.dat (.bl true))
    · rename_i μ1 e1
      refine soundE hc a e1 R E _ fun x w1 s1 R1 r1 => ?_
      refine ⟨false, by cases r1 with | dat z => cases z; rfl, ?_⟩
      rw [if_neg Bool.false_ne_true]
      exact soundE hc b h R1 (E.mono s1) Q fun x w2 s2 R2 r2 => q x w2 (s1.trans s2) R2 r2
    · cases h
  | .chain o1 o2 a b d, ρ, μ, μ', v, h, w, σ, R, E, Q, q => by
    simp only [evE] at h
    split at h
    · rename_i x μ1 e1
      split at h
      · rename_i y μ2 e2
        split at h
        · rename_i μ3 e3
          refine soundE hc a e1 R E _ fun xv w1 s1 R1 r1 => ?_
          refine soundE hc b e2 R1 (E.mono s1) _ fun yv w2 s2 R2 r2 => ?_
          refine o1.ok _ _ _ _ _ _ e3 w2 [xv, yv] R2 (.cons (r1.mono s2) (.cons r2 .nil)) _ fun z w3 s3 R3 r3 => ?_
          refine ⟨true, by cases r3 with | dat z => cases z; rfl, ?_⟩
          rw [if_pos rfl]
          split at h
          · rename_i z μ4 e4
            refine soundE hc d e4 R3 (((E.mono s1).mono s2).mono s3) _ fun zv w4 s4 R4 r4 => ?_
            exact o2.ok _ _ _ _ _ _ h w4 [yv, zv] R4 (.cons ((r2.mono s3).mono s4) (.cons r4 .nil)) _ fun x w5 s5 R5 r5 => q x w5 ((((s1.trans s2).trans s3).trans s4).trans s5) R5 r5
          · cases h
        · rename_i μ3 e3
          simp only [Option.some.injEq, Prod.mk.injEq] at h
          obtain ⟨rfl, rfl⟩ := h
          refine soundE hc a e1 R E _ fun xv w1 s1 R1 r1 => ?_
          refine soundE hc b e2 R1 (E.mono s1) _ fun yv w2 s2 R2 r2 => ?_
          refine o1.ok _ _ _ _ _ _ e3 w2 [xv, yv] R2 (.cons (r1.mono s2) (.cons r2 .nil)) _ fun z w3 s3 R3 r3 => ?_
          refine ⟨false, by cases r3 with | dat z => cases z; rfl, ?_⟩
          rw [if_neg Bool.false_ne_true]
          exact q _ w3 ((s1.trans s2).trans s3) R3 (.dat (.bl false))
        · cases h
      · cases h
    · cases h
  | .lc bx vs it ia g t e, ρ, μ, μ', v, h, w, σ, R, E, Q, q => by
    simp only [evE] at h
    split at h
    · rename_i xs μ1 e1
      split at h
      · rename_i nx e2
        split at h
        · rename_i hsl
          split at h
          · rename_i acc μ2 e3
            refine soundL hc ia e1 R E _ fun xv w1 s1 R1 r1 => ?_
            refine it.ok _ _ _ _ _ e2 w1 xv R1 r1 _ fun J hJ => ?_
            intro D0 hD0
            obtain ⟨s2, R2, f2, l2⟩ := lay_priv (o := .lst []) R1 hD0
            have hs : ∀ i ∈ slotsG g, i ∈ vs := fun i hi => by
              have := List.all_eq_true.mp hsl i hi
              simpa using this
            refine sound_lc (cn := cn) (w0 := w1) (w := ⟨w1.F, upd w1.H D0 (.lst []), w1.m⟩) hJ hD0 ?_ ?_ c.n μ1 rfl s2 R2 f2 l2 e3
            · intro u μa r μb hst w2 x st Ra rx F G k
              split at hst
              · rename_i ρ2 eg
                refine soundG Ra g eg (((E.mono s1).mono st).wipe vs) rx _ fun σ2 E2 a2 => ?_
                refine ⟨wipe_agree hs a2, ?_⟩
                split at hst
                · rename_i μc et
                  refine soundT hc t et Ra E2 _ fun w3 s3 R3 => ?_
                  rw [if_pos rfl]
                  split at hst
                  · rename_i y μd ee
                    simp only [Option.some.injEq, Prod.mk.injEq] at hst
                    obtain ⟨rfl, rfl⟩ := hst
                    exact soundE hc e ee R3 (E2.mono s3) _ fun yv w4 s4 R4 r4 => k w4 (s3.trans s4) R4 yv r4
                  · cases hst
                · rename_i μc et
                  simp only [Option.some.injEq, Prod.mk.injEq] at hst
                  obtain ⟨rfl, rfl⟩ := hst
                  refine soundT hc t et Ra E2 _ fun w3 s3 R3 => ?_
                  rw [if_neg Bool.false_ne_true]
                  exact k w3 s3 R3
                · cases hst
              · cases hst
            · intro w2 ys st2 R2' hD rA fD lD
              obtain ⟨w3, hw3, R3, r3, s3⟩ := mkL_at R2' rA h hD fD lD
              have := q (.ref D0) w3 (s1.trans (s3 w1 st2 hD0)) R3 r3
              rw [hw3] at this
              exact this
          · cases h
        · cases h
      · cases h
    · cases h
  | .frz e, ρ, μ, μ', v, h, w, σ, R, E, Q, q => by
    simp only [evE] at h
    split at h
    · rename_i u μ1 e1
      refine soundE hc e e1 R E _ fun x w1 s1 R1 r1 => ?_
      obtain ⟨w2, hw, s2, R2, r2⟩ := frzV_ok R1 r1 h
      have := q x w2 (s1.trans s2) R2 r2
      rw [hw] at this
      exact this
    · cases h
theorem soundL (hc : CallOk cn c) : ∀ (e : RL) {ρ : Rho} {μ μ' : Store} {vs : List Val}, evL c e ρ μ = some (vs, μ') → ∀ {w : Wd} {σ : St}, Rel cn.K cn.cls w μ → Er cn.K w σ ρ → ∀ Q : List V → Hp → Prop,
    (∀ xs w', Step w w' → Rel cn.K cn.cls w' μ' → VrA cn.K w' xs vs → Q xs w'.H) → denL cn e σ w.H Q
  | .nil, ρ, μ, μ', vs, h, w, σ, R, E, Q, q => by
    simp only [evL, Option.some.injEq, Prod.mk.injEq] at h
    obtain ⟨rfl, rfl⟩ := h
    exact q [] w (Step.refl w) R .nil
  | .cons e r, ρ, μ, μ', vs, h, w, σ, R, E, Q, q => by
    simp only [evL] at h
    split at h
    · rename_i v μ1 e1
      split at h
      · rename_i us μ2 e2
        simp only [Option.some.injEq, Prod.mk.injEq] at h
        obtain ⟨rfl, rfl⟩ := h
        refine soundE hc e e1 R E _ fun x w1 s1 R1 r1 => ?_
        exact soundL hc r e2 R1 (E.mono s1) _ fun xs w2 s2 R2 r2 => q _ w2 (s1.trans s2) R2 (.cons (r1.mono s2) r2)
      · cases h
    · cases h
theorem soundO (hc : CallOk cn c) : ∀ (e : RO) {ρ : Rho} {μ μ' : Store} {o : Option Int}, evO c e ρ μ = some (o, μ') → ∀ {w : Wd} {σ : St}, Rel cn.K cn.cls w μ → Er cn.K w σ ρ → ∀ Q : Option Int → Hp → Prop,
    (∀ w', Step w w' → Rel cn.K cn.cls w' μ' → Q o w'.H) → denO cn e σ w.H Q
  | .no, ρ, μ, μ', o, h, w, σ, R, E, Q, q => by
    simp only [evO, Option.some.injEq, Prod.mk.injEq] at h
    obtain ⟨rfl, rfl⟩ := h
    exact q w (Step.refl w) R
  | .so e, ρ, μ, μ', o, h, w, σ, R, E, Q, q => by
    simp only [evO] at h
    split at h
    · rename_i i μ1 e1
      simp only [Option.some.injEq, Prod.mk.injEq] at h
      obtain ⟨rfl, rfl⟩ := h
      refine soundE hc e e1 R E _ fun x w1 s1 R1 r1 => ?_
      exact ⟨i, by cases r1 with | dat z => cases z; rfl, q w1 s1 R1⟩
    · cases h
theorem soundT (hc : CallOk cn c) : ∀ (t : RT) {ρ : Rho} {μ μ' : Store} {b : Bool}, evT c t ρ μ = some (b, μ') → ∀ {w : Wd} {σ : St}, Rel cn.K cn.cls w μ → Er cn.K w σ ρ → ∀ Q : Bool → Hp → Prop,
    (∀ w', Step w w' → Rel cn.K cn.cls w' μ' → Q b w'.H) → denT cn t σ w.H Q
  | .yes, ρ, μ, μ', b, h, w, σ, R, E, Q, q => by
    simp only [evT, Option.some.injEq, Prod.mk.injEq] at h
    obtain ⟨rfl, rfl⟩ := h
    exact q w (Step.refl w) R
  | .tr o e, ρ, μ, μ', b, h, w, σ, R, E, Q, q => by
    simp only [evT] at h
    split at h
    · rename_i v μ1 e1
      split at h
      · rename_i b' e2
        simp only [Option.some.injEq, Prod.mk.injEq] at h
        obtain ⟨rfl, rfl⟩ := h
        refine soundE hc e e1 R E _ fun x w1 s1 R1 r1 => ?_
        exact o.ok _ _ _ _ _ e2 w1 x R1 r1 Q (q w1 s1 R1)
      · cases h
    · cases h
  | .bv e, ρ, μ, μ', b, h, w, σ, R, E, Q, q => by
    simp only [evT] at h
    split at h
    · rename_i b' μ1 e1
      simp only [Option.some.injEq, Prod.mk.injEq] at h
      obtain ⟨rfl, rfl⟩ := h
      refine soundE hc e e1 R E _ fun x w1 s1 R1 r1 => ?_
      exact ⟨b', by cases r1 with | dat z => cases z; rfl, q w1 s1 R1⟩
    · cases h
  | .and a b, ρ, μ, μ', r, h, w, σ, R, E, Q, q => by
    simp only [evT] at h
    split at h
    · rename_i μ1 e1
      refine soundT hc a e1 R E _ fun w1 s1 R1 => ?_
      rw [if_pos rfl]
      exact soundT hc b h R1 (E.mono s1) Q fun w2 s2 R2 => q w2 (s1.trans s2) R2
    · rename_i μ1 e1
      simp only [Option.some.injEq, Prod.mk.injEq] at h
      obtain ⟨rfl, rfl⟩ := h
      refine soundT hc a e1 R E _ fun w1 s1 R1 => ?_
      rw [if_neg Bool.false_ne_true]
      exact q w1 s1 R1
    · cases h
  | .or a b, ρ, μ, μ', r, h, w, σ, R, E, Q, q => by
    simp only [evT] at h
    split at h
    · rename_i μ1 e1
      simp only [Option.some.injEq, Prod.mk.injEq] at h
      obtain ⟨rfl, rfl⟩ := h
      refine soundT hc a e1 R E _ fun w1 s1 R1 => ?_
      rw [if_pos rfl]
      exact q w1 s1 R1
    · rename_i μ1 e1
      refine soundT hc a e1 R E _ fun w1 s1 R1 => ?_
      rw [if_neg Bool.false_ne_true]
      exact soundT hc b h R1 (E.mono s1) Q fun w2 s2 R2 => q w2 (s1.trans s2) R2
    · cases h
  | .not a, ρ, μ, μ', r, h, w, σ, R, E, Q, q => by
    simp only [evT] at h
    split at h
    · rename_i b μ1 e1
      simp only [Option.some.injEq, Prod.mk.injEq] at h
      obtain ⟨rfl, rfl⟩ := h
      exact soundT hc a e1 R E _ fun w1 s1 R1 => q w1 s1 R1
    · cases h
end

/-! ### statements -/
def Post (cn : Cn) (w : Wd) (o : Out) (ρ' : Rho) (μ' : Store) (D : Ends) : Prop := match o with
  | .nx => ∀ σ' w', Step w w' → Rel cn.K cn.cls w' μ' → Er cn.K w' σ' ρ' → D.nx σ' w'.H
  | .bk => ∀ σ' w', Step w w' → Rel cn.K cn.cls w' μ' → Er cn.K w' σ' ρ' → D.bk σ' w'.H
  | .ct => ∀ σ' w', Step w w' → Rel cn.K cn.cls w' μ' → Er cn.K w' σ' ρ' → D.ct σ' w'.H
  | .rt v => ∀ x w', Step w w' → Rel cn.K cn.cls w' μ' → Vr cn.K w' x v → D.rt x w'.H
theorem Post.back {w w1 : Wd} {o : Out} {ρ' : Rho} {μ' : Store} {D : Ends} (s : Step w w1) (p : Post cn w o ρ' μ' D) : Post cn w1 o ρ' μ' D := by
  cases o with
  | nx => exact fun σ' w' s' => p σ' w' (s.trans s')
  | bk => exact fun σ' w' s' => p σ' w' (s.trans s')
  | ct => exact fun σ' w' s' => p σ' w' (s.trans s')
  | rt v => exact fun x w' s' => p x w' (s.trans s')
theorem soundS (hc : CallOk cn c) : ∀ (s : RS) {ρ ρ' : Rho} {μ μ' : Store} {o : Out}, evS c s ρ μ = some (o, ρ', μ') → ∀ {w : Wd} {σ : St}, Rel cn.K cn.cls w μ → Er cn.K w σ ρ → ∀ D : Ends, Post cn w o ρ' μ' D → denS cn s D σ w.H
  | .nx, ρ, ρ', μ, μ', o, h, w, σ, R, E, D, p => by
    simp only [evS, Option.some.injEq, Prod.mk.injEq] at h
    obtain ⟨rfl, rfl, rfl⟩ := h
    exact p σ w (Step.refl w) R E
  | .seq a b, ρ, ρ', μ, μ', o, h, w, σ, R, E, D, p => by
    simp only [evS] at h
    cases ha : evS c a ρ μ with
    | none => rw [ha] at h; cases h
    | some r =>
      obtain ⟨oa, ρa, μa⟩ := r
      rw [ha] at h
      cases oa with
      | nx =>
        exact soundS hc a ha R E { D with nx := denS cn b D } fun σ1 w1 s1 R1 E1 => soundS hc b h R1 E1 D (p.back s1)
      | bk =>
        simp only [Option.some.injEq, Prod.mk.injEq] at h
        obtain ⟨rfl, rfl, rfl⟩ := h
        exact soundS hc a ha R E { D with nx := denS cn b D } p
      | ct =>
        simp only [Option.some.injEq, Prod.mk.injEq] at h
        obtain ⟨rfl, rfl, rfl⟩ := h
        exact soundS hc a ha R E { D with nx := denS cn b D } p
      | rt v =>
        simp only [Option.some.injEq, Prod.mk.injEq] at h
        obtain ⟨rfl, rfl, rfl⟩ := h
        exact soundS hc a ha R E { D with nx := denS cn b D } p
  | .asg g e, ρ, ρ', μ, μ', o, h, w, σ, R, E, D, p => by
    simp only [evS] at h
    split at h
    · rename_i v μ1 e1
      split at h
      · rename_i ρ1 e2
        simp only [Option.some.injEq, Prod.mk.injEq] at h
        obtain ⟨rfl, rfl, rfl⟩ := h
        refine soundE hc e e1 R E _ fun x w1 s1 R1 r1 => ?_
        exact soundG R1 g e2 (E.mono s1) r1 _ fun σ2 E2 _ => p σ2 w1 s1 R1 E2
      · cases h
    · cases h
  | .setI ob i e, ρ, ρ', μ, μ', o, h, w, σ, R, E, D, p => by
    simp only [evS] at h
    split at h
    · rename_i v μ1 e1
      split at h
      · rename_i k μ2 e2
        split at h
        · rename_i j μ3 e3
          split at h
          · rename_i vs e4
            split at h
            · rename_i jj e5
              simp only [Option.some.injEq, Prod.mk.injEq] at h
              obtain ⟨rfl, rfl, rfl⟩ := h
              refine soundE hc e e1 R E _ fun x w1 s1 R1 r1 => ?_
              refine soundE hc ob e2 R1 (E.mono s1) _ fun y w2 s2 R2 r2 => ?_
              refine soundE hc i e3 R2 ((E.mono s1).mono s2) _ fun z w3 s3 R3 r3 => ?_
              obtain ⟨q, rfl⟩ : ∃ q, y = .ref q := by cases r2; exact ⟨_, rfl⟩
              obtain ⟨hm, xs, hx, rx⟩ := box_of R3 (r2.mono s3) e4 (fun z => nomatch z)
              have r1' := (r1.mono s2).mono s3
              have rs : ∀ {w' : Wd}, Step w3 w' → VrA cn.K w' (xs.set jj x) (vs.set jj v) := fun {w'} st => by
                have base : VrA cn.K w' xs vs := rx.mono st
                have rv : Vr cn.K w' x v := r1'.mono st
                clear e5 e4 hx rx p R E
                induction base generalizing jj with
                | nil => exact .nil
                | cons a b ih =>
                  cases jj with
                  | zero => exact .cons rv b
                  | succ n => exact .cons a (ih n)
              obtain ⟨s4, R4⟩ := set_box (o := .lst (xs.set jj x)) (s := .lst (vs.set jj v)) R3 hm fun w' st hw => ⟨_, hw, rs st⟩
              refine ⟨q, xs, j, jj, rfl, by cases r3 with | dat z => cases z; rfl, hx, by rw [rx.length]; exact e5, ?_⟩
              exact p σ _ (((s1.trans s2).trans s3).trans s4) R4 ((((E.mono s1).mono s2).mono s3).mono s4)
            · cases h
          · cases h
        · cases h
      · cases h
    · cases h
  | .setF k ob f e, ρ, ρ', μ, μ', o, h, w, σ, R, E, D, p => by
    simp only [evS] at h
    split at h
    · rename_i v μ1 e1
      split at h
      · rename_i j μ2 e2
        split at h
        · rename_i k' fs e3
          split at h
          · rename_i hk
            obtain ⟨rfl, hf, hz⟩ := hk
            simp only [Option.some.injEq, Prod.mk.injEq] at h
            obtain ⟨rfl, rfl, rfl⟩ := h
            refine soundE hc e e1 R E _ fun x w1 s1 R1 r1 => ?_
            refine soundE hc ob e2 R1 (E.mono s1) _ fun y w2 s2 R2 r2 => ?_
            obtain ⟨q, rfl⟩ : ∃ q, y = .ref q := by cases r2; exact ⟨_, rfl⟩
            obtain ⟨hm, dx, gs, hp, hg⟩ := box_of R2 r2 e3 (fun z => nomatch z)
            obtain ⟨h1, h2⟩ := hc.fld _ f hf
            obtain ⟨s3, R3⟩ := set_box (o := .ins (cn.cls k') dx (putF f x gs)) (s := .ins k' (putG f v fs)) R2 hm fun w' st hw => ⟨dx, _, hw, fp_put ((r1.mono s2).mono st) (paired_mono (fun _ _ z => ⟨z.1, z.2.mono st⟩) hg)⟩
            refine ⟨q, _, dx, gs, rfl, hp, h1, h2, by rw [hg.length]; exact hz, ?_⟩
            exact p σ _ ((s1.trans s2).trans s3) R3 (((E.mono s1).mono s2).mono s3)
          · cases h
        · cases h
      · cases h
    · cases h
  | .drop e, ρ, ρ', μ, μ', o, h, w, σ, R, E, D, p => by
    simp only [evS] at h
    split at h
    · rename_i v μ1 e1
      simp only [Option.some.injEq, Prod.mk.injEq] at h
      obtain ⟨rfl, rfl, rfl⟩ := h
      exact soundE hc e e1 R E _ fun x w1 s1 R1 r1 => p σ w1 s1 R1 (E.mono s1)
    · cases h
  | .ret e, ρ, ρ', μ, μ', o, h, w, σ, R, E, D, p => by
    simp only [evS] at h
    split at h
    · rename_i v μ1 e1
      simp only [Option.some.injEq, Prod.mk.injEq] at h
      obtain ⟨rfl, rfl, rfl⟩ := h
      exact soundE hc e e1 R E _ fun x w1 s1 R1 r1 => p x w1 s1 R1 r1
    · cases h
  | .retN, ρ, ρ', μ, μ', o, h, w, σ, R, E, D, p => by
    simp only [evS, Option.some.injEq, Prod.mk.injEq] at h
    obtain ⟨rfl, rfl, rfl⟩ := h
    exact p .non w (Step.refl w) R (.dat .non)
  | .ifs t a b, ρ, ρ', μ, μ', o, h, w, σ, R, E, D, p => by
    simp only [evS] at h
    split at h
    · rename_i μ1 e1
      refine soundT hc t e1 R E _ fun w1 s1 R1 => ?_
      rw [if_pos rfl]
      exact soundS hc a h R1 (E.mono s1) D (p.back s1)
    · rename_i μ1 e1
      refine soundT hc t e1 R E _ fun w1 s1 R1 => ?_
      rw [if_neg Bool.false_ne_true]
      exact soundS hc b h R1 (E.mono s1) D (p.back s1)
    · cases h
  | .whil t b, ρ, ρ', μ, μ', o, h, w, σ, R, E, D, p => by
    simp only [evS] at h
    refine ⟨fun m σ1 H1 => ∃ (w1 : Wd) (ρ1 : Rho) (μ1 : Store), w1.H = H1 ∧ Step w w1 ∧ Rel cn.K cn.cls w1 μ1 ∧ Er cn.K w1 σ1 ρ1 ∧ whLoop (evT c t) (evS c b) m ρ1 μ1 = some (o, ρ', μ'), ⟨c.n, w, ρ, μ, rfl, Step.refl w, R, E, h⟩, ?_⟩
    rintro m σ1 H1 ⟨w1, ρ1, μ1, rfl, s1, R1, E1, hl⟩
    cases m with
    | zero => cases hl
    | succ m =>
      simp only [whLoop] at hl
      split at hl
      · cases hl
      · rename_i μ2 e1
        simp only [Option.some.injEq, Prod.mk.injEq] at hl
        obtain ⟨rfl, rfl, rfl⟩ := hl
        refine soundT hc t e1 R1 E1 _ fun w2 s2 R2 => ?_
        rw [if_neg Bool.false_ne_true]
        exact p σ1 w2 (s1.trans s2) R2 (E1.mono s2)
      · rename_i μ2 e1
        refine soundT hc t e1 R1 E1 _ fun w2 s2 R2 => ?_
        rw [if_pos rfl]
        refine ⟨fun σ3 H3 => ∃ (w3 : Wd) (ρ3 : Rho) (μ3 : Store), w3.H = H3 ∧ Step w w3 ∧ Rel cn.K cn.cls w3 μ3 ∧ Er cn.K w3 σ3 ρ3 ∧ whLoop (evT c t) (evS c b) m ρ3 μ3 = some (o, ρ', μ'), fun σ' H' hN => ⟨m, Nat.lt_succ_self m, hN⟩, ?_⟩
        cases hb : evS c b ρ1 μ2 with
        | none => rw [hb] at hl; cases hl
        | some r =>
          obtain ⟨ob, ρb, μb⟩ := r
          rw [hb] at hl
          refine soundS hc b hb R2 (E1.mono s2) _ ?_
          cases ob with
          | nx => exact fun σ3 w3 s3 R3 E3 => ⟨w3, _, _, rfl, (s1.trans s2).trans s3, R3, E3, hl⟩
          | ct => exact fun σ3 w3 s3 R3 E3 => ⟨w3, _, _, rfl, (s1.trans s2).trans s3, R3, E3, hl⟩
          | bk =>
            simp only [Option.some.injEq, Prod.mk.injEq] at hl
            obtain ⟨rfl, rfl, rfl⟩ := hl
            exact fun σ3 w3 s3 R3 E3 => p σ3 w3 ((s1.trans s2).trans s3) R3 E3
          | rt v =>
            simp only [Option.some.injEq, Prod.mk.injEq] at hl
            obtain ⟨rfl, rfl, rfl⟩ := hl
            exact fun x w3 s3 R3 r3 => p x w3 ((s1.trans s2).trans s3) R3 r3
  | .forr it ia g b, ρ, ρ', μ, μ', o, h, w, σ, R, E, D, p => by
    simp only [evS] at h
    split at h
    · rename_i xs μ0 e0
      split at h
      · rename_i nx en
        refine soundL hc ia e0 R E _ fun xv w0 s0 R0 r0 => ?_
        refine it.ok _ _ _ _ _ en w0 xv R0 r0 _ fun J hJ => ?_
        refine ⟨fun i m σ1 H1 => ∃ (w1 : Wd) (ρ1 : Rho) (μ1 : Store), w1.H = H1 ∧ Step w0 w1 ∧ Rel cn.K cn.cls w1 μ1 ∧ Er cn.K w1 σ1 ρ1 ∧ forLoop nx (fun v ρ μ => match asgG g v ρ μ with | some ρ => evS c b ρ μ | none => none) m i ρ1 μ1 = some (o, ρ', μ'),
          ⟨c.n, w0, ρ, μ0, rfl, Step.refl w0, R0, E.mono s0, h⟩, ?_⟩
        rintro i m σ1 H1 ⟨w1, ρ1, μ1, rfl, s1, R1, E1, hl⟩
        cases m with
        | zero => cases hl
        | succ m =>
          simp only [forLoop] at hl
          obtain ⟨j1, j2⟩ := hJ w1 μ1 s1 R1 i
          split at hl
          · cases hl
          · rename_i e1
            simp only [Option.some.injEq, Prod.mk.injEq] at hl
            obtain ⟨rfl, rfl, rfl⟩ := hl
            exact .inl ⟨j1 e1, p σ1 w1 (s0.trans s1) R1 E1⟩
          · rename_i v e1
            obtain ⟨jg, jy⟩ := j2 v e1
            refine .inr ⟨jg, fun σ3 H3 => ∃ (w3 : Wd) (ρ3 : Rho) (μ3 : Store), w3.H = H3 ∧ Step w0 w3 ∧ Rel cn.K cn.cls w3 μ3 ∧ Er cn.K w3 σ3 ρ3 ∧ forLoop nx (fun v ρ μ => match asgG g v ρ μ with | some ρ => evS c b ρ μ | none => none) m (i + 1) ρ3 μ3 = some (o, ρ', μ'), fun σ' H' hN => ⟨m, Nat.lt_succ_self m, hN⟩, ?_⟩
            intro x H' hy
            obtain ⟨w2, rfl, s2, R2, rx⟩ := jy x H' hy
            cases eg : asgG g v ρ1 μ1 with
            | none => simp only [eg] at hl; cases hl
            | some ρ2 =>
              simp only [eg] at hl
              refine soundG R2 g eg (E1.mono s2) rx _ fun σ2 E2 _ => ?_
              cases hb : evS c b ρ2 μ1 with
              | none => rw [hb] at hl; cases hl
              | some r =>
                obtain ⟨ob, ρb, μb⟩ := r
                rw [hb] at hl
                refine soundS hc b hb R2 E2 _ ?_
                cases ob with
                | nx => exact fun σ3 w3 s3 R3 E3 => ⟨w3, _, _, rfl, (s1.trans s2).trans s3, R3, E3, hl⟩
                | ct => exact fun σ3 w3 s3 R3 E3 => ⟨w3, _, _, rfl, (s1.trans s2).trans s3, R3, E3, hl⟩
                | bk =>
                  simp only [Option.some.injEq, Prod.mk.injEq] at hl
                  obtain ⟨rfl, rfl, rfl⟩ := hl
                  exact fun σ3 w3 s3 R3 E3 => p σ3 w3 (s0.trans ((s1.trans s2).trans s3)) R3 E3
                | rt v =>
                  simp only [Option.some.injEq, Prod.mk.injEq] at hl
                  obtain ⟨rfl, rfl, rfl⟩ := hl
                  exact fun x w3 s3 R3 r3 => p x w3 (s0.trans ((s1.trans s2).trans s3)) R3 r3
      · cases h
    · cases h
  | .brk, ρ, ρ', μ, μ', o, h, w, σ, R, E, D, p => by
    simp only [evS, Option.some.injEq, Prod.mk.injEq] at h
    obtain ⟨rfl, rfl, rfl⟩ := h
    exact p σ w (Step.refl w) R E
  | .cnt, ρ, ρ', μ, μ', o, h, w, σ, R, E, D, p => by
    simp only [evS, Option.some.injEq, Prod.mk.injEq] at h
    obtain ⟨rfl, rfl, rfl⟩ := h
    exact p σ w (Step.refl w) R E
  | .gz i s, ρ, ρ', μ, μ', o, h, w, σ, R, E, D, p => by
    simp only [evS] at h
    split at h
    · rename_i v ev
      split at h
      · rename_i u μ1 e1
        obtain ⟨x, hx, rx⟩ := E.2 i v ev
        obtain ⟨w1, hw, s1, R1, r1⟩ := frzV_ok R rx e1
        have E1 : Er cn.K w1 σ (ρ.set i (some u)) := by
          have := (E.mono s1).set r1 i
          have e : σ.set i (some x) = σ := by
            refine List.ext_getElem? fun j => ?_
            by_cases ij : i = j
            · subst ij
              rw [List.getElem?_set_self (List.getElem?_eq_some_iff.mp hx).1, hx]
            · rw [List.getElem?_set_ne ij]
          rw [e] at this
          exact this
        have := soundS hc s h R1 E1 D (p.back s1)
        rw [hw] at this
        exact this
      · cases h
    · cases h
  | .never, ρ, ρ', μ, μ', o, h, w, σ, R, E, D, p => by
    simp only [evS] at h
    cases h
end
end EV

/-! EvF: a def keeps the evaluator's promise. -/
namespace EV
open PySem PySem.Spec PyProof.Rows L2

section
variable {K : PySem.W.Frag} {cls : Nat → Addr} {w w' : Wd} {μ μ' : Store}
theorem take_get {α : Type} {l : List α} {n k : Nat} {x : α} (h : (l.take n)[k]? = some x) : l[k]? = some x ∧ k < n := by
  rw [List.getElem?_take] at h
  split at h
  · exact ⟨h, by assumption⟩
  · cases h
theorem get_take {α : Type} {l : List α} {n k : Nat} {x : α} (h : l[k]? = some x) (hk : k < n) : (l.take n)[k]? = some x := by
  rw [List.getElem?_take, if_pos hk]; exact h
/-- boxes above n are forgotten, but one at p -/
theorem vr_take {m2 : List (Option Addr)} {n : Nat} (hm : ∀ (k : Nat) x, k < n → w.m[k]? = some x → m2[k]? = some x) {x : V} {v : Val} (h : Vr K w x v) (hv : valOk n v = true) : Vr K ⟨w.F, w.H, m2⟩ x v := by
  cases h with
  | dat z => exact .dat z
  | @box p k z =>
    have hk : k < n := by simpa [valOk] using hv
    refine .box ?_
    rcases z with z | z
    · exact .inl (hm k _ hk z)
    · exact .inr (hm k _ hk z)
theorem so_take {m2 : List (Option Addr)} {n : Nat} (hm : ∀ (k : Nat) x, k < n → w.m[k]? = some x → m2[k]? = some x) {p : Addr} {s : SO} (h : SOr K cls w p s) (hs : soOk n s = true) : SOr K cls ⟨w.F, w.H, m2⟩ p s := by
  cases s with
  | dead => exact h
  | lst vs =>
    obtain ⟨xs, h1, h2⟩ := h
    refine ⟨xs, h1, ?_⟩
    simp only [soOk] at hs
    clear h1
    induction h2 with
    | nil => exact .nil
    | cons a b ih =>
      rw [List.all_cons, Bool.and_eq_true] at hs
      exact .cons (vr_take hm a hs.1) (ih hs.2)
  | ins c fs =>
    obtain ⟨dx, gs, h1, h2⟩ := h
    refine ⟨dx, gs, h1, ?_⟩
    simp only [soOk] at hs
    clear h1
    induction h2 with
    | nil => exact .nil
    | cons a b ih =>
      rw [List.all_cons, Bool.and_eq_true] at hs
      exact .cons ⟨a.1, vr_take hm a.2 hs.1⟩ (ih hs.2)
theorem fin_ok {n : Nat} {v v' : Val} {x : V} {μ2 : Store} {w0 : Wd} {μ0 : Store} (R0 : Rel K cls w0 μ0) (hn : n = μ0.length) (s : Step w0 w) (R : Rel K cls w μ) (r : Vr K w x v) (h : fin n v μ = some (v', μ2)) :
    ∃ w', w'.H = w.H ∧ Step w0 w' ∧ Rel K cls w' μ2 ∧ Vr K w' x v' := by
  unfold fin at h
  split at h
  · rename_i hc
    rw [Bool.and_eq_true, decide_eq_true_iff] at hc
    obtain ⟨hso, hl⟩ := hc
    have hmn : w0.m.length = n := by rw [hn]; exact R0.len
    have so : ∀ (k : Nat) t, μ[k]? = some t → k < n → soOk n t = true := fun k t e hk => List.all_eq_true.mp hso t (List.mem_of_getElem? (get_take e hk))
    have plain : Rel K cls ⟨w.F, w.H, w.m.take n⟩ (μ.take n) ∧ Step w0 ⟨w.F, w.H, w.m.take n⟩ := by
      have hm : ∀ (k : Nat) x, k < n → w.m[k]? = some x → (w.m.take n)[k]? = some x := fun k x hk h => get_take h hk
      refine ⟨⟨by show (w.m.take n).length = (μ.take n).length; rw [List.length_take, List.length_take, R.len], R.sub, fun k p hk => ?_, fun k t ht hd => ?_, fun j k p h1 h2 => R.inj j k p (take_get h1).1 (take_get h2).1⟩, s.fr, s.keep, s.new, fun k x hx => ?_, fun p l => ?_, s.there⟩
      · obtain ⟨h1, h2⟩ := take_get hk
        obtain ⟨f, t, e, so1⟩ := R.box k p h1
        exact ⟨f, t, get_take e h2, so_take hm so1 (so k t e h2)⟩
      · obtain ⟨h1, h2⟩ := take_get ht
        obtain ⟨p, hp⟩ := R.liv k t h1 hd
        exact ⟨p, get_take hp h2⟩
      · have hk : k < n := by rw [← hmn]; exact (List.getElem?_eq_some_iff.mp hx).1
        rcases s.mm k x hx with h | h
        · exact .inl (get_take h hk)
        · exact .inr (get_take h hk)
      · obtain ⟨k, hk⟩ := l
        exact s.nb p ⟨k, (take_get hk).1⟩
    cases r with
    | @dat _ d z =>
      simp only [Option.some.injEq, Prod.mk.injEq] at h
      obtain ⟨rfl, rfl⟩ := h
      exact ⟨⟨w.F, w.H, w.m.take n⟩, rfl, plain.2, plain.1, .dat z⟩
    | @box p k z =>
      simp only at h
      split at h
      · rename_i hk
        simp only [Option.some.injEq, Prod.mk.injEq] at h
        obtain ⟨rfl, rfl⟩ := h
        refine ⟨⟨w.F, w.H, w.m.take n⟩, rfl, plain.2, plain.1, .box ?_⟩
        rcases z with z | z
        · exact .inl (get_take z hk)
        · exact .inr (get_take z hk)
      · rename_i hk
        split at h
        · rename_i vs e
          split at h
          · rename_i ds ed
            simp only [Option.some.injEq, Prod.mk.injEq] at h
            obtain ⟨rfl, rfl⟩ := h
            obtain ⟨hmk, xs, hx, rx⟩ := box_of R (.box z) e (fun z => nomatch z)
            have hm : ∀ (k : Nat) x, k < n → w.m[k]? = some x → (w.m.take n ++ [some p])[k]? = some x := fun k x hk h => get_snoc_lt (get_take h hk)
            have ltn : (w.m.take n).length = n := by rw [List.length_take, R.len]; omega
            refine ⟨⟨w.F, w.H, w.m.take n ++ [some p]⟩, rfl, ⟨s.fr, s.keep, s.new, fun j y hy => ?_, fun q l => ?_, s.there⟩, ⟨?_, R.sub, fun j q hj => ?_, fun j t ht hd => ?_, fun i j q h1 h2 => ?_⟩, .box (.inl ?_)⟩
            · have hj : j < n := by rw [← hmn]; exact (List.getElem?_eq_some_iff.mp hy).1
              rcases s.mm j y hy with h | h
              · exact .inl (hm j _ hj h)
              · exact .inr (hm j _ hj h)
            · obtain ⟨j, hj⟩ := l
              rcases get_snoc hj with hj | ⟨_, hj⟩
              · exact s.nb q ⟨j, (take_get hj).1⟩
              · cases hj; exact s.nb _ ⟨k, hmk⟩
            · show (w.m.take n ++ [some p]).length = (μ.take n ++ [SO.lst (ds.map .dat)]).length
              rw [List.length_append, List.length_append, List.length_take, List.length_take, R.len] <;> rfl
            · rcases get_snoc hj with hj | ⟨ej, hj⟩
              · obtain ⟨h1, h2⟩ := take_get hj
                obtain ⟨f, t, e, so1⟩ := R.box j q h1
                exact ⟨f, t, get_snoc_lt (get_take e h2), so_take hm so1 (so j t e h2)⟩
              · cases hj
                obtain ⟨f, _⟩ := R.box k p hmk
                have zz : DrA K w.F xs ds := dats_rel rx ed
                refine ⟨f, .lst (ds.map .dat), ?_, xs, hx, vra_dats zz⟩
                rw [ej]
                have : (w.m.take n).length = (μ.take n).length := by rw [List.length_take, List.length_take, R.len]
                rw [this]; exact get_snoc_eq
            · rcases get_snoc ht with ht | ⟨ej, ht⟩
              · obtain ⟨h1, h2⟩ := take_get ht
                obtain ⟨q, hq⟩ := R.liv j t h1 hd
                exact ⟨q, get_snoc_lt (get_take hq h2)⟩
              · refine ⟨p, ?_⟩
                rw [ej]
                show (w.m.take n ++ [some p])[(μ.take n).length]? = some (some p)
                have : (w.m.take n).length = (μ.take n).length := by rw [List.length_take, List.length_take, R.len]
                rw [← this]; exact get_snoc_eq
            · rcases get_snoc h1 with h1 | ⟨e1, z1⟩ <;> rcases get_snoc h2 with h2 | ⟨e2, z2⟩
              · exact R.inj i j q (take_get h1).1 (take_get h2).1
              · cases z2
                have := R.inj i k p (take_get h1).1 hmk
                have := (take_get h1).2
                omega
              · cases z1
                have := R.inj j k p (take_get h2).1 hmk
                have := (take_get h2).2
                omega
              · rw [e1, e2]
            · show (w.m.take n ++ [some p])[n]? = some (some p)
              have := get_snoc_eq (l := w.m.take n) (a := some p)
              rw [ltn] at this; exact this
          · cases h
        · cases h
  · cases h
end

/-- the promise of a def by its run -/
def spEv (K : PySem.W.Frag) (cls : Nat → Addr) (P : Pr) (n k f : Nat) : Sp := fun vs H Q _ => ∃ (w : Wd) (μ : Store) (args : List Val) (v : Val) (μ' : Store) (F : Fn),
  w.H = H ∧ Rel K cls w μ ∧ VrA K w vs args ∧ P.fns f = some F ∧ args.length = F.pars ∧ evCall P n k f args μ = some (v, μ') ∧ Ans1 K cls w v μ' Q
def FldOk (K : PySem.W.Frag) (cls : Nat → Addr) (fs : Nat → List Str) : Prop := ∀ k f, (fs k).contains f = true → Cls K (cls k) ∧ NoAttr K (cls k) f
theorem callOk {K : PySem.W.Frag} {cls : Nat → Addr} {P : Pr} {n k : Nat} (hf : FldOk K cls P.fs) : CallOk ⟨K, cls, spEv K cls P n k⟩ ⟨evCall P n k, n, P.fs⟩ where
  call := fun f args μ v μ' h w xs R r Q E q => by
    refine (?_ : ∃ F, P.fns f = some F ∧ args.length = F.pars).elim fun F hF => ⟨w, μ, args, v, μ', F, rfl, R, r, hF.1, hF.2, h, q⟩
    have h : evCall P n k f args μ = some (v, μ') := h
    cases k with
    | zero => cases h
    | succ k =>
      simp only [evCall] at h
      split at h
      · rename_i F e
        split at h
        · exact ⟨F, e, by assumption⟩
        · cases h
      · cases h
  fld := hf
section
variable {Pg : Program} {w : World} {K : PySem.W.Frag} {mg : Str → Option Value} {base : Heap}
theorem fnOk_zero {f : Addr} {fd : FuncData} {ps : List Str} {cls : Nat → Addr} {P : Pr} {n fi : Nat} {F : Fn} (hF : P.fns fi = some F) (hp : F.pars = ps.length) : FnOk Pg w K mg base CX0 0 f fd ps (spEv K cls P n 0 fi) where
  len := fun vs H Q E h => by
    obtain ⟨_, _, _, _, _, _, _, _, _, _, _, h, _⟩ := h
    cases h
  run := fun A outer s H args us vs Q E _ _ _ _ h => by
    obtain ⟨_, _, _, _, _, _, _, _, _, _, _, h, _⟩ := h
    cases h
theorem fnOk_step {x qual : Str} {st : Stmt} {f : Addr} {fd : FuncData} {N ps : List Str} {cls : Nat → Addr} {P : Pr} {n k fi : Nat} {body : RS} (F : Fun K x qual st f fd) (S : FnScope N ps (defScope st))
    (hF : P.fns fi = some ⟨body, N.length, ps.length⟩) (hf : FldOk K cls P.fs)
    (hb : ∀ (cdv : Value) (A : Around) (outer : List Env) (s : Shared) (H : Hp) (E : XK), Room (2 * k + 1) (A.deeper (envOfC qual (defScope st) s.heap.objs.size f cdv)) →
      PSs (cxOf CX0 Pg w K mg base N qual (defScope st) f cdv A outer s H E).nox (defBody st) (denS ⟨K, cls, spEv K cls P n k⟩ body)) :
    FnOk Pg w K mg base CX0 (2 * k + 1 + 1) f fd ps (spEv K cls P n (k + 1) fi) := by
  refine F.ok S (fun vs H Q E h => ?_) (fun cdv A outer s H vs Q E hr h => ?_)
  · obtain ⟨w', μ, args, v, μ', F', _, _, r, hF', hl, _, _⟩ := h
    rw [hF] at hF'
    cases hF'
    rw [r.length, hl]
  · obtain ⟨w', μ, args, v, μ', F', rfl, R, r, hF', hl, he, q⟩ := h
    refine ⟨_, hb cdv A outer s w'.H E hr, ?_⟩
    simp only [evCall, hF'] at he
    rw [hF] at hF'
    cases hF'
    rw [if_pos hl] at he
    unfold evFn at he
    have hE : Er K w' (L2.start N vs) (args.map some ++ List.replicate (N.length - args.length) none) := by
      unfold L2.start
      have hlen : vs.length = args.length := r.length
      refine ⟨by simp [hlen], fun i u e => ?_⟩
      rw [List.getElem?_append] at e
      split at e
      · rename_i hi
        rw [List.length_map] at hi
        rw [List.getElem?_map] at e
        cases e2 : args[i]? with
        | none => rw [e2] at e; cases e
        | some a =>
          rw [e2] at e
          cases e
          obtain ⟨y, hy, ry⟩ : ∃ y, vs[i]? = some y ∧ Vr K w' y u := by
            clear he hb q hl hF hlen hi
            induction r generalizing i with
            | nil => cases e2
            | cons r1 _ ih =>
              cases i with
              | zero => cases e2; exact ⟨_, rfl, r1⟩
              | succ i => exact ih i e2
          refine ⟨y, ?_, ry⟩
          rw [List.getElem?_append_left (by rw [List.length_map, hlen]; exact hi), List.getElem?_map, hy]
          rfl
      · rw [List.getElem?_replicate] at e
        split at e <;> cases e
    split at he
    · rename_i ρ2 μ2 e1
      refine soundS (cn := ⟨K, cls, spEv K cls P n k⟩) (c := ⟨evCall P n k, n, P.fs⟩) (callOk hf) body e1 R hE _ fun σ2 w2 s2 R2 E2 => ?_
      obtain ⟨w3, h3, s3, R3, r3⟩ := fin_ok (x := .non) R rfl s2 R2 (.dat .non) he
      have := q .non w3 s3 R3 r3
      rw [h3] at this
      exact this
    · rename_i u ρ2 μ2 e1
      refine soundS (cn := ⟨K, cls, spEv K cls P n k⟩) (c := ⟨evCall P n k, n, P.fs⟩) (callOk hf) body e1 R hE _ fun y w2 s2 R2 r2 => ?_
      obtain ⟨w3, h3, s3, R3, r3⟩ := fin_ok (x := y) R rfl s2 R2 r2 he
      have := q y w3 s3 R3 r3
      rw [h3] at this
      exact this
    · cases he
/-- the law's own promise, from a run for each script -/
def spLaw (K : PySem.W.Frag) : Sp := fun vs H Q _ => ∃ (a : Addr) (ns : List Int), vs = [.ref a] ∧ SqL K H a (ns.map V.int) ∧ ns.length ≤ 63 ∧ ∀ H', Q (.bl true) H'
theorem rel_zero {cls : Nat → Addr} (H : Hp) : Rel K cls ⟨H, H, []⟩ [] :=
  ⟨rfl, fun _ _ h => h, fun k p h => (by cases h), fun k s h => (by cases h), fun j k p h => (by cases h)⟩
theorem fnOk_law {f : Addr} {fd : FuncData} {cls : Nat → Addr} {P : Pr} {k j fi : Nat} {F : Fn} (h : ∀ n, FnOk Pg w K mg base CX0 j f fd ["script"] (spEv K cls P n k fi)) (hF : P.fns fi = some F) (hp : F.pars = 1)
    (hrun : ∀ ns : List Int, ns.length ≤ 63 → ∃ n μ', evCall P n k fi [.dat (.scr ns)] [] = some (.dat (.bl true), μ')) : FnOk Pg w K mg base CX0 j f fd ["script"] (spLaw K) where
  len := fun vs H Q E h => by
    obtain ⟨_, _, rfl, _⟩ := h
    rfl
  run := fun A outer s H args us vs Q E hr e0 hb hv hs => by
    obtain ⟨a, ns, rfl, hS, hl, k1⟩ := hs
    obtain ⟨n, μ', he⟩ := hrun ns hl
    refine (h n).run A outer s H args us _ Q E hr e0 hb hv ⟨⟨H, H, []⟩, [], [.dat (.scr ns)], .dat (.bl true), μ', F, rfl, rel_zero H, .cons (.dat (.scr hS)) .nil, hF, hp.symm, he, fun x w' _ _ r => ?_⟩
    cases r with
    | dat z => cases z; exact k1 _
end
end EV

/-! EvO: the operations. -/
namespace EV
open PySem PySem.Spec PyProof.Rows L2

/-! ### kit -/
section
variable {K : PySem.W.Frag} {cls : Nat → Addr} {w : Wd} {μ μ' : Store}
theorem vone {x : List V} {a : Val} (r : VrA K w x [a]) : ∃ u, x = [u] ∧ Vr K w u a := by
  cases r with | cons r t => cases t; exact ⟨_, rfl, r⟩
theorem vtwo {x : List V} {a b : Val} (r : VrA K w x [a, b]) : ∃ u v, x = [u, v] ∧ Vr K w u a ∧ Vr K w v b := by
  cases r with | cons r t => cases t with | cons s t => cases t; exact ⟨_, _, rfl, r, s⟩
theorem vnil {x : List V} (r : VrA K w x []) : x = [] := by cases r; rfl
theorem v_int {x : V} {i : Int} (r : Vr K w x (.dat (.int i))) : x = .int i := by cases r with | dat z => cases z; rfl
theorem v_str {x : V} {i : Str} (r : Vr K w x (.dat (.str i))) : x = .str i := by cases r with | dat z => cases z; rfl
theorem v_bl {x : V} {i : Bool} (r : Vr K w x (.dat (.bl i))) : x = .bl i := by cases r with | dat z => cases z; rfl
theorem v_non {x : V} (r : Vr K w x (.dat .non)) : x = .non := by cases r with | dat z => cases z; rfl
theorem new_list {bx : Bool} {vs : List Val} {v : Val} {xs : List V} {Q : VK} (R : Rel K cls w μ) (r : VrA K w xs vs) (h : mkL bx vs μ = some (v, μ')) (q : Ans1 K cls w v μ' Q) :
    ∀ p, w.H p = none → Q (.ref p) (upd w.H p (.lst xs)) := fun p hp => by
  obtain ⟨w', hw, s, R', rv⟩ := mkL_ok R r h hp
  have := q (.ref p) w' s R' rv
  rw [hw] at this; exact this
theorem new_tup {vs : List Val} {v : Val} {xs : List V} {Q : VK} (R : Rel K cls w μ) (r : VrA K w xs vs) (h : mkT vs μ = some (v, μ')) (q : Ans1 K cls w v μ' Q) :
    ∀ p, w.H p = none → Q (.ref p) (upd w.H p (.tup xs)) := fun p hp => by
  obtain ⟨w', hw, s, R', rv⟩ := mkT_ok R r h hp
  have := q (.ref p) w' s R' rv
  rw [hw] at this; exact this
theorem vra_append {xs ys : List V} {vs us : List Val} : VrA K w xs vs → VrA K w ys us → VrA K w (xs ++ ys) (vs ++ us)
  | .nil, s => s
  | .cons r t, s => .cons r (vra_append t s)
theorem vra_drop {xs : List V} {vs : List Val} : ∀ n : Nat, VrA K w xs vs → VrA K w (xs.drop n) (vs.drop n)
  | 0, r => r
  | _ + 1, .nil => .nil
  | n + 1, .cons _ t => vra_drop n t
theorem vra_take {xs : List V} {vs : List Val} : ∀ n : Nat, VrA K w xs vs → VrA K w (xs.take n) (vs.take n)
  | 0, _ => .nil
  | _ + 1, .nil => .nil
  | n + 1, .cons r t => .cons r (vra_take n t)
theorem vra_rep {xs : List V} {vs : List Val} (h : VrA K w xs vs) : ∀ k : Nat, VrA K w (List.replicate k xs).flatten (List.replicate k vs).flatten
  | 0 => .nil
  | k + 1 => by
    rw [List.replicate_succ, List.replicate_succ, List.flatten_cons, List.flatten_cons]
    exact vra_append h (vra_rep h k)
theorem vra_get {xs : List V} {vs : List Val} : ∀ {i : Nat} {v : Val}, VrA K w xs vs → vs[i]? = some v → ∃ x, xs[i]? = some x ∧ Vr K w x v
  | _, _, .nil, h => by cases h
  | 0, _, .cons r t, h => by cases h; exact ⟨_, rfl, r⟩
  | i + 1, _, .cons r t, h => vra_get (i := i) t h
theorem vra_dropLast {xs : List V} {vs : List Val} (h : VrA K w xs vs) : VrA K w xs.dropLast vs.dropLast := by
  rw [List.dropLast_eq_take, List.dropLast_eq_take, h.length]
  exact vra_take _ h
theorem vra_ints {xs : List V} : ∀ {vs : List Val}, VrA K w xs vs → ∀ ns : List Int, vs = ns.map (fun n => .dat (.int n)) → xs = ns.map V.int
  | _, .nil, [], _ => rfl
  | _, .nil, _ :: _, h => by cases h
  | _, .cons r t, n :: ns, h => by
    simp only [List.map_cons, List.cons.injEq] at h
    obtain ⟨rfl, h⟩ := h
    rw [v_int r, vra_ints t ns h]; rfl
  | _, .cons r t, [], h => by cases h

/-- a slice's items -/
def cutG {α : Type} (xs : List α) (lo hi : Option Int) : List α := (xs.drop (HT.sIx xs.length 0 lo)).take (HT.sIx xs.length xs.length hi - HT.sIx xs.length 0 lo)
theorem vra_cut {xs : List V} {vs : List Val} (lo hi : Option Int) (h : VrA K w xs vs) : VrA K w (cutV xs lo hi) (cutG vs lo hi) := by
  unfold cutV cutG
  rw [h.length]
  exact vra_take _ (vra_drop _ h)

/-- any list that is read: the script too -/
def rdL (v : Val) (μ : Store) : Option (List Val) := match v with
  | .dat (.scr ns) => some (ns.map fun n => .dat (.int n))
  | v => lstOf v μ
theorem vra_of_ints (w : Wd) : ∀ ns : List Int, VrA K w (ns.map V.int) (ns.map fun n => .dat (.int n))
  | [] => .nil
  | n :: ns => .cons (.dat (.int n)) (vra_of_ints w ns)
theorem rdL_of {x : V} {v : Val} {vs : List Val} (R : Rel K cls w μ) (r : Vr K w x v) (h : rdL v μ = some vs) : ∃ a xs, x = .ref a ∧ SqL K w.H a xs ∧ VrA K w xs vs := by
  unfold rdL at h
  split at h
  · rename_i ns
    simp only [Option.some.injEq] at h
    subst h
    cases r with
    | dat r => cases r with | scr hs => exact ⟨_, _, rfl, sql_mono R.sub hs, vra_of_ints w ns⟩
  · obtain ⟨a, xs, rfl, hx, rx⟩ := lst_of R r h
    exact ⟨a, xs, rfl, SqL.of hx, rx⟩
end

/-! ### data that == tells apart -/
mutual
def toP : D → PyData
  | .non => .none | .bl b => .bool b | .int i => .int i | .str s => .str s
  | .tup xs => .tuple (toPs xs) | .lst xs => .list (toPs xs) | .scr ns => .list (ns.map .int)
def toPs : List D → List PyData
  | [] => []
  | d :: ds => toP d :: toPs ds
end
mutual
theorem dr_dp {K : PySem.W.Frag} {w : Wd} (hs : ∀ p o, w.F p = some o → w.H p = some o) : ∀ {x : V} {d : D}, Dr K w.F x d → Dp K w.H x (toP d)
  | _, _, .non => .non
  | _, _, .bl b => .bl b
  | _, _, .int b => .int b
  | _, _, .str b => .str b
  | _, _, .tup h a => .tup (SqT.of (hs _ _ h)) (dra_dp hs a)
  | _, _, .lst h a => .lst (SqL.of (hs _ _ h)) (dra_dp hs a)
  | _, _, .scr (ns := ns) h => .lst (sql_mono hs h) (ints_dp ns)
theorem dra_dp {K : PySem.W.Frag} {w : Wd} (hs : ∀ p o, w.F p = some o → w.H p = some o) : ∀ {x : List V} {d : List D}, DrA K w.F x d → DpAll K w.H x (toPs d)
  | _, _, .nil => .nil
  | _, _, .cons r t => .cons (dr_dp hs r) (dra_dp hs t)
theorem ints_dp {K : PySem.W.Frag} {H : Hp} : ∀ ns : List Int, DpAll K H (ns.map V.int) (ns.map PyData.int)
  | [] => .nil
  | n :: ns => .cons (.int n) (ints_dp ns)
end
def valP (v : Val) (μ : Store) : Option PyData := match v with
  | .dat d => some (toP d)
  | .box k => match lstOf (.box k) μ with
    | some vs => (datsOf vs).map fun ds => .list (toPs ds)
    | none => none
theorem valP_ok {K : PySem.W.Frag} {cls : Nat → Addr} {w : Wd} {μ : Store} {x : V} {v : Val} {p : PyData} (R : Rel K cls w μ) (r : Vr K w x v) (h : valP v μ = some p) : Dp K w.H x p := by
  cases v with
  | dat d =>
    simp only [valP, Option.some.injEq] at h
    subst h
    cases r with | dat z => exact dr_dp R.sub z
  | box k =>
    simp only [valP] at h
    split at h
    · rename_i vs e
      cases e2 : datsOf vs with
      | none => rw [e2] at h; cases h
      | some ds =>
        rw [e2] at h
        simp only [Option.map_some, Option.some.injEq] at h
        subst h
        obtain ⟨a, xs, rfl, hx, rx⟩ := lst_of R r e
        exact .lst (SqL.of hx) (dra_dp R.sub (dats_rel rx e2))
    · cases h
def eqS (neg : Bool) (vs : List Val) (μ : Store) : Option (Val × Store) := match vs with
  | [a, b] => match valP a μ, valP b μ with
    | some p, some q => if SeqAt.shaped p && SeqAt.shaped q then some (.dat (.bl (if neg then !PyData.eqv p q else PyData.eqv p q)), μ) else none
    | _, _ => none
  | _ => none
def oEq (neg : Bool) : Op where
  sem := eqS neg
  rd := fun K vs H Q => match vs with | [x, y] => (if neg then rNeD K x y H Q else rEqD K x y H Q) | _ => False
  ok := by
    intro K cls args μ v μ' h w xs R r Q q
    unfold eqS at h
    split at h
    · rename_i a b
      split at h
      · rename_i p1 p2 e1 e2
        split at h
        · rename_i hs
          rw [Bool.and_eq_true] at hs
          simp only [Option.some.injEq, Prod.mk.injEq] at h
          obtain ⟨rfl, rfl⟩ := h
          obtain ⟨x, y, rfl, rx, ry⟩ := vtwo r
          cases neg with
          | true => exact ⟨p1, p2, valP_ok R rx e1, valP_ok R ry e2, hs.1, hs.2, q _ w (Step.refl w) R (.dat (.bl _))⟩
          | false => exact ⟨p1, p2, valP_ok R rx e1, valP_ok R ry e2, hs.1, hs.2, q _ w (Step.refl w) R (.dat (.bl _))⟩
        · cases h
      · cases h
    · cases h

/-! ### arithmetic -/
/-- two ints in, a scalar out -/
def oI2 (C : Int → Int → Bool) (g : Int → Int → Sc) : Op where
  sem := fun vs μ => match vs with
    | [.dat (.int i), .dat (.int j)] => if C i j then some (.dat (g i j).d, μ) else none
    | _ => none
  rd := fun K vs H Q => match vs with | [x, y] => (∃ i j, x = .int i ∧ y = .int j ∧ C i j = true ∧ Q (g i j).v H) | _ => False
  ok := by
    intro K cls args μ v μ' h w xs R r Q q
    split at h
    · rename_i i j
      split at h
      · rename_i hc
        simp only [Option.some.injEq, Prod.mk.injEq] at h
        obtain ⟨rfl, rfl⟩ := h
        obtain ⟨x, y, rfl, rx, ry⟩ := vtwo r
        exact ⟨i, j, v_int rx, v_int ry, hc, q _ w (Step.refl w) R (g i j).r⟩
      · cases h
    · cases h
def cYes : Int → Int → Bool := fun _ _ => true
def cMod : Int → Int → Bool := fun _ j => decide (0 < j)
def cDiv : Int → Int → Bool := fun _ j => decide (0 < j) && decide (j.natAbs.log2 < 9000)
def cMul : Int → Int → Bool := fun i j => (decide (-(2 ^ 64) < i) && decide (i < 2 ^ 64)) || (decide (-(2 ^ 64) < j) && decide (j < 2 ^ 64)) || decide (i.natAbs.log2 + j.natAbs.log2 < 1000000)
def cPow : Int → Int → Bool := fun i j => decide (0 ≤ j) && decide (j ≤ 1000) && decide (i.natAbs < 2 ^ 64)
abbrev oSub : Op := oI2 cYes fun i j => .int (i - j)
abbrev oMod : Op := oI2 cMod fun i j => .int (i % j)
abbrev oDiv : Op := oI2 cDiv fun i j => .int (i / j)
abbrev oPow : Op := oI2 cPow fun i j => .int (i ^ j.toNat)
abbrev oLt : Op := oI2 cYes fun i j => .bl (decide (i < j))
abbrev oLe : Op := oI2 cYes fun i j => .bl (decide (i ≤ j))
abbrev oGt : Op := oI2 cYes fun i j => .bl (decide (j < i))
abbrev oGe : Op := oI2 cYes fun i j => .bl (decide (j ≤ i))
section
variable {X : Cx}
theorem oSub_ok : OpR X (binaryOp .Sub) fun x y H Q => oSub.rd X.K [x, y] H Q := fun pins s σ H x y v u Q I rx ry h => by
  obtain ⟨i, j, rfl, rfl, _, q⟩ := h
  exact op_sub pins s σ H _ _ v u Q I rx ry ⟨i, j, rfl, rfl, q⟩
theorem oMod_ok : OpR X (binaryOp .Mod) fun x y H Q => oMod.rd X.K [x, y] H Q := fun pins s σ H x y v u Q I rx ry h => by
  obtain ⟨i, j, rfl, rfl, c, q⟩ := h
  exact op_mod pins s σ H _ _ v u Q I rx ry ⟨i, j, rfl, rfl, of_decide_eq_true c, q⟩
theorem oDiv_ok : OpR X (binaryOp .FloorDiv) fun x y H Q => oDiv.rd X.K [x, y] H Q := fun pins s σ H x y v u Q I rx ry h => by
  obtain ⟨i, j, rfl, rfl, c, q⟩ := h
  unfold cDiv at c
  rw [Bool.and_eq_true, decide_eq_true_iff, decide_eq_true_iff] at c
  exact op_fdivW pins s σ H _ _ v u Q I rx ry ⟨i, j, rfl, rfl, c, q⟩
theorem oPow_ok : OpR X (binaryOp .Pow) fun x y H Q => oPow.rd X.K [x, y] H Q := fun pins s σ H x y v u Q I rx ry h => by
  obtain ⟨i, j, rfl, rfl, c, q⟩ := h
  unfold cPow at c
  rw [Bool.and_eq_true, Bool.and_eq_true, decide_eq_true_iff, decide_eq_true_iff, decide_eq_true_iff] at c
  exact op_pow pins s σ H _ _ v u Q I rx ry ⟨i, j, rfl, rfl, ⟨c.1.1, by omega, c.2⟩, q⟩
theorem oLt_ok : OpR X (compareOp .Lt) fun x y H Q => oLt.rd X.K [x, y] H Q := fun pins s σ H x y v u Q I rx ry h => by
  obtain ⟨i, j, rfl, rfl, _, q⟩ := h
  exact op_lt pins s σ H _ _ v u Q I rx ry ⟨i, j, rfl, rfl, q⟩
theorem oLe_ok : OpR X (compareOp .LtE) fun x y H Q => oLe.rd X.K [x, y] H Q := fun pins s σ H x y v u Q I rx ry h => by
  obtain ⟨i, j, rfl, rfl, _, q⟩ := h
  exact op_le pins s σ H _ _ v u Q I rx ry ⟨i, j, rfl, rfl, q⟩
theorem oGt_ok : OpR X (compareOp .Gt) fun x y H Q => oGt.rd X.K [x, y] H Q := fun pins s σ H x y v u Q I rx ry h => by
  obtain ⟨i, j, rfl, rfl, _, q⟩ := h
  exact op_gt pins s σ H _ _ v u Q I rx ry ⟨i, j, rfl, rfl, q⟩
theorem oGe_ok : OpR X (compareOp .GtE) fun x y H Q => oGe.rd X.K [x, y] H Q := fun pins s σ H x y v u Q I rx ry h => by
  obtain ⟨i, j, rfl, rfl, _, q⟩ := h
  exact op_ge pins s σ H _ _ v u Q I rx ry ⟨i, j, rfl, rfl, q⟩
theorem oEq_ok (hu : X.A.units + 64 < cLine) : OpR X (compareOp .Eq) fun x y H Q => (oEq false).rd X.K [x, y] H Q := fun pins s σ H x y v u Q I rx ry h => op_eqD hu pins s σ H x y v u Q I rx ry h
theorem oNe_ok (hu : X.A.units + 64 < cLine) : OpR X (compareOp .NotEq) fun x y H Q => (oEq true).rd X.K [x, y] H Q := fun pins s σ H x y v u Q I rx ry h => op_neD hu pins s σ H x y v u Q I rx ry h
end

/-- a + b -/
def oAdd (bx : Bool) : Op where
  sem := fun vs μ => match vs with
    | [.dat (.int i), .dat (.int j)] => some (.dat (.int (i + j)), μ)
    | [.dat (.str a), .dat (.str b)] => if a.length + b.length ≤ sizeLine then some (.dat (.str (a ++ b)), μ) else none
    | [.dat (.tup a), .dat (.tup b)] => if a.length + b.length ≤ sizeLine then some (.dat (.tup (a ++ b)), μ) else none
    | [a, b] => match lstOf a μ, lstOf b μ with
      | some xs, some ys => if xs.length + ys.length ≤ sizeLine then mkL bx (xs ++ ys) μ else none
      | _, _ => none
    | _ => none
  rd := fun K vs H Q => match vs with
    | [x, y] => (∃ i j, x = .int i ∧ y = .int j ∧ Q (.int (i + j)) H) ∨ (∃ i j, x = .str i ∧ y = .str j ∧ i.length + j.length ≤ sizeLine ∧ Q (.str (i ++ j)) H) ∨ rCatA K x y H Q ∨ rCat x y H Q
    | _ => False
  ok := by
    intro K cls args μ v μ' h w xs R r Q q
    split at h
    · rename_i i j
      simp only [Option.some.injEq, Prod.mk.injEq] at h
      obtain ⟨rfl, rfl⟩ := h
      obtain ⟨x, y, rfl, rx, ry⟩ := vtwo r
      exact .inl ⟨i, j, v_int rx, v_int ry, q _ w (Step.refl w) R (.dat (.int _))⟩
    · rename_i a b
      split at h
      · rename_i hl
        simp only [Option.some.injEq, Prod.mk.injEq] at h
        obtain ⟨rfl, rfl⟩ := h
        obtain ⟨x, y, rfl, rx, ry⟩ := vtwo r
        exact .inr (.inl ⟨a, b, v_str rx, v_str ry, hl, q _ w (Step.refl w) R (.dat (.str _))⟩)
      · cases h
    · rename_i a b
      split at h
      · rename_i hl
        simp only [Option.some.injEq, Prod.mk.injEq] at h
        obtain ⟨rfl, rfl⟩ := h
        obtain ⟨x, y, rfl, rx, ry⟩ := vtwo r
        obtain ⟨p, ps, rfl, hp, rp⟩ := tup_of R rx rfl
        obtain ⟨t, ts, rfl, ht, rt⟩ := tup_of R ry rfl
        have l1 : ps.length = a.length := by rw [rp.length, List.length_map]
        have l2 : ts.length = b.length := by rw [rt.length, List.length_map]
        refine .inr (.inr (.inl ⟨p, t, ps, ts, rfl, rfl, SqT.of hp, SqT.of ht, by rw [l1, l2]; exact hl, fun e => ?_, fun _ e => ?_, fun _ _ => ?_⟩))
        · have : a = [] := List.eq_nil_of_length_eq_zero (by rw [← l1, e]; rfl)
          subst this
          exact q _ w (Step.refl w) R ry
        · have : b = [] := List.eq_nil_of_length_eq_zero (by rw [← l2, e]; rfl)
          subst this
          rw [List.append_nil] at q
          exact q _ w (Step.refl w) R rx
        · exact new_tup R (vra_append rp rt) (by unfold mkT; rw [← List.map_append, datsOf_map]; rfl) q
      · cases h
    · rename_i a b _ _ _
      split at h
      · rename_i xs ys e1 e2
        split at h
        · rename_i hl
          obtain ⟨x, y, rfl, rx, ry⟩ := vtwo r
          obtain ⟨p, ps, rfl, hp, rp⟩ := lst_of R rx e1
          obtain ⟨t, ts, rfl, ht, rt⟩ := lst_of R ry e2
          exact .inr (.inr (.inr ⟨p, t, ps, ts, rfl, rfl, hp, ht, by rw [rp.length, rt.length]; exact hl, new_list R (vra_append rp rt) h q⟩))
        · cases h
      · cases h
    · cases h
theorem oAdd_ok {X : Cx} {bx : Bool} : OpR X (binaryOp .Add) fun x y H Q => (oAdd bx).rd X.K [x, y] H Q := OpR.or op_add (OpR.or op_add_str (OpR.or op_catA op_cat))

/-- text * int -/
def repS (a : Str) (n : Int) : Str := ⟨(List.replicate n.toNat a.cps).foldl (· ++ ·) #[]⟩
theorem fold_size (c : Array Nat) : ∀ (k : Nat) (acc : Array Nat), ((List.replicate k c).foldl (· ++ ·) acc).size = acc.size + k * c.size
  | 0, acc => by simp
  | k + 1, acc => by
    rw [List.replicate_succ, List.foldl_cons, fold_size c k, Array.size_append, Nat.succ_mul]
    omega
theorem repS_length (a : Str) (n : Int) : (repS a n).length = n.toNat * a.length := by
  show ((List.replicate n.toNat a.cps).foldl (· ++ ·) #[]).size = n.toNat * a.cps.size
  rw [fold_size]
  simp
/-- a * b -/
def oMul (bx : Bool) : Op where
  sem := fun vs μ => match vs with
    | [.dat (.int i), .dat (.int j)] => if cMul i j then some (.dat (.int (i * j)), μ) else none
    | [.dat (.str a), .dat (.int n)] => if a.length = 1 ∧ 0 ≤ n ∧ n ≤ 1000 then some (.dat (.str (repS a n)), μ) else none
    | [a, .dat (.int k)] => match lstOf a μ with
      | some xs => if -(2 ^ 63) ≤ k ∧ k < 2 ^ 63 ∧ xs.length * k.toNat ≤ sizeLine then mkL bx (List.replicate k.toNat xs).flatten μ else none
      | none => none
    | _ => none
  rd := fun K vs H Q => match vs with
    | [x, y] => (∃ i j, x = .int i ∧ y = .int j ∧ cMul i j = true ∧ Q (.int (i * j)) H) ∨ (∃ a n, x = .str a ∧ y = .int n ∧ (a.length = 1 ∧ 0 ≤ n ∧ n ≤ 1000) ∧ Q (.str (repS a n)) H) ∨ rRep x y H Q
    | _ => False
  ok := by
    intro K cls args μ v μ' h w xs R r Q q
    split at h
    · rename_i i j
      split at h
      · rename_i hc
        simp only [Option.some.injEq, Prod.mk.injEq] at h
        obtain ⟨rfl, rfl⟩ := h
        obtain ⟨x, y, rfl, rx, ry⟩ := vtwo r
        exact .inl ⟨i, j, v_int rx, v_int ry, hc, q _ w (Step.refl w) R (.dat (.int _))⟩
      · cases h
    · rename_i a n
      split at h
      · rename_i hl
        simp only [Option.some.injEq, Prod.mk.injEq] at h
        obtain ⟨rfl, rfl⟩ := h
        obtain ⟨x, y, rfl, rx, ry⟩ := vtwo r
        exact .inr (.inl ⟨a, n, v_str rx, v_int ry, hl, q _ w (Step.refl w) R (.dat (.str _))⟩)
      · cases h
    · rename_i a k _ _
      split at h
      · rename_i ys e
        split at h
        · rename_i hl
          obtain ⟨x, y, rfl, rx, ry⟩ := vtwo r
          obtain ⟨p, ps, rfl, hp, rp⟩ := lst_of R rx e
          exact .inr (.inr ⟨p, k, ps, rfl, v_int ry, hp, hl.1, hl.2.1, by rw [rp.length]; exact hl.2.2, new_list R (vra_rep rp _) h q⟩)
        · cases h
      · cases h
    · cases h
theorem op_mulS {X : Cx} : OpR X (binaryOp .Mult) fun x y H Q => ∃ a n, x = .str a ∧ y = .int n ∧ (a.length = 1 ∧ 0 ≤ n ∧ n ≤ 1000) ∧ Q (.str (repS a n)) H := fun pins s σ H x y v u Q I rx ry h => by
  obtain ⟨a, n, rfl, rfl, ⟨hl, h0, h1⟩, q⟩ := h
  obtain ⟨t, rfl⟩ := rx
  obtain ⟨k, rfl⟩ := ry
  refine PySem.P.mul_str (by rw [decide_eq_false (by omega), decide_eq_false (by omega)]; rfl) (fun hn _ => ?_) (fun hn _ => ?_) ?_
  · rw [hl]
    have : (1 : Int) ≤ (2 ^ 63 - 1) / n := (Int.le_ediv_iff_mul_le (by omega)).mpr (by omega)
    omega
  · rw [hl]
    unfold Builtin.Str.tooLong
    exact decide_eq_false (by have : n.toNat ≤ 1000 := by omega
                              have : (1000 : Nat) < sizeLine := by decide
                              omega)
  · have fin : ∀ t', EP X pins σ Q (.str (repS a n) t') { s with toks := s.toks + 1 } := fun t' => ⟨.str (repS a n), H, I.tok _, ⟨t', rfl⟩, q⟩
    by_cases h0' : n < 1
    · rw [if_pos h0']
      have e : n = 0 := by omega
      subst e
      exact ⟨by decide, fin _⟩
    · rw [if_neg h0']
      by_cases h1' : (n == 1 || a.length == 0) = true
      · rw [if_pos h1']
        have e : n = 1 := by
          rw [hl] at h1'
          simpa using h1'
        subst e
        have e2 : repS a 1 = a := by
          unfold repS
          show (⟨#[] ++ a.cps⟩ : Str) = a
          rw [Array.empty_append]
        rw [e2] at q
        exact ⟨.str a, H, I, ⟨t, rfl⟩, q⟩
      · rw [if_neg h1']
        refine ⟨?_, fin _⟩
        have e := repS_length a n
        show (repS a n).length ≤ sizeLine
        rw [e, hl]
        have : (1000 : Nat) < sizeLine := by decide
        omega
theorem oMul_ok {X : Cx} {bx : Bool} : OpR X (binaryOp .Mult) fun x y H Q => (oMul bx).rd X.K [x, y] H Q := by
  refine OpR.or ?_ (OpR.or op_mulS op_rep)
  intro pins s σ H x y v u Q I rx ry h
  obtain ⟨i, j, rfl, rfl, c, q⟩ := h
  unfold cMul at c
  simp only [Bool.or_eq_true, Bool.and_eq_true, decide_eq_true_iff] at c
  rcases c with (c | c) | c
  · exact op_mul pins s σ H _ _ v u Q I rx ry ⟨i, j, rfl, rfl, .inl c, q⟩
  · exact op_mul pins s σ H _ _ v u Q I rx ry ⟨i, j, rfl, rfl, .inr c, q⟩
  · exact op_mulW pins s σ H _ _ v u Q I rx ry ⟨i, j, rfl, rfl, c, q⟩

/-! ### is, in -/
def isNonV : Val → Bool
  | .dat .non => true
  | _ => false
def isS (neg : Bool) (vs : List Val) (μ : Store) : Option (Val × Store) := match vs with
  | [a, .dat .non] => some (.dat (.bl (if neg then !isNonV a else isNonV a)), μ)
  | [.dat .non, .dat (.bl b)] => some (.dat (.bl neg), μ)
  | [.dat (.bl a), .dat (.bl b)] => some (.dat (.bl (if neg then !decide (a = b) else decide (a = b))), μ)
  | [.dat (.int _), .dat (.bl b)] => some (.dat (.bl neg), μ)
  | [.dat (.str _), .dat (.bl b)] => some (.dat (.bl neg), μ)
  | _ => none
/-- is of scalars -/
def rIsX (neg : Bool) : R2 := fun x y H Q => (y = .non ∧ Q (.bl (if neg then !decide (x = .non) else decide (x = .non))) H) ∨ (∃ a b : Bool, x = .bl a ∧ y = .bl b ∧ Q (.bl (if neg then !decide (a = b) else decide (a = b))) H) ∨
  (∃ b : Bool, (x = .non ∨ (∃ i, x = .int i) ∨ ∃ s, x = .str s) ∧ y = .bl b ∧ Q (.bl neg) H)
def oIs (neg : Bool) : Op where
  sem := isS neg
  rd := fun K vs H Q => match vs with | [x, y] => rIsX neg x y H Q | _ => False
  ok := by
    intro K cls args μ v μ' h w xs R r Q q
    unfold isS at h
    split at h
    · rename_i a
      simp only [Option.some.injEq, Prod.mk.injEq] at h
      obtain ⟨rfl, rfl⟩ := h
      obtain ⟨x, y, rfl, rx, ry⟩ := vtwo r
      refine .inl ⟨v_non ry, ?_⟩
      have e : decide (x = V.non) = isNonV a := by
        cases rx with
        | dat z => cases z <;> rfl
        | box z => rfl
      rw [e]
      exact q _ w (Step.refl w) R (.dat (.bl _))
    · rename_i b
      simp only [Option.some.injEq, Prod.mk.injEq] at h
      obtain ⟨rfl, rfl⟩ := h
      obtain ⟨x, y, rfl, rx, ry⟩ := vtwo r
      exact .inr (.inr ⟨b, .inl (v_non rx), v_bl ry, q _ w (Step.refl w) R (.dat (.bl _))⟩)
    · rename_i a b
      simp only [Option.some.injEq, Prod.mk.injEq] at h
      obtain ⟨rfl, rfl⟩ := h
      obtain ⟨x, y, rfl, rx, ry⟩ := vtwo r
      exact .inr (.inl ⟨a, b, v_bl rx, v_bl ry, q _ w (Step.refl w) R (.dat (.bl _))⟩)
    · rename_i i b
      simp only [Option.some.injEq, Prod.mk.injEq] at h
      obtain ⟨rfl, rfl⟩ := h
      obtain ⟨x, y, rfl, rx, ry⟩ := vtwo r
      exact .inr (.inr ⟨b, .inr (.inl ⟨i, v_int rx⟩), v_bl ry, q _ w (Step.refl w) R (.dat (.bl _))⟩)
    · rename_i i b
      simp only [Option.some.injEq, Prod.mk.injEq] at h
      obtain ⟨rfl, rfl⟩ := h
      obtain ⟨x, y, rfl, rx, ry⟩ := vtwo r
      exact .inr (.inr ⟨b, .inr (.inr ⟨i, v_str rx⟩), v_bl ry, q _ w (Step.refl w) R (.dat (.bl _))⟩)
    · cases h
section
variable {X : Cx}
theorem oIs_ok : OpR X (compareOp .Is) fun x y H Q => (oIs false).rd X.K [x, y] H Q := by
  refine OpR.or op_isN (OpR.or op_isBl ?_)
  intro pins s σ H x y v u Q I rx ry h
  obtain ⟨b, hx, rfl, q⟩ := h
  cases (show u = Value.bool b from ry)
  rcases hx with rfl | ⟨i, rfl⟩ | ⟨i, rfl⟩
  · cases (show v = Value.none from rx)
    exact wpAny_is_other rfl (fun z => nomatch z) ⟨.bl false, H, I, rfl, q⟩
  · obtain ⟨t, rfl⟩ := rx
    exact wpAny_is_other rfl (fun z => nomatch z) ⟨.bl false, H, I, rfl, q⟩
  · obtain ⟨t, rfl⟩ := rx
    exact wpAny_is_other rfl (fun z => nomatch z) ⟨.bl false, H, I, rfl, q⟩
theorem oIsNot_ok : OpR X (compareOp .IsNot) fun x y H Q => (oIs true).rd X.K [x, y] H Q := by
  refine OpR.or op_notN (OpR.or op_notBl ?_)
  intro pins s σ H x y v u Q I rx ry h
  obtain ⟨b, hx, rfl, q⟩ := h
  cases (show u = Value.bool b from ry)
  rcases hx with rfl | ⟨i, rfl⟩ | ⟨i, rfl⟩
  · cases (show v = Value.none from rx)
    exact wpAny_isNot_other rfl (fun z => nomatch z) ⟨.bl true, H, I, rfl, q⟩
  · obtain ⟨t, rfl⟩ := rx
    exact wpAny_isNot_other rfl (fun z => nomatch z) ⟨.bl true, H, I, rfl, q⟩
  · obtain ⟨t, rfl⟩ := rx
    exact wpAny_isNot_other rfl (fun z => nomatch z) ⟨.bl true, H, I, rfl, q⟩
end
/-- flat data as a value -/
def flV : Val → Option V
  | .dat .non => some .non
  | .dat (.bl b) => some (.bl b)
  | .dat (.int i) => some (.int i)
  | .dat (.str s) => some (.str s)
  | _ => none
def flVs : List Val → Option (List V)
  | [] => some []
  | v :: vs => match flV v, flVs vs with
    | some x, some xs => some (x :: xs)
    | _, _ => none
theorem flV_ok {K : PySem.W.Frag} {w : Wd} {x y : V} {v : Val} (r : Vr K w x v) (h : flV v = some y) : x = y ∧ flatV x = true := by
  cases r with
  | dat z => cases z <;> (first | (cases h; exact ⟨rfl, rfl⟩) | cases h)
  | box z => cases h
theorem flVs_ok {K : PySem.W.Frag} {w : Wd} : ∀ {xs ys : List V} {vs : List Val}, VrA K w xs vs → flVs vs = some ys → xs = ys ∧ xs.all flatV = true
  | _, ys, _, .nil, h => by
    simp only [flVs, Option.some.injEq] at h
    subst h
    exact ⟨rfl, rfl⟩
  | _, ys, _, .cons (b := v) (l₂ := vs) r t, h => by
    simp only [flVs] at h
    split at h
    · rename_i x xs e1 e2
      simp only [Option.some.injEq] at h
      subst h
      obtain ⟨rfl, f1⟩ := flV_ok r e1
      obtain ⟨rfl, f2⟩ := flVs_ok t e2
      exact ⟨rfl, by rw [List.all_cons, f1, f2]; rfl⟩
    · cases h
def seqOf (v : Val) (μ : Store) : Option (List Val) := match tupOf v with
  | some vs => some vs
  | none => rdL v μ
theorem seq_of {K : PySem.W.Frag} {cls : Nat → Addr} {w : Wd} {μ : Store} {x : V} {v : Val} {vs : List Val} (R : Rel K cls w μ) (r : Vr K w x v) (h : seqOf v μ = some vs) : ∃ a xs, x = .ref a ∧ (SqL K w.H a xs ∨ SqT K w.H a xs) ∧ VrA K w xs vs := by
  unfold seqOf at h
  split at h
  · rename_i us e
    cases h
    obtain ⟨a, xs, rfl, hx, rx⟩ := tup_of R r e
    exact ⟨a, xs, rfl, .inr (SqT.of hx), rx⟩
  · obtain ⟨a, xs, rfl, hx, rx⟩ := rdL_of R r h
    exact ⟨a, xs, rfl, .inl hx, rx⟩
def inS (neg : Bool) (vs : List Val) (μ : Store) : Option (Val × Store) := match vs with
  | [.dat (.str a), .dat (.str b)] => match a.cps.toList with
    | [c] => some (.dat (.bl (if neg then !decide (c ∈ b.cps.toList) else decide (c ∈ b.cps.toList))), μ)
    | _ => none
  | [a, b] => match flV a, seqOf b μ with
    | some x, some us => match flVs us with
      | some xs => some (.dat (.bl (if neg then !inV x xs else inV x xs)), μ)
      | none => none
    | _, _ => none
  | _ => none
def oIn (neg : Bool) : Op where
  sem := inS neg
  rd := fun K vs H Q => match vs with
    | [x, y] => (∃ (c : Nat) (z : Str), x = .str ⟨#[c]⟩ ∧ y = .str z ∧ Q (.bl (if neg then !decide (c ∈ z.cps.toList) else decide (c ∈ z.cps.toList))) H) ∨ rIn K neg x y H Q
    | _ => False
  ok := by
    intro K cls args μ v μ' h w xs R r Q q
    unfold inS at h
    split at h
    · rename_i a b
      split at h
      · rename_i c e
        simp only [Option.some.injEq, Prod.mk.injEq] at h
        obtain ⟨rfl, rfl⟩ := h
        obtain ⟨x, y, rfl, rx, ry⟩ := vtwo r
        have ea : a = ⟨#[c]⟩ := by
          cases a with | mk p =>
          have : p = #[c] := by rw [← e]
          rw [this]
        subst ea
        exact .inl ⟨c, b, v_str rx, v_str ry, q _ w (Step.refl w) R (.dat (.bl _))⟩
      · cases h
    · rename_i a b _
      split at h
      · rename_i x us e1 e2
        split at h
        · rename_i ys e3
          simp only [Option.some.injEq, Prod.mk.injEq] at h
          obtain ⟨rfl, rfl⟩ := h
          obtain ⟨x', y, rfl, rx, ry⟩ := vtwo r
          obtain ⟨rfl, f1⟩ := flV_ok rx e1
          obtain ⟨p, zs, rfl, hp, rp⟩ := seq_of R ry e2
          obtain ⟨rfl, f2⟩ := flVs_ok rp e3
          exact .inr ⟨p, zs, rfl, hp, f1, f2, q _ w (Step.refl w) R (.dat (.bl _))⟩
        · cases h
      · cases h
    · cases h
section
variable {X : Cx}
theorem oIn_ok : OpR X (compareOp .In) fun x y H Q => (oIn false).rd X.K [x, y] H Q := OpR.or op_in_sign op_in_seq
theorem oNotIn_ok : OpR X (compareOp .NotIn) fun x y H Q => (oIn true).rd X.K [x, y] H Q := OpR.or op_notIn_sign op_notIn_seq
end
/-! ### -a -/
def oNeg : Op where
  sem := fun vs μ => match vs with
    | [.dat (.int i)] => some (.dat (.int (-i)), μ)
    | _ => none
  rd := fun K vs H Q => match vs with | [x] => rU (fun i => .int (-i)) x H Q | _ => False
  ok := by
    intro K cls args μ v μ' h w xs R r Q q
    split at h
    · rename_i i
      simp only [Option.some.injEq, Prod.mk.injEq] at h
      obtain ⟨rfl, rfl⟩ := h
      obtain ⟨x, rfl, rx⟩ := vone r
      exact ⟨i, v_int rx, q _ w (Step.refl w) R (.dat (.int _))⟩
    · cases h
/-! ### subscripts -/
def ixS (vs : List Val) (μ : Store) : Option (Val × Store) := match vs with
  | [.dat (.str z), .dat (.int i)] => if z.length ≤ sizeLine then match atI z.cps.toList i with
      | some c => some (.dat (.str ⟨#[c]⟩), μ)
      | none => none
    else none
  | [a, .dat (.int i)] => match seqOf a μ with
    | some us => match atI us i with
      | some v => some (v, μ)
      | none => none
    | none => none
  | _ => none
theorem vra_at {K : PySem.W.Frag} {w : Wd} {xs : List V} {vs : List Val} {i : Int} {v : Val} (r : VrA K w xs vs) (h : atI vs i = some v) : ∃ x, atI xs i = some x ∧ Vr K w x v := by
  unfold atI at h ⊢
  rw [r.length]
  cases e : ixN vs.length i with
  | none => rw [e] at h; cases h
  | some j =>
    rw [e] at h
    exact vra_get (i := j) r h
def oIx : Op where
  sem := ixS
  rd := fun K vs H Q => match vs with | [x, y] => rIx K x y H Q | _ => False
  ok := by
    intro K cls args μ v μ' h w xs R r Q q
    unfold ixS at h
    split at h
    · rename_i z i
      split at h
      · rename_i hl
        split at h
        · rename_i c e
          simp only [Option.some.injEq, Prod.mk.injEq] at h
          obtain ⟨rfl, rfl⟩ := h
          obtain ⟨x, y, rfl, rx, ry⟩ := vtwo r
          exact .inr (.inr ⟨z, i, c, v_str rx, v_int ry, hl, e, q _ w (Step.refl w) R (.dat (.str _))⟩)
        · cases h
      · cases h
    · rename_i a i _
      split at h
      · rename_i us e1
        split at h
        · rename_i u e2
          simp only [Option.some.injEq, Prod.mk.injEq] at h
          obtain ⟨rfl, rfl⟩ := h
          obtain ⟨x, y, rfl, rx, ry⟩ := vtwo r
          obtain ⟨p, ps, rfl, hp, rp⟩ := seq_of R rx e1
          obtain ⟨t, ht, rt⟩ := vra_at rp e2
          rcases hp with hp | hp
          · exact .inl ⟨p, ps, i, t, rfl, v_int ry, hp, ht, q _ w (Step.refl w) R rt⟩
          · exact .inr (.inl ⟨p, ps, i, t, rfl, v_int ry, hp, ht, q _ w (Step.refl w) R rt⟩)
        · cases h
      · cases h
    · cases h
/-! ### slices -/
def slS (bx : Bool) (a : Val) (lo hi : Option Int) (μ : Store) : Option (Val × Store) := match a with
  | .dat (.str z) => if z.length ≤ sizeLine then some (.dat (.str (cutS z lo hi)), μ) else none
  | .dat (.tup ds) => some (.dat (.tup (cutG ds lo hi)), μ)
  | a => match lstOf a μ with
    | some us => mkL bx (cutG us lo hi) μ
    | none => none
theorem cutG_map {α β : Type} (f : α → β) (xs : List α) (lo hi : Option Int) : cutG (xs.map f) lo hi = (cutG xs lo hi).map f := by
  unfold cutG
  rw [List.length_map, List.map_take, List.map_drop]
theorem cutG_whole {α : Type} {xs : List α} {lo hi : Option Int} (h : HT.sIx xs.length 0 lo = 0 ∧ HT.sIx xs.length xs.length hi = xs.length) : cutG xs lo hi = xs := by
  unfold cutG
  rw [h.1, h.2]
  simp
def sSl (bx : Bool) : Sl where
  sem := slS bx
  rd := fun K x lo hi H Q => rSlS x lo hi H Q ∨ rSlA K x lo hi H Q ∨ rSlL K x lo hi H Q
  ok := by
    intro K cls a lo hi μ v μ' h w x R r Q q
    unfold slS at h
    split at h
    · rename_i z
      split at h
      · rename_i hl
        simp only [Option.some.injEq, Prod.mk.injEq] at h
        obtain ⟨rfl, rfl⟩ := h
        exact .inl ⟨z, v_str r, hl, q _ w (Step.refl w) R (.dat (.str _))⟩
      · cases h
    · rename_i ds
      simp only [Option.some.injEq, Prod.mk.injEq] at h
      obtain ⟨rfl, rfl⟩ := h
      obtain ⟨p, ps, rfl, hp, rp⟩ := tup_of R r rfl
      have hl : ps.length = ds.length := by rw [rp.length, List.length_map]
      refine .inr (.inl ⟨p, ps, rfl, SqT.of hp, fun hw => ?_, fun _ => ?_⟩)
      · rw [hl] at hw
        rw [cutG_whole hw] at q
        exact q _ w (Step.refl w) R r
      · refine new_tup R (vra_cut lo hi rp) (vs := cutG (ds.map Val.dat) lo hi) ?_ q
        unfold mkT
        rw [cutG_map, datsOf_map]
        rfl
    · rename_i a _ _
      split at h
      · rename_i us e
        obtain ⟨p, ps, rfl, hp, rp⟩ := lst_of R r e
        exact .inr (.inr ⟨p, ps, rfl, SqL.of hp, new_list R (vra_cut lo hi rp) h q⟩)
      · cases h
theorem sSl_ok {X : Cx} {bx : Bool} : SlR X ((sSl bx).rd X.K) := SlR.or sl_str (SlR.or sl_tupA sl_list)
/-! ### truth -/
def truS (v : Val) (μ : Store) : Option Bool := match v with
  | .dat .non => some false
  | .dat (.bl b) => some b
  | .dat (.int i) => some (i != 0)
  | .dat (.str y) => if y.length ≤ sizeLine then some ((y.length : Int) != 0) else none
  | v => (seqOf v μ).map fun us => !us.isEmpty
theorem empty_of {K : PySem.W.Frag} {w : Wd} {xs : List V} {vs : List Val} (r : VrA K w xs vs) : xs.isEmpty = vs.isEmpty := by cases r <;> rfl
def tTr : Tr where
  sem := truS
  rd := fun K x H Q => ∃ k, TruV K x H k ∧ Q k H
  ok := by
    intro K cls v μ b h w x R r Q q
    unfold truS at h
    split at h
    · cases h; rw [v_non r]; exact ⟨_, rfl, q⟩
    · cases h; rw [v_bl r]; exact ⟨_, rfl, q⟩
    · cases h; rw [v_int r]; exact ⟨_, rfl, q⟩
    · split at h
      · rename_i hl
        cases h; rw [v_str r]; exact ⟨_, ⟨hl, rfl⟩, q⟩
      · cases h
    · cases e : seqOf v μ with
      | none => rw [e] at h; cases h
      | some us =>
        rw [e] at h
        simp only [Option.map_some, Option.some.injEq] at h
        subst h
        obtain ⟨p, ps, rfl, hp, rp⟩ := seq_of R r e
        refine ⟨_, ?_, q⟩
        rcases hp with hp | hp
        · exact .inl ⟨ps, hp, by rw [empty_of rp]⟩
        · exact .inr (.inl ⟨ps, hp, by rw [empty_of rp]⟩)
end EV

/-! EvP: built-in calls, methods, what is walked. -/
namespace EV
open PySem PySem.Spec PyProof.Rows L2

/-! ### built-in calls -/
def lenS (vs : List Val) (μ : Store) : Option (Val × Store) := match vs with
  | [.dat (.str y)] => if y.length ≤ sizeLine then some (.dat (.int y.length), μ) else none
  | [v] => match seqOf v μ with
    | some us => some (.dat (.int us.length), μ)
    | none => none
  | _ => none
def oLen : Op where
  sem := lenS
  rd := fun K xs H Q => ∃ x n, xs = [x] ∧ LenV K x H n ∧ Q (.int n) H
  ok := by
    intro K cls args μ v μ' h w xs R r Q q
    unfold lenS at h
    split at h
    · rename_i y
      split at h
      · rename_i hl
        simp only [Option.some.injEq, Prod.mk.injEq] at h
        obtain ⟨rfl, rfl⟩ := h
        obtain ⟨x, rfl, rx⟩ := vone r
        rw [v_str rx]
        exact ⟨_, _, rfl, ⟨hl, rfl⟩, q _ w (Step.refl w) R (.dat (.int _))⟩
      · cases h
    · rename_i u _
      split at h
      · rename_i us e
        simp only [Option.some.injEq, Prod.mk.injEq] at h
        obtain ⟨rfl, rfl⟩ := h
        obtain ⟨x, rfl, rx⟩ := vone r
        obtain ⟨p, ps, rfl, hp, rp⟩ := seq_of R rx e
        rw [← rp.length] at q
        refine ⟨_, ps.length, rfl, ?_, q _ w (Step.refl w) R (.dat (.int _))⟩
        rcases hp with hp | hp
        · exact .inl ⟨ps, hp, rfl⟩
        · exact .inr ⟨ps, hp, rfl⟩
      · cases h
    · cases h
/-- the built-in type of a value -/
def tyOf (v : Val) (μ : Store) : Option String := match v with
  | .dat .non => some "NoneType"
  | .dat (.bl _) => some "bool"
  | .dat (.int _) => some "int"
  | .dat (.str _) => some "str"
  | .dat (.tup _) => some "tuple"
  | .dat (.lst _) => some "list"
  | .dat (.scr _) => none
  | .box k => match μ[k]? with
    | some (.lst _) => some "list"
    | _ => none
theorem tyOf_ok {K : PySem.W.Frag} {cls : Nat → Addr} {w : Wd} {μ : Store} {x : V} {v : Val} {t : String} (R : Rel K cls w μ) (r : Vr K w x v) (h : tyOf v μ = some t) : TyX K w.H x (.type t) := by
  refine .base ?_
  cases v with
  | dat d =>
    cases r with | dat z =>
    cases z with
    | non => cases h; exact .non
    | bl b => cases h; exact .bl b
    | int b => cases h; exact .int b
    | str b => cases h; exact .str b
    | tup e _ => cases h; exact .tup (R.sub _ _ e)
    | lst e _ => cases h; exact .lst (R.sub _ _ e)
    | scr _ => cases h
  | box k =>
    simp only [tyOf] at h
    split at h
    · rename_i vs e
      cases h
      obtain ⟨p, rfl⟩ : ∃ p, x = .ref p := by cases r; exact ⟨_, rfl⟩
      obtain ⟨_, xs, hx, _⟩ := box_of R r e (fun z => nomatch z)
      exact .lst hx
    · cases h
def isiB (t T : String) : Option Bool := if (["NoneType", "bool", "int", "str", "tuple", "list"].contains t && ["bool", "int", "str", "tuple", "list", "dict"].contains T) = true then some (t == T || (t == "bool" && T == "int")) else none
theorem isiB_tab : (["NoneType", "bool", "int", "str", "tuple", "list"].all fun t => ["bool", "int", "str", "tuple", "list", "dict"].all fun T => decide (kitB t T = some (t == T || (t == "bool" && T == "int")))) = true := by decide +kernel
theorem isiB_ok {t T : String} {b : Bool} (h : isiB t T = some b) : kitB t T = some b := by
  unfold isiB at h
  split at h
  · rename_i hc
    rw [Bool.and_eq_true] at hc
    have h1 := List.all_eq_true.mp isiB_tab t (List.contains_iff_mem.mp hc.1)
    have h2 := List.all_eq_true.mp h1 T (List.contains_iff_mem.mp hc.2)
    rw [of_decide_eq_true h2, ← h]
  · cases h
def oIsi (T : String) : Op where
  sem := fun vs μ => match vs with
    | [v] => match tyOf v μ with
      | some t => match isiB t T with
        | some b => some (.dat (.bl b), μ)
        | none => none
      | none => none
    | _ => none
  rd := fun K vs H Q => match vs with | [x] => rIsi K [x, .ty T] H Q | _ => False
  ok := by
    intro K cls args μ v μ' h w xs R r Q q
    split at h
    · rename_i u
      split at h
      · rename_i t e
        split at h
        · rename_i b e2
          simp only [Option.some.injEq, Prod.mk.injEq] at h
          obtain ⟨rfl, rfl⟩ := h
          obtain ⟨x, rfl, rx⟩ := vone r
          exact ⟨x, .ty T, _, _, b, rfl, .ty T, tyOf_ok R rx e, kit_ty (isiB_ok e2), q _ w (Step.refl w) R (.dat (.bl _))⟩
        · cases h
      · cases h
    · cases h
def oStr : Op where
  sem := fun vs μ => match vs with
    | [.dat (.int i)] => if i.natAbs.log2 < 1920 then some (.dat (.str (toString i)), μ) else none
    | _ => none
  rd := fun K xs H Q => ∃ i, xs = [.int i] ∧ i.natAbs.log2 < 1920 ∧ Q (.str (toString i)) H
  ok := by
    intro K cls args μ v μ' h w xs R r Q q
    split at h
    · rename_i i
      split at h
      · rename_i hl
        simp only [Option.some.injEq, Prod.mk.injEq] at h
        obtain ⟨rfl, rfl⟩ := h
        obtain ⟨x, rfl, rx⟩ := vone r
        rw [v_int rx]
        exact ⟨i, rfl, hl, q _ w (Step.refl w) R (.dat (.str _))⟩
      · cases h
    · cases h
def oInt : Op where
  sem := fun vs μ => match vs with
    | [.dat (.int i)] => some (.dat (.int i), μ)
    | [.dat (.bl b)] => some (.dat (.int (if b then 1 else 0)), μ)
    | [.dat (.str a)] => if a.length ≤ 640 then match PySem.intText? a with
        | some n => some (.dat (.int n), μ)
        | none => none
      else none
    | _ => none
  rd := fun K xs H Q => ((∃ i, xs = [.int i] ∧ Q (.int i) H) ∨ ∃ k, xs = [.bl k] ∧ Q (.int (if k then 1 else 0)) H) ∨ ∃ a n, xs = [.str a] ∧ PySem.intText? a = some n ∧ a.length ≤ 640 ∧ Q (.int n) H
  ok := by
    intro K cls args μ v μ' h w xs R r Q q
    split at h
    · rename_i i
      simp only [Option.some.injEq, Prod.mk.injEq] at h
      obtain ⟨rfl, rfl⟩ := h
      obtain ⟨x, rfl, rx⟩ := vone r
      rw [v_int rx]
      exact .inl (.inl ⟨i, rfl, q _ w (Step.refl w) R (.dat (.int _))⟩)
    · rename_i i
      simp only [Option.some.injEq, Prod.mk.injEq] at h
      obtain ⟨rfl, rfl⟩ := h
      obtain ⟨x, rfl, rx⟩ := vone r
      rw [v_bl rx]
      exact .inl (.inr ⟨i, rfl, q _ w (Step.refl w) R (.dat (.int _))⟩)
    · rename_i a
      split at h
      · rename_i hl
        split at h
        · rename_i n e
          simp only [Option.some.injEq, Prod.mk.injEq] at h
          obtain ⟨rfl, rfl⟩ := h
          obtain ⟨x, rfl, rx⟩ := vone r
          rw [v_str rx]
          exact .inr ⟨a, n, rfl, e, hl, q _ w (Step.refl w) R (.dat (.int _))⟩
        · cases h
      · cases h
    · cases h
/-- tuple(x) -/
def oTup : Op where
  sem := fun vs μ => match vs with
    | [.dat (.tup ds)] => some (.dat (.tup ds), μ)
    | [v] => match rdL v μ with
      | some us => mkT us μ
      | none => none
    | _ => none
  rd := fun K xs H Q => ∃ p ys, xs = [.ref p] ∧ ((SqL K H p ys ∧ ∀ l, H l = none → Q (.ref l) (upd H l (.tup ys))) ∨ (SqT K H p ys ∧ Q (.ref p) H))
  ok := by
    intro K cls args μ v μ' h w xs R r Q q
    split at h
    · rename_i ds
      simp only [Option.some.injEq, Prod.mk.injEq] at h
      obtain ⟨rfl, rfl⟩ := h
      obtain ⟨x, rfl, rx⟩ := vone r
      obtain ⟨p, ps, rfl, hp, rp⟩ := tup_of R rx rfl
      exact ⟨p, ps, rfl, .inr ⟨SqT.of hp, q _ w (Step.refl w) R rx⟩⟩
    · rename_i u _
      split at h
      · rename_i us e
        obtain ⟨x, rfl, rx⟩ := vone r
        obtain ⟨p, ps, rfl, hp, rp⟩ := rdL_of R rx e
        exact ⟨p, ps, rfl, .inl ⟨hp, new_tup R rp h q⟩⟩
      · cases h
    · cases h
/-- list(x) -/
def oLst (bx : Bool) : Op where
  sem := fun vs μ => match vs with
    | [v] => match seqOf v μ with
      | some us => mkL bx us μ
      | none => none
    | _ => none
  rd := fun K xs H Q => ∃ p ys, xs = [.ref p] ∧ (SqL K H p ys ∨ SqT K H p ys) ∧ ∀ l, H l = none → Q (.ref l) (upd H l (.lst ys))
  ok := by
    intro K cls args μ v μ' h w xs R r Q q
    split at h
    · rename_i u
      split at h
      · rename_i us e
        obtain ⟨x, rfl, rx⟩ := vone r
        obtain ⟨p, ps, rfl, hp, rp⟩ := seq_of R rx e
        exact ⟨p, ps, rfl, hp, new_list R rp h q⟩
      · cases h
    · cases h
/-- a display -/
def oDisp (bx : Bool) : Op where
  sem := fun vs μ => if vs.length ≤ sizeLine then mkL bx vs μ else none
  rd := fun K xs H Q => xs.length ≤ sizeLine ∧ ∀ p, H p = none → Q (.ref p) (upd H p (.lst xs))
  ok := by
    intro K cls args μ v μ' h w xs R r Q q
    split at h
    · rename_i hl
      exact ⟨by rw [r.length]; exact hl, new_list R r h q⟩
    · cases h
def oTupD : Op where
  sem := fun vs μ => if vs.length ≤ sizeLine then mkT vs μ else none
  rd := fun K xs H Q => xs.length ≤ sizeLine ∧ ∀ p, H p = none → Q (.ref p) (upd H p (.tup xs))
  ok := by
    intro K cls args μ v μ' h w xs R r Q q
    split at h
    · rename_i hl
      exact ⟨by rw [r.length]; exact hl, new_tup R r h q⟩
    · cases h
/-! lists of bools, of ints, of texts -/
def blsOf : List Val → Option (List Bool)
  | [] => some []
  | .dat (.bl b) :: vs => match blsOf vs with
    | some bs => some (b :: bs)
    | none => none
  | _ :: _ => none
theorem bls_of {K : PySem.W.Frag} {w : Wd} : ∀ {xs : List V} {vs : List Val} {bs : List Bool}, VrA K w xs vs → blsOf vs = some bs → xs = bs.map V.bl
  | _, _, bs, .nil, h => by cases h; rfl
  | _, _, bs, .cons (b := v) (l₂ := vs) r t, h => by
    unfold blsOf at h
    split at h
    · cases h; rename_i e; cases e
    · rename_i e
      cases e
      split at h
      · rename_i cs e2
        cases h
        rw [v_bl r, bls_of t e2]; rfl
      · cases h
    · cases h
def intsOf : List Val → Option (List Int)
  | [] => some []
  | .dat (.int b) :: vs => match intsOf vs with
    | some bs => some (b :: bs)
    | none => none
  | _ :: _ => none
theorem ints_of {K : PySem.W.Frag} {w : Wd} : ∀ {xs : List V} {vs : List Val} {bs : List Int}, VrA K w xs vs → intsOf vs = some bs → xs = bs.map V.int
  | _, _, bs, .nil, h => by cases h; rfl
  | _, _, bs, .cons (b := v) (l₂ := vs) r t, h => by
    unfold intsOf at h
    split at h
    · cases h; rename_i e; cases e
    · rename_i e
      cases e
      split at h
      · rename_i cs e2
        cases h
        rw [v_int r, ints_of t e2]; rfl
      · cases h
    · cases h
def strsOf : List Val → Option (List Str)
  | [] => some []
  | .dat (.str b) :: vs => match strsOf vs with
    | some bs => some (b :: bs)
    | none => none
  | _ :: _ => none
theorem strs_of {K : PySem.W.Frag} {w : Wd} : ∀ {xs : List V} {vs : List Val} {bs : List Str}, VrA K w xs vs → strsOf vs = some bs → xs = bs.map V.str
  | _, _, bs, .nil, h => by cases h; rfl
  | _, _, bs, .cons (b := v) (l₂ := vs) r t, h => by
    unfold strsOf at h
    split at h
    · cases h; rename_i e; cases e
    · rename_i e
      cases e
      split at h
      · rename_i cs e2
        cases h
        rw [v_str r, strs_of t e2]; rfl
      · cases h
    · cases h
def oAll : Op where
  sem := fun vs μ => match vs with
    | [v] => match rdL v μ with
      | some us => match blsOf us with
        | some bs => some (.dat (.bl (bs.all id)), μ)
        | none => none
      | none => none
    | _ => none
  rd := fun K xs H Q => rAll K xs H Q
  ok := by
    intro K cls args μ v μ' h w xs R r Q q
    split at h
    · rename_i u
      split at h
      · rename_i us e
        split at h
        · rename_i bs e2
          simp only [Option.some.injEq, Prod.mk.injEq] at h
          obtain ⟨rfl, rfl⟩ := h
          obtain ⟨x, rfl, rx⟩ := vone r
          obtain ⟨p, ps, rfl, hp, rp⟩ := rdL_of R rx e
          have e3 := bls_of rp e2
          subst e3
          exact ⟨p, bs, rfl, hp, q _ w (Step.refl w) R (.dat (.bl _))⟩
        · cases h
      · cases h
    · cases h
def rAnyI (K : PySem.W.Frag) : List V → Hp → VK → Prop := fun vs H Q => ∃ (a : Addr) (ns : List Int), vs = [V.ref a] ∧ SqL K H a (ns.map V.int) ∧ Q (.bl (ns.any (· != 0))) H
def oAny : Op where
  sem := fun vs μ => match vs with
    | [v] => match rdL v μ with
      | some us => match blsOf us with
        | some bs => some (.dat (.bl (bs.any id)), μ)
        | none => match intsOf us with
          | some ns => some (.dat (.bl (ns.any (· != 0))), μ)
          | none => none
      | none => none
    | _ => none
  rd := fun K xs H Q => rAny K xs H Q ∨ rAnyI K xs H Q
  ok := by
    intro K cls args μ v μ' h w xs R r Q q
    split at h
    · rename_i u
      split at h
      · rename_i us e
        split at h
        · rename_i bs e2
          simp only [Option.some.injEq, Prod.mk.injEq] at h
          obtain ⟨rfl, rfl⟩ := h
          obtain ⟨x, rfl, rx⟩ := vone r
          obtain ⟨p, ps, rfl, hp, rp⟩ := rdL_of R rx e
          have e3 := bls_of rp e2
          subst e3
          exact .inl ⟨p, bs, rfl, hp, q _ w (Step.refl w) R (.dat (.bl _))⟩
        · split at h
          · rename_i ns e2
            simp only [Option.some.injEq, Prod.mk.injEq] at h
            obtain ⟨rfl, rfl⟩ := h
            obtain ⟨x, rfl, rx⟩ := vone r
            obtain ⟨p, ps, rfl, hp, rp⟩ := rdL_of R rx e
            have e3 := ints_of rp e2
            subst e3
            exact .inr ⟨p, ns, rfl, hp, q _ w (Step.refl w) R (.dat (.bl _))⟩
          · cases h
      · cases h
    · cases h
/-- the greatest -/
def maxI : List Int → Int
  | [] => 0
  | n :: ns => ns.foldl (fun a b => if a < b then b else a) n
theorem fold_max : ∀ (ns : List Int) (n : Int), (ns.foldl (fun a b => if a < b then b else a) n) ∈ n :: ns ∧ ∀ y ∈ n :: ns, y ≤ ns.foldl (fun a b => if a < b then b else a) n
  | [], n => ⟨by simp, by simp⟩
  | m :: ns, n => by
    obtain ⟨h1, h2⟩ := fold_max ns (if n < m then m else n)
    rw [List.foldl_cons]
    refine ⟨?_, fun y hy => ?_⟩
    · rcases List.mem_cons.mp h1 with e | e
      · rw [e]; split <;> simp
      · simp [e]
    · have g := h2 (if n < m then m else n) (by simp)
      rcases List.mem_cons.mp hy with rfl | hy
      · split at g <;> split <;> omega
      · rcases List.mem_cons.mp hy with rfl | hy
        · split at g <;> split <;> omega
        · exact h2 y (by simp [hy])
def oMax : Op where
  sem := fun vs μ => match vs with
    | [v] => match rdL v μ with
      | some us => match intsOf us with
        | some (n :: ns) => some (.dat (.int (maxI (n :: ns))), μ)
        | _ => none
      | none => none
    | _ => none
  rd := fun K xs H Q => rMax K xs H Q
  ok := by
    intro K cls args μ v μ' h w xs R r Q q
    split at h
    · rename_i u
      split at h
      · rename_i us e
        split at h
        · rename_i n ns e2
          simp only [Option.some.injEq, Prod.mk.injEq] at h
          obtain ⟨rfl, rfl⟩ := h
          obtain ⟨x, rfl, rx⟩ := vone r
          obtain ⟨p, ps, rfl, hp, rp⟩ := rdL_of R rx e
          have e3 := ints_of rp e2
          subst e3
          refine ⟨p, n :: ns, rfl, hp, by simp, fun m hm hle => ?_⟩
          obtain ⟨h1, h2⟩ := fold_max ns n
          have : m = maxI (n :: ns) := Int.le_antisymm (h2 m hm) (hle _ h1)
          rw [this]
          exact q _ w (Step.refl w) R (.dat (.int _))
        · cases h
      · cases h
    · cases h
/-- tuple(range(n)) -/
def oTupR : Op where
  sem := fun vs μ => match vs with
    | [.dat (.int n)] => if 0 ≤ n ∧ n ≤ 16777216 then some (.dat (.tup ((List.range n.toNat).map fun (i : Nat) => D.int i)), μ) else none
    | _ => none
  rd := fun K xs H Q => match xs with | [x] => (∃ n, x = .int n ∧ RgOk 0 n ∧ ∀ q, H q = none → Q (.ref q) (upd H q (.tup (rgV 0 n)))) | _ => False
  ok := by
    intro K cls args μ v μ' h w xs R r Q q
    split at h
    · rename_i n
      split at h
      · rename_i hn
        simp only [Option.some.injEq, Prod.mk.injEq] at h
        obtain ⟨rfl, rfl⟩ := h
        obtain ⟨x, rfl, rx⟩ := vone r
        rw [v_int rx]
        refine ⟨n, rfl, RgOk.of_le (by omega) hn.2 (by omega) hn.1, ?_⟩
        refine new_tup (vs := (List.range n.toNat).map fun (i : Nat) => Val.dat (D.int i)) R ?_ ?_ q
        · unfold rgV
          rw [Int.sub_zero]
          have : ∀ l : List Nat, VrA K w (l.map fun i => V.int (0 + (i : Nat))) (l.map fun (i : Nat) => Val.dat (D.int i)) := fun l => by
            induction l with
            | nil => exact .nil
            | cons a l ih => exact .cons (by show Vr K w (V.int (0 + (a : Nat))) (Val.dat (D.int (a : Nat))); rw [Int.zero_add]; exact .dat (.int _)) ih
          exact this _
        · unfold mkT
          have : ((List.range n.toNat).map fun (i : Nat) => Val.dat (D.int i)) = ((List.range n.toNat).map fun (i : Nat) => D.int i).map Val.dat := by rw [List.map_map]; rfl
          rw [this, datsOf_map]; rfl
      · cases h
    · cases h

/-! ### methods of texts -/
def isStr : Val → Store → Bool
  | .dat (.str _), _ => true
  | _, _ => false
theorem isStr_ty {K : PySem.W.Frag} {cls : Nat → Addr} (v : Val) (μ : Store) (h : isStr v μ = true) (w : Wd) (x : V) (R : Rel K cls w μ) (r : Vr K w x v) : tyV K "str" x w.H := by
  cases r with
  | dat z => cases z <;> first | rfl | cases h
  | box z => cases h
def mJoin : Mt where
  T := "str"
  is := isStr
  sem := fun r vs μ => match r, vs with
    | .dat (.str a), [v] => match seqOf v μ with
      | some us => match strsOf us with
        | some ys => if (ys.map (·.length)).sum + ys.length * a.length ≤ 16777216 then some (.dat (.str (Txt.join a ys)), μ) else none
        | none => none
      | none => none
    | _, _ => none
  rd := fun K x xs H Q => ∃ a p, ∃ ys : List Str, x = .str a ∧ xs = [.ref p] ∧ (SqL K H p (ys.map V.str) ∨ SqT K H p (ys.map V.str)) ∧ (ys.map (·.length)).sum + ys.length * a.length ≤ 16777216 ∧ Q (.str (Txt.join a ys)) H
  ty := fun K cls v μ h w x R r => isStr_ty v μ h w x R r
  ok := by
    intro K cls r args μ v μ' h w x xs R rr ra Q q
    split at h
    · rename_i a u
      split at h
      · rename_i us e
        split at h
        · rename_i ys e2
          split at h
          · rename_i hl
            simp only [Option.some.injEq, Prod.mk.injEq] at h
            obtain ⟨rfl, rfl⟩ := h
            obtain ⟨y, rfl, ry⟩ := vone ra
            obtain ⟨p, ps, rfl, hp, rp⟩ := seq_of R ry e
            have e3 := strs_of rp e2
            subst e3
            exact ⟨a, p, ys, v_str rr, rfl, hp, hl, q _ w (Step.refl w) R (.dat (.str _))⟩
          · cases h
        · cases h
      · cases h
    · cases h
/-- text methods upon a text: a value out -/
def mS1 (C : Str → Bool) (g : Str → Str → Sc) : Mt where
  T := "str"
  is := isStr
  sem := fun r vs μ => match r, vs with
    | .dat (.str a), [.dat (.str b)] => if C a then some (.dat (g a b).d, μ) else none
    | _, _ => none
  rd := fun K x xs H Q => ∃ a b, x = .str a ∧ xs = [.str b] ∧ C a = true ∧ Q (g a b).v H
  ty := fun K cls v μ h w x R r => isStr_ty v μ h w x R r
  ok := by
    intro K cls r args μ v μ' h w x xs R rr ra Q q
    split at h
    · rename_i a b
      split at h
      · rename_i hl
        simp only [Option.some.injEq, Prod.mk.injEq] at h
        obtain ⟨rfl, rfl⟩ := h
        obtain ⟨y, rfl, ry⟩ := vone ra
        exact ⟨a, b, v_str rr, by rw [v_str ry], hl, q _ w (Step.refl w) R (Sc.r _)⟩
      · cases h
    · cases h
def cLine (a : Str) : Bool := decide (a.length ≤ sizeLine)
abbrev mLstrip : Mt := mS1 cLine fun a b => .str (Txt.lstripChars a b)
def mFind3 : Mt where
  T := "str"
  is := isStr
  sem := fun r vs μ => match r, vs with
    | .dat (.str a), [.dat (.str b), .dat (.int i)] => some (.dat (.int (Txt.find3 a b i)), μ)
    | _, _ => none
  rd := fun K x xs H Q => ∃ (a b : Str) (i : Int), x = .str a ∧ xs = [.str b, .int i] ∧ Q (.int (Txt.find3 a b i)) H
  ty := fun K cls v μ h w x R r => isStr_ty v μ h w x R r
  ok := by
    intro K cls r args μ v μ' h w x xs R rr ra Q q
    split at h
    · rename_i a b i
      simp only [Option.some.injEq, Prod.mk.injEq] at h
      obtain ⟨rfl, rfl⟩ := h
      obtain ⟨y, z, rfl, ry, rz⟩ := vtwo ra
      exact ⟨a, b, i, v_str rr, by rw [v_str ry, v_int rz], q _ w (Step.refl w) R (.dat (.int _))⟩
    · cases h
def mSplit (bx : Bool) : Mt where
  T := "str"
  is := isStr
  sem := fun r vs μ => match r, vs with
    | .dat (.str a), [.dat (.str b)] => if (b.length == 0) = false ∧ a.length + 2 ≤ sizeLine then mkL bx ((Txt.split a b).map fun s => .dat (.str s)) μ else none
    | _, _ => none
  rd := fun K x xs H Q => ∃ a b, x = .str a ∧ xs = [.str b] ∧ (b.length == 0) = false ∧ a.length + 2 ≤ sizeLine ∧ rNewStrs (Txt.split a b) H Q
  ty := fun K cls v μ h w x R r => isStr_ty v μ h w x R r
  ok := by
    intro K cls r args μ v μ' h w x xs R rr ra Q q
    split at h
    · rename_i a b
      split at h
      · rename_i hl
        obtain ⟨y, rfl, ry⟩ := vone ra
        refine ⟨a, b, v_str rr, by rw [v_str ry], hl.1, hl.2, ?_⟩
        refine new_list R ?_ h q
        have : ∀ l : List Str, VrA K w (l.map V.str) (l.map fun s => Val.dat (.str s)) := fun l => by
          induction l with
          | nil => exact .nil
          | cons a l ih => exact .cons (.dat (.str _)) ih
        exact this _
      · cases h
    · cases h
/-- s.index(t): it is there -/
def rIndexS : V → List V → Hp → VK → Prop := fun x xs H Q => ∃ (a b : Str) (k : Nat), x = .str a ∧ xs = [.str b] ∧ Txt.index0 a b = some k ∧ Q (.int k) H
theorem mt_indexS {X : Cx} (hc : X.calm = true) : MtR X "str.index" rIndexS := by
  intro pins s σ H x xs v us Q I rx rs h
  obtain ⟨a, b, k, rfl, rfl, e, q⟩ := h
  refine mt_indexX (W := fun _ _ _ _ => False) hc takes0 pins s σ H _ _ v us Q I rx rs ⟨a, b, rfl, rfl, fun j ej => ?_, fun ej => ?_⟩
  · rw [e] at ej; cases ej; exact q
  · rw [e] at ej; cases ej
def mIndexS : Mt where
  T := "str"
  is := isStr
  sem := fun r vs μ => match r, vs with
    | .dat (.str a), [.dat (.str b)] => match Txt.index0 a b with
      | some k => some (.dat (.int k), μ)
      | none => none
    | _, _ => none
  rd := fun K x xs H Q => rIndexS x xs H Q
  ty := fun K cls v μ h w x R r => isStr_ty v μ h w x R r
  ok := by
    intro K cls r args μ v μ' h w x xs R rr ra Q q
    split at h
    · rename_i a b
      split at h
      · rename_i k e
        simp only [Option.some.injEq, Prod.mk.injEq] at h
        obtain ⟨rfl, rfl⟩ := h
        obtain ⟨y, rfl, ry⟩ := vone ra
        exact ⟨a, b, k, v_str rr, by rw [v_str ry], e, q _ w (Step.refl w) R (.dat (.int _))⟩
      · cases h
    · cases h
/-! ### methods of lists -/
def isLst (v : Val) (μ : Store) : Bool := (rdL v μ).isSome
theorem isLst_ty {K : PySem.W.Frag} {cls : Nat → Addr} (v : Val) (μ : Store) (h : isLst v μ = true) (w : Wd) (x : V) (R : Rel K cls w μ) (r : Vr K w x v) : tyV K "list" x w.H := by
  unfold isLst at h
  cases e : rdL v μ with
  | none => rw [e] at h; cases h
  | some us =>
    obtain ⟨p, ps, rfl, hp, _⟩ := rdL_of R r e
    exact .inl ⟨rfl, ps, hp⟩
def mIndexL : Mt where
  T := "list"
  is := isLst
  sem := fun r vs μ => match vs with
    | [y] => match rdL r μ, flV y with
      | some us, some fy => match flVs us with
        | some fs => match fs.findIdx? (fun z => eqV z fy) with
          | some j => some (.dat (.int j), μ)
          | none => none
        | none => none
      | _, _ => none
    | _ => none
  rd := fun K x xs H Q => rIndex K x xs H Q
  ty := fun K cls v μ h w x R r => isLst_ty v μ h w x R r
  ok := by
    intro K cls r args μ v μ' h w x xs R rr ra Q q
    split at h
    · rename_i y
      split at h
      · rename_i us fy e1 e2
        split at h
        · rename_i fs e3
          split at h
          · rename_i j e4
            simp only [Option.some.injEq, Prod.mk.injEq] at h
            obtain ⟨rfl, rfl⟩ := h
            obtain ⟨yv, rfl, ry⟩ := vone ra
            obtain ⟨p, ps, rfl, hp, rp⟩ := rdL_of R rr e1
            obtain ⟨rfl, f1⟩ := flV_ok ry e2
            obtain ⟨rfl, f2⟩ := flVs_ok rp e3
            rw [List.findIdx?_eq_some_iff_getElem] at e4
            obtain ⟨hj, e5, e6⟩ := e4
            refine ⟨p, ps, yv, j, ps[j], rfl, rfl, hp, f1, f2, List.getElem?_eq_getElem hj, e5, fun m z hm hz => ?_, q _ w (Step.refl w) R (.dat (.int _))⟩
            have := e6 m hm
            rw [List.getElem?_eq_getElem (by omega)] at hz
            cases hz
            simpa using this
          · cases h
        · cases h
      · cases h
    · cases h
def mAppend : Mt where
  T := "list"
  is := isLst
  sem := fun r vs μ => match r, vs with
    | .box k, [y] => match μ[k]? with
      | some (.lst us) => if us.length < sizeLine then some (.dat .non, μ.set k (.lst (us ++ [y]))) else none
      | _ => none
    | _, _ => none
  rd := fun K x xs H Q => rAppend x xs H Q
  ty := fun K cls v μ h w x R r => isLst_ty v μ h w x R r
  ok := by
    intro K cls r args μ v μ' h w x xs R rr ra Q q
    split at h
    · rename_i k y
      split at h
      · rename_i us e
        split at h
        · rename_i hl
          simp only [Option.some.injEq, Prod.mk.injEq] at h
          obtain ⟨rfl, rfl⟩ := h
          obtain ⟨yv, rfl, ry⟩ := vone ra
          obtain ⟨p, rfl⟩ : ∃ p, x = .ref p := by cases rr; exact ⟨_, rfl⟩
          obtain ⟨hm, ps, hp, rp⟩ := box_of R rr e (fun z => nomatch z)
          obtain ⟨s, R'⟩ := set_box (o := .lst (ps ++ [yv])) (s := .lst (us ++ [y])) R hm fun w' st hw => ⟨_, hw, Paired.snoc (rp.mono st) (ry.mono st)⟩
          exact ⟨p, ps, yv, rfl, rfl, hp, by rw [rp.length]; exact hl, q .non _ s R' (.dat .non)⟩
        · cases h
      · cases h
    · cases h
def mPop : Mt where
  T := "list"
  is := isLst
  sem := fun r vs μ => match r, vs with
    | .box k, [] => match μ[k]? with
      | some (.lst us) => match us[us.length - 1]? with
        | some y => some (y, μ.set k (.lst us.dropLast))
        | none => none
      | _ => none
    | _, _ => none
  rd := fun K x xs H Q => rPop x xs H Q
  ty := fun K cls v μ h w x R r => isLst_ty v μ h w x R r
  ok := by
    intro K cls r args μ v μ' h w x xs R rr ra Q q
    split at h
    · rename_i k
      split at h
      · rename_i us e
        split at h
        · rename_i y e2
          simp only [Option.some.injEq, Prod.mk.injEq] at h
          obtain ⟨rfl, rfl⟩ := h
          have := vnil ra
          subst this
          obtain ⟨p, rfl⟩ : ∃ p, x = .ref p := by cases rr; exact ⟨_, rfl⟩
          obtain ⟨hm, ps, hp, rp⟩ := box_of R rr e (fun z => nomatch z)
          obtain ⟨yv, hy, ry⟩ := vra_get rp e2
          obtain ⟨s, R'⟩ := set_box (o := .lst ps.dropLast) (s := .lst us.dropLast) R hm fun w' st hw => ⟨_, hw, vra_dropLast (rp.mono st)⟩
          exact ⟨p, ps, yv, rfl, rfl, hp, by rw [rp.length]; exact hy, q yv _ s R' (ry.mono s)⟩
        · cases h
      · cases h
    · cases h

/-! ### what is walked -/
def itL : Ito where
  sem := fun vs μ => match vs with
    | [v] => if (rdL v μ).isSome then some fun i μ1 => match rdL v μ1 with
        | some us => some us[i]?
        | none => none
      else none
    | _ => none
  rd := fun K xs H R => match xs with | [x] => (∃ a, x = .ref a ∧ (∃ ys, SqL K H a ys) ∧ R (Itl K a) H) | _ => False
  ok := by
    intro K cls args μ nx h w xs R r RR q
    split at h
    · rename_i v
      split at h
      · rename_i hs
        cases h
        obtain ⟨x, rfl, rx⟩ := vone r
        cases e : rdL v μ with
        | none => rw [e] at hs; cases hs
        | some us =>
          obtain ⟨p, ps, rfl, hp, rp⟩ := rdL_of R rx e
          refine ⟨p, rfl, ⟨ps, hp⟩, q _ ?_⟩
          intro w1 μ1 s1 R1 i
          refine ⟨fun hn => ?_, fun u hu => ?_⟩
          · simp only at hn
            split at hn
            · rename_i us1 e1
              simp only [Option.some.injEq] at hn
              obtain ⟨p1, ps1, ep, hp1, rp1⟩ := rdL_of R1 (rx.mono s1) e1
              cases ep
              exact ⟨ps1, hp1, by rw [rp1.length]; exact List.getElem?_eq_none_iff.mp hn⟩
            · cases hn
          · simp only at hu
            split at hu
            · rename_i us1 e1
              simp only [Option.some.injEq] at hu
              obtain ⟨p1, ps1, ep, hp1, rp1⟩ := rdL_of R1 (rx.mono s1) e1
              cases ep
              obtain ⟨y, hy, ry⟩ := vra_get rp1 hu
              refine ⟨⟨ps1, y, hp1, hy⟩, fun z H' hz => ?_⟩
              obtain ⟨rfl, hz⟩ := hz
              have := hz ps1 hp1
              rw [hy] at this
              cases this
              exact ⟨w1, rfl, Step.refl w1, R1, ry⟩
            · cases hu
      · cases h
    · cases h
def itT : Ito where
  sem := fun vs μ => match vs with
    | [.dat (.tup ds)] => some fun i _ => some (ds[i]?.map Val.dat)
    | _ => none
  rd := fun K xs H R => match xs with | [x] => (∃ a, x = .ref a ∧ (∃ ys, SqT K H a ys) ∧ R (Itt K a) H) | _ => False
  ok := by
    intro K cls args μ nx h w xs R r RR q
    split at h
    · rename_i ds
      cases h
      obtain ⟨x, rfl, rx⟩ := vone r
      obtain ⟨p, ps, rfl, hp, rp⟩ := tup_of R rx rfl
      refine ⟨p, rfl, ⟨ps, SqT.of hp⟩, q _ ?_⟩
      intro w1 μ1 s1 R1 i
      obtain ⟨p1, ps1, ep, hp1, rp1⟩ := tup_of R1 (rx.mono s1) rfl
      cases ep
      refine ⟨fun hn => ?_, fun u hu => ?_⟩
      · simp only [Option.some.injEq, Option.map_eq_none_iff] at hn
        exact ⟨ps1, SqT.of hp1, by rw [rp1.length, List.length_map]; exact List.getElem?_eq_none_iff.mp hn⟩
      · simp only [Option.some.injEq] at hu
        rw [← List.getElem?_map] at hu
        obtain ⟨y, hy, ry⟩ := vra_get rp1 hu
        refine ⟨⟨ps1, y, SqT.of hp1, hy⟩, fun z H' hz => ?_⟩
        obtain ⟨rfl, hz⟩ := hz
        have := hz ps1 (SqT.of hp1)
        rw [hy] at this
        cases this
        exact ⟨w1, rfl, Step.refl w1, R1, ry⟩
    · cases h
def itS : Ito where
  sem := fun vs μ => match vs with
    | [.dat (.str s)] => some fun i _ => some (s.cps[i]?.map fun c => Val.dat (.str ⟨#[c]⟩))
    | _ => none
  rd := fun K xs H R => match xs with | [x] => (∃ s, x = .str s ∧ R (Its s) H) | _ => False
  ok := by
    intro K cls args μ nx h w xs R r RR q
    split at h
    · rename_i s
      cases h
      obtain ⟨x, rfl, rx⟩ := vone r
      refine ⟨s, v_str rx, q _ ?_⟩
      intro w1 μ1 s1 R1 i
      refine ⟨fun hn => ?_, fun u hu => ?_⟩
      · simp only [Option.some.injEq, Option.map_eq_none_iff] at hn
        have := Array.getElem?_eq_none_iff.mp hn
        exact this
      · simp only [Option.some.injEq, Option.map_eq_some_iff] at hu
        obtain ⟨c, hc, rfl⟩ := hu
        refine ⟨(Array.getElem?_eq_some_iff.mp hc).1, fun z H' hz => ?_⟩
        obtain ⟨rfl, c', hc', rfl⟩ := hz
        rw [hc] at hc'
        cases hc'
        exact ⟨w1, rfl, Step.refl w1, R1, .dat (.str _)⟩
    · cases h
def nxR (lo step : Int) (n : Nat) : Nxt := fun i _ => if i < n then some (some (.dat (.int (lo + (i : Nat) * step)))) else some none
def itR1 : Ito where
  sem := fun vs μ => match vs with
    | [.dat (.int n)] => if -(2 ^ 62) ≤ n ∧ n < 2 ^ 62 then some (nxR 0 1 n.toNat) else none
    | _ => none
  rd := fun K xs H R => ∃ j : Int, xs = [.int j] ∧ -(2 ^ 62) ≤ j ∧ j < 2 ^ 62 ∧ R (Itr 0 j.toNat) H
  ok := by
    intro K cls args μ nx h w xs R r RR q
    split at h
    · rename_i n
      split at h
      · rename_i hn
        cases h
        obtain ⟨x, rfl, rx⟩ := vone r
        refine ⟨n, by rw [v_int rx], hn.1, hn.2, q _ ?_⟩
        intro w1 μ1 s1 R1 i
        refine ⟨fun hn => ?_, fun u hu => ?_⟩
        · unfold nxR at hn
          split at hn
          · cases hn
          · show n.toNat ≤ i; omega
        · unfold nxR at hu
          split at hu
          · rename_i hi
            cases hu
            refine ⟨hi, fun z H' hz => ?_⟩
            obtain ⟨rfl, rfl⟩ := hz
            rw [Int.mul_one]
            exact ⟨w1, rfl, Step.refl w1, R1, .dat (.int _)⟩
          · cases hu
      · cases h
    · cases h
def itR2 : Ito where
  sem := fun vs μ => match vs with
    | [.dat (.int a), .dat (.int n)] => if -(2 ^ 62) ≤ a ∧ a < 2 ^ 62 ∧ -(2 ^ 62) ≤ n ∧ n < 2 ^ 62 then some (nxR a 1 (n - a).toNat) else none
    | _ => none
  rd := fun K xs H R => ∃ i j : Int, xs = [.int i, .int j] ∧ (-(2 ^ 62) ≤ i ∧ i < 2 ^ 62 ∧ -(2 ^ 62) ≤ j ∧ j < 2 ^ 62) ∧ R (Itr i (j - i).toNat) H
  ok := by
    intro K cls args μ nx h w xs R r RR q
    split at h
    · rename_i a n
      split at h
      · rename_i hn
        cases h
        obtain ⟨x, y, rfl, rx, ry⟩ := vtwo r
        refine ⟨a, n, by rw [v_int rx, v_int ry], hn, q _ ?_⟩
        intro w1 μ1 s1 R1 i
        refine ⟨fun hn => ?_, fun u hu => ?_⟩
        · unfold nxR at hn
          split at hn
          · cases hn
          · show (n - a).toNat ≤ i; omega
        · unfold nxR at hu
          split at hu
          · rename_i hi
            cases hu
            refine ⟨hi, fun z H' hz => ?_⟩
            obtain ⟨rfl, rfl⟩ := hz
            rw [Int.mul_one]
            exact ⟨w1, rfl, Step.refl w1, R1, .dat (.int _)⟩
          · cases hu
      · cases h
    · cases h
/-- range(a, b, c), c a positive step -/
def itR3 : Ito where
  sem := fun vs μ => match vs with
    | [.dat (.int a), .dat (.int b), .dat (.int c)] => if 0 < c ∧ c < 1073741824 ∧ Builtin.Range.small a b c = true then some (nxR a c (Builtin.Range.rangeSize a b c).toNat) else none
    | _ => none
  rd := fun K xs H R => ∃ (i j c : Int) (n : Nat), xs = [.int i, .int j, .int c] ∧ RgC i j c n ∧ R (Itc i c n) H
  ok := by
    intro K cls args μ nx h w xs R r RR q
    split at h
    · rename_i a b c
      split at h
      · rename_i hn
        cases h
        obtain ⟨x, ys, rfl, rx, hys⟩ : ∃ x ys, xs = x :: ys ∧ Vr K w x (.dat (.int a)) ∧ VrA K w ys [.dat (.int b), .dat (.int c)] := by
          cases r with | cons r t => exact ⟨_, _, rfl, r, t⟩
        obtain ⟨y, z, rfl, ry, rz⟩ := vtwo hys
        have hsz : ((Builtin.Range.rangeSize a b c).toNat : Int) = Builtin.Range.rangeSize a b c := by
          refine Int.toNat_of_nonneg ?_
          unfold Builtin.Range.rangeSize
          rw [if_pos hn.1]
          split
          · have := Int.ediv_nonneg (a := b - a - 1) (b := c) (by omega) (by omega)
            omega
          · omega
        refine ⟨a, b, c, _, by rw [v_int rx, v_int ry, v_int rz], ⟨by omega, by omega, hn.2.2, by rw [hsz]⟩, q _ ?_⟩
        intro w1 μ1 s1 R1 i
        refine ⟨fun hn => ?_, fun u hu => ?_⟩
        · unfold nxR at hn
          split at hn
          · cases hn
          · show (Builtin.Range.rangeSize a b c).toNat ≤ i; omega
        · unfold nxR at hu
          split at hu
          · rename_i hi
            cases hu
            refine ⟨hi, fun z H' hz => ?_⟩
            obtain ⟨rfl, rfl⟩ := hz
            exact ⟨w1, rfl, Step.refl w1, R1, .dat (.int _)⟩
          · cases hu
      · cases h
    · cases h
/-- enumerate(list) -/
def itEn : Ito where
  sem := fun vs μ => match vs with
    | [v] => if (rdL v μ).isSome then some fun i μ1 => match rdL v μ1 with
        | some us => match us[i]? with
          | some (.dat d) => some (some (.dat (.tup [.int (i : Nat), d])))
          | some (.box _) => none
          | none => some none
        | none => none
      else none
    | _ => none
  rd := fun K xs H R => ∃ a ys, xs = [.ref a] ∧ SqL K H a ys ∧ R (Ite K a) H
  ok := by
    intro K cls args μ nx h w xs R r RR q
    split at h
    · rename_i v
      split at h
      · rename_i hs
        cases h
        obtain ⟨x, rfl, rx⟩ := vone r
        cases e : rdL v μ with
        | none => rw [e] at hs; cases hs
        | some us =>
          obtain ⟨p, ps, rfl, hp, rp⟩ := rdL_of R rx e
          refine ⟨p, ps, rfl, hp, q _ ?_⟩
          intro w1 μ1 s1 R1 i
          refine ⟨fun hn => ?_, fun u hu => ?_⟩
          · simp only at hn
            split at hn
            · rename_i us1 e1
              obtain ⟨p1, ps1, ep, hp1, rp1⟩ := rdL_of R1 (rx.mono s1) e1
              cases ep
              split at hn
              · cases hn
              · cases hn
              · rename_i e2
                exact ⟨ps1, hp1, by rw [rp1.length]; exact List.getElem?_eq_none_iff.mp e2⟩
            · cases hn
          · simp only at hu
            split at hu
            · rename_i us1 e1
              obtain ⟨p1, ps1, ep, hp1, rp1⟩ := rdL_of R1 (rx.mono s1) e1
              cases ep
              split at hu
              · rename_i d e2
                cases hu
                obtain ⟨y, hy, ry⟩ := vra_get rp1 e2
                refine ⟨⟨ps1, y, hp1, hy⟩, fun z H' hz => ?_⟩
                obtain ⟨T, y', rfl, hT, rfl, hz⟩ := hz
                have := hz ps1 hp1
                rw [hy] at this
                cases this
                obtain ⟨w2, hw2, s2, R2, r2⟩ := mkT_ok (vs := [.dat (.int (i : Nat)), .dat d]) (xs := [.int (i : Nat), y]) R1 (.cons (.dat (.int _)) (.cons ry .nil)) rfl hT
                exact ⟨w2, hw2, s2, R2, r2⟩
              · cases hu
              · cases hu
            · cases hu
      · cases h
    · cases h
end EV

/-! EvQ: terms for a text: what a piece of syntax denotes. -/
namespace EV
open PySem PySem.Spec PyProof.Rows L2

section
variable {X : Cx} {cls : Nat → Addr} {sp : Nat → Sp}
abbrev cnX (X : Cx) (cls : Nat → Addr) (sp : Nat → Sp) : Cn := ⟨X.K, cls, sp⟩
variable {pos p p2 : Pos} {a b c e : Expr} {es : List Expr} {ra rb rc : RE} {rl : RL} {x : Str}

/-! ### names, constants -/
theorem Q_var (i : Nat) (hN : X.N[i]? = some x := by rfl) (hv : Vis X.env.scope x := by first | exact Or.inl rfl | exact Or.inr (Or.inl rfl) | exact Or.inr (Or.inr rfl)) (hd : (x == ("__debug__" : Str)) = false := by decide)
    (hcd : (x == ("__classdict__" : Str)) = false := by decide) : PE X (.Name x pos) (denE (cnX X cls sp) (.var i)) := pe_var hN hv hd hcd
theorem Q_int {i j} : PE X (.Constant (.int i) j pos) (denE (cnX X cls sp) (.cst (.int i))) := pe_int
theorem Q_bl {i j} : PE X (.Constant (.bool i) j pos) (denE (cnX X cls sp) (.cst (.bl i))) := pe_bl
theorem Q_non {j} : PE X (.Constant .none j pos) (denE (cnX X cls sp) (.cst .non)) := pe_non
theorem Q_str {s j} : PE X (.Constant (.str s) j pos) (denE (cnX X cls sp) (.cst (.str s))) := pe_str
theorem Q_gint {i : Int} (hm : ∃ t, X.mg x = some (.int i t)) (hg : Gl X x := by rfl) (hd : (x == ("__debug__" : Str)) = false := by decide) : PE X (.Name x pos) (denE (cnX X cls sp) (.cst (.int i))) :=
  let ⟨t, h⟩ := hm
  pe_glob (v := .int i) hg h ⟨t, rfl⟩ hd
theorem Q_gstr {i : Str} (hm : ∃ t, X.mg x = some (.str i t)) (hg : Gl X x := by rfl) (hd : (x == ("__debug__" : Str)) = false := by decide) : PE X (.Name x pos) (denE (cnX X cls sp) (.cst (.str i))) :=
  let ⟨t, h⟩ := hm
  pe_glob (v := .str i) hg h ⟨t, rfl⟩ hd
/-! ### operators -/
theorem Q_bin {op : Operator} {o : Op} (ho : OpR X (binaryOp op) fun x y H Q => o.rd X.K [x, y] H Q) (ha : PE X a (denE (cnX X cls sp) ra)) (hb : PE X b (denE (cnX X cls sp) rb)) :
    PE X (.BinOp a op b pos) (denE (cnX X cls sp) (.app o (.cons ra (.cons rb .nil)))) := pe_op ho ha hb
theorem Q_neg (ha : PE X a (denE (cnX X cls sp) ra)) : PE X (.UnaryOp .USub a pos) (denE (cnX X cls sp) (.app oNeg (.cons ra .nil))) := pe_un un_neg ha
theorem Q_cmp {op : CmpOp} {o : Op} (ho : OpR X (compareOp op) fun x y H Q => o.rd X.K [x, y] H Q) (ha : PE X a (denE (cnX X cls sp) ra)) (hb : PE X b (denE (cnX X cls sp) rb))
    (hm : behindInMarks op b = false := by first | exact nomark _ | rfl) : PE X (.Compare a [op] [b] pos) (denE (cnX X cls sp) (.app o (.cons ra (.cons rb .nil)))) := pe_cmpR ho ha hb hm
theorem QT_cmp {op : CmpOp} {o : Op} (ho : OpR X (compareOp op) fun x y H Q => o.rd X.K [x, y] H Q) (ha : PE X a (denE (cnX X cls sp) ra)) (hb : PE X b (denE (cnX X cls sp) rb))
    (hm : behindInMarks op b = false := by first | exact nomark _ | rfl) : PT X (.Compare a [op] [b] pos) (denT (cnX X cls sp) (.bv (.app o (.cons ra (.cons rb .nil))))) := pt_cmpR ho ha hb hm
theorem Q_chain {op op' : CmpOp} {o o' : Op} (ho : OpR X (compareOp op) fun x y H Q => o.rd X.K [x, y] H Q) (ho' : OpR X (compareOp op') fun x y H Q => o'.rd X.K [x, y] H Q)
    (ha : PE X a (denE (cnX X cls sp) ra)) (hb : PE X b (denE (cnX X cls sp) rb)) (hc : PE X c (denE (cnX X cls sp) rc)) (hm : lastMarks [op, op'] [b, c] = false := by with_unfolding_all rfl) :
    PE X (.Compare a [op, op'] [b, c] pos) (denE (cnX X cls sp) (.chain o o' ra rb rc)) := pe_chain ho ho' ha hb hc hm
theorem QT_chain {op op' : CmpOp} {o o' : Op} (ho : OpR X (compareOp op) fun x y H Q => o.rd X.K [x, y] H Q) (ho' : OpR X (compareOp op') fun x y H Q => o'.rd X.K [x, y] H Q)
    (ha : PE X a (denE (cnX X cls sp) ra)) (hb : PE X b (denE (cnX X cls sp) rb)) (hc : PE X c (denE (cnX X cls sp) rc)) (hm : lastMarks [op, op'] [b, c] = false := by with_unfolding_all rfl) :
    PT X (.Compare a [op, op'] [b, c] pos) (denT (cnX X cls sp) (.bv (.chain o o' ra rb rc))) := pt_chain ho ho' ha hb hc hm
variable {ta tb : RT} {rest : List Expr}
theorem QT_tr (ha : PE X a (denE (cnX X cls sp) ra)) (he : ∀ whole, isTrue a X.env whole = (do let v ← whole; standAt a.pos; holding [v] (truthy v)) := by intro _; rfl) : PT X a (denT (cnX X cls sp) (.tr tTr ra)) := pt_truth ha he
theorem QT_not (ha : PT X a (denT (cnX X cls sp) ta)) : PT X (.UnaryOp .Not a pos) (denT (cnX X cls sp) (.not ta)) := pt_not ha
theorem QW_and1 (ha : PT X a (denT (cnX X cls sp) ta)) : PW X (.BoolOp .And [a] pos) (denT (cnX X cls sp) ta) := pw_and1 ha
theorem QW_or1 (ha : PT X a (denT (cnX X cls sp) ta)) : PW X (.BoolOp .Or [a] pos) (denT (cnX X cls sp) ta) := pw_or1 ha
theorem QW_and (ha : PT X a (denT (cnX X cls sp) ta)) (hb : PW X (.BoolOp .And (b :: rest) pos) (denT (cnX X cls sp) tb)) : PW X (.BoolOp .And (a :: b :: rest) pos) (denT (cnX X cls sp) (.and ta tb)) := pw_and ha hb
theorem QW_or (ha : PT X a (denT (cnX X cls sp) ta)) (hb : PW X (.BoolOp .Or (b :: rest) pos) (denT (cnX X cls sp) tb)) : PW X (.BoolOp .Or (a :: b :: rest) pos) (denT (cnX X cls sp) (.or ta tb)) := pw_or ha hb
theorem Q_one {op} (ha : PE X a (denE (cnX X cls sp) ra)) : PE X (.BoolOp op [a] pos) (denE (cnX X cls sp) ra) := pe_one ha
theorem Q_and (ha : PE X a (denE (cnX X cls sp) ra)) (hb : PE X (.BoolOp .And (b :: rest) pos) (denE (cnX X cls sp) rb)) : PE X (.BoolOp .And (a :: b :: rest) pos) (denE (cnX X cls sp) (.andV ra rb)) := pe_and ha hb
theorem Q_or (ha : PE X a (denE (cnX X cls sp) ra)) (hb : PE X (.BoolOp .Or (b :: rest) pos) (denE (cnX X cls sp) rb)) : PE X (.BoolOp .Or (a :: b :: rest) pos) (denE (cnX X cls sp) (.orV ra rb)) := pe_or ha hb
def oNot : Op where
  sem := fun vs μ => match vs with
    | [.dat (.bl b)] => some (.dat (.bl (!b)), μ)
    | _ => none
  rd := fun K vs H Q => match vs with | [x] => (∃ c, x = .bl c ∧ Q (.bl (!c)) H) | _ => False
  ok := by
    intro K cls args μ v μ' h w xs R r Q q
    split at h
    · rename_i i
      simp only [Option.some.injEq, Prod.mk.injEq] at h
      obtain ⟨rfl, rfl⟩ := h
      obtain ⟨x, rfl, rx⟩ := vone r
      exact ⟨i, v_bl rx, q _ w (Step.refl w) R (.dat (.bl _))⟩
    · cases h
theorem Q_not (ha : PE X a (denE (cnX X cls sp) ra)) : PE X (.UnaryOp .Not a pos) (denE (cnX X cls sp) (.app oNot (.cons ra .nil))) := pe_not ha
theorem Q_ifx (hc : PT X c (denT (cnX X cls sp) ta)) (ha : PE X a (denE (cnX X cls sp) ra)) (hb : PE X b (denE (cnX X cls sp) rb)) : PE X (.IfExp c a b pos) (denE (cnX X cls sp) (.ifx ta ra rb)) := pe_ifExp hc ha hb
/-! ### arguments, displays -/
theorem Q_nil : PA X [] (denL (cnX X cls sp) .nil) := pa_nil
theorem Q_cons (ha : PE X e (denE (cnX X cls sp) ra)) (hr : PA X es (denL (cnX X cls sp) rl)) (hs : starEach (e :: es) X.env = (false, eval e X.env) :: starEach es X.env := by rfl) : PA X (e :: es) (denL (cnX X cls sp) (.cons ra rl)) := pa_cons ha hr hs
theorem Q_disp (bx : Bool) (h : PA X es (denL (cnX X cls sp) rl)) : PE X (.List es pos) (denE (cnX X cls sp) (.app (oDisp bx) rl)) := pe_lst h
theorem Q_tup {x1} (h : PA X es (denL (cnX X cls sp) rl)) : PE X (.Tuple es x1 pos) (denE (cnX X cls sp) (.app oTupD rl)) := pe_tup h
/-! ### subscripts, slices -/
theorem Q_ix (ha : PE X a (denE (cnX X cls sp) ra)) (hb : PE X b (denE (cnX X cls sp) rb)) (hs : PlainIx b := by exact fun _ _ => rfl) : PE X (.Subscript a b pos) (denE (cnX X cls sp) (.app oIx (.cons ra (.cons rb .nil)))) := pe_ix ix_seq ha hb hs
variable {lo hi : Option Expr} {rlo rhi : RO}
theorem Q_pno : PO X none (denO (cnX X cls sp) .no) := po_none
theorem Q_pso (h : PE X e (denE (cnX X cls sp) ra)) : PO X (some e) (denO (cnX X cls sp) (.so ra)) := po_some h
theorem Q_sl (bx : Bool) (he : PE X e (denE (cnX X cls sp) ra)) (hl : PO X lo (denO (cnX X cls sp) rlo)) (hu : PO X hi (denO (cnX X cls sp) rhi)) : PE X (.Subscript e (.Slice lo hi none p2) pos) (denE (cnX X cls sp) (.sl (sSl bx) ra rlo rhi)) := pe_slice sSl_ok he hl hu
/-! ### built-in calls -/
theorem Q_B {id : String} {o : Op} (hc : CallR X (.builtin id) (o.rd X.K)) (hv : bootBuiltins x = some (.builtin id)) (hm : X.mg x = none) (ha : PA X (e :: es) (denL (cnX X cls sp) rl)) (hg : Gl X x := by rfl) (hn : x ≠ "__name__" := by decide) (hdb : (x == ("__debug__" : Str)) = false := by decide)
    (he : starEach (e :: es) X.env = (false, eval e X.env) :: starEach es X.env := by rfl) (hpl : (backTo pos (starEach es X.env)).any (·.1) = false := by rfl) : PE X (.Call (.Name x p) (e :: es) [] pos) (denE (cnX X cls sp) (.app o rl)) := pe_callB hc hg hm hv ha hn hdb he hpl
theorem Q_T {T : String} {o : Op} (hc : CallR X (.type T) (o.rd X.K)) (hv : bootBuiltins x = some (.type T)) (hm : X.mg x = none) (ha : PA X (e :: es) (denL (cnX X cls sp) rl)) (hg : Gl X x := by rfl) (hn : x ≠ "__name__" := by decide) (hdb : (x == ("__debug__" : Str)) = false := by decide)
    (he : starEach (e :: es) X.env = (false, eval e X.env) :: starEach es X.env := by rfl) (hpl : (backTo pos (starEach es X.env)).any (·.1) = false := by rfl) : PE X (.Call (.Name x p) (e :: es) [] pos) (denE (cnX X cls sp) (.app o rl)) := pe_callTy hc hg hm hv ha hn hdb he hpl

theorem bt_len : bootBuiltins "len" = some (.builtin "len") := by decide +kernel
theorem bt_all : bootBuiltins "all" = some (.builtin "all") := by decide +kernel
theorem bt_any : bootBuiltins "any" = some (.builtin "any") := by decide +kernel
theorem bt_max : bootBuiltins "max" = some (.builtin "max") := by decide +kernel
theorem bt_isinstance : bootBuiltins "isinstance" = some (.builtin "isinstance") := by decide +kernel
theorem bt_str : bootBuiltins "str" = some (.type "str") := by decide +kernel
theorem bt_int : bootBuiltins "int" = some (.type "int") := by decide +kernel
theorem bt_bool : bootBuiltins "bool" = some (.type "bool") := by decide +kernel
theorem bt_tuple : bootBuiltins "tuple" = some (.type "tuple") := by decide +kernel
theorem bt_list : bootBuiltins "list" = some (.type "list") := by decide +kernel
theorem bt_dict : bootBuiltins "dict" = some (.type "dict") := by decide +kernel
theorem any_ints {prog : Program} {w : World} {A : Around} {ns : List Int} : ∀ {its : List Value}, IntsAre its ns → TruthOf prog w A (fun i v => its.toArray[i]? = some v) (fun i => (ns.map (· != 0)).getD i false) := fun {its} hi i v s Q E hv hq => by
  have hv' : its[i]? = some v := by simpa using hv
  obtain ⟨n, t, rfl, hn⟩ : ∃ n t, v = .int n t ∧ ns[i]? = some n := by
    clear hq hv
    induction hi generalizing i with
    | nil => cases hv'
    | cons n t h ih =>
      cases i with
      | zero => cases hv'; exact ⟨n, t, rfl, rfl⟩
      | succ i => exact ih i hv'
  have hg : (ns.map (· != 0)).getD i false = (n != 0) := by rw [List.getD_eq_getElem?_getD, List.getElem?_map, hn] <;> rfl
  have hq' : Q ((ns.map (· != 0)).getD i false) s := hq
  rw [hg] at hq'
  exact PySem.P.truthy_int hq'
theorem cr_anyI (hc : X.calm = true) : CallR X (.builtin "any") (rAnyI X.K) := by
  intro pins s σ H vs us Q I r h
  obtain ⟨a, ns, rfl, hs, q⟩ := h
  obtain ⟨its, rv, hl, _⟩ := I.list hs
  rw [Vals.ref1 r]
  have hb := any_ints (prog := X.prog) (w := X.w) (A := X.A.in1) (Vals.ints rv)
  have hlen : its.length = ns.length := by have := rv.length; rw [List.length_map] at this; exact this.symm
  refine call_any_walk (iter_any hl.isList fun s₂ e2 st hne => ?_)
  subst e2
  refine ⟨_, _, _, _, _, _, _, rfl, Walks.list (A := X.A.in1) (I.ok.hd hc) _ a hne its.toArray, st, hb, fun h' tk hk => ?_⟩
  refine ⟨.bl _, H, I.kept fun b o eo => hk b o (fun hmem => ?_) (Heap.get?_push_of_some _ eo), ?_, q⟩
  · rcases List.mem_cons.mp hmem with e1 | hmem
    · exact absurd (e1 ▸ Heap.lt_size eo) (Nat.lt_irrefl _)
    · cases hmem
  · show Value.bool _ = Value.bool _
    have e1 : its.toArray.size = (ns.map (· != 0)).length := by rw [List.size_toArray, hlen, List.length_map]
    rw [e1, L2.any_range, List.any_map]
    rfl
theorem Q_len (hm : X.mg "len" = none) (ha : PE X a (denE (cnX X cls sp) ra)) (hg : Gl X "len" := by rfl) (he : starEach [a] X.env = (false, eval a X.env) :: starEach [] X.env := by rfl) : PE X (.Call (.Name "len" p) [a] [] pos) (denE (cnX X cls sp) (.app oLen (.cons ra .nil))) :=
  pe_callB call_len hg hm bt_len (pa_cons ha pa_nil he) (by decide) (by decide) he rfl
theorem Q_str1 (hm : X.mg "str" = none) (ha : PE X a (denE (cnX X cls sp) ra)) (hg : Gl X "str" := by rfl) (he : starEach [a] X.env = (false, eval a X.env) :: starEach [] X.env := by rfl) : PE X (.Call (.Name "str" p) [a] [] pos) (denE (cnX X cls sp) (.app oStr (.cons ra .nil))) :=
  pe_callTy call_str_int hg hm bt_str (pa_cons ha pa_nil he) (by decide) (by decide) he rfl
theorem Q_int1 (hm : X.mg "int" = none) (ha : PE X a (denE (cnX X cls sp) ra)) (hg : Gl X "int" := by rfl) (he : starEach [a] X.env = (false, eval a X.env) :: starEach [] X.env := by rfl) : PE X (.Call (.Name "int" p) [a] [] pos) (denE (cnX X cls sp) (.app oInt (.cons ra .nil))) :=
  pe_callTy (CallR.or call_int1 call_int_str) hg hm bt_int (pa_cons ha pa_nil he) (by decide) (by decide) he rfl
theorem Q_tuple1 (hm : X.mg "tuple" = none) (ha : PE X a (denE (cnX X cls sp) ra)) (hg : Gl X "tuple" := by rfl) (he : starEach [a] X.env = (false, eval a X.env) :: starEach [] X.env := by rfl) : PE X (.Call (.Name "tuple" p) [a] [] pos) (denE (cnX X cls sp) (.app oTup (.cons ra .nil))) :=
  pe_callTy call_tuple_of hg hm bt_tuple (pa_cons ha pa_nil he) (by decide) (by decide) he rfl
theorem Q_list1 (bx : Bool) (hm : X.mg "list" = none) (ha : PE X a (denE (cnX X cls sp) ra)) (hg : Gl X "list" := by rfl) (he : starEach [a] X.env = (false, eval a X.env) :: starEach [] X.env := by rfl) : PE X (.Call (.Name "list" p) [a] [] pos) (denE (cnX X cls sp) (.app (oLst bx) (.cons ra .nil))) :=
  pe_callTy call_list_of hg hm bt_list (pa_cons ha pa_nil he) (by decide) (by decide) he rfl
theorem Q_all (hc : X.calm = true) (hm : X.mg "all" = none) (ha : PE X a (denE (cnX X cls sp) ra)) (hg : Gl X "all" := by rfl) (he : starEach [a] X.env = (false, eval a X.env) :: starEach [] X.env := by rfl) : PE X (.Call (.Name "all" p) [a] [] pos) (denE (cnX X cls sp) (.app oAll (.cons ra .nil))) :=
  pe_callB (cr_all hc) hg hm bt_all (pa_cons ha pa_nil he) (by decide) (by decide) he rfl
theorem Q_any (hc : X.calm = true) (hm : X.mg "any" = none) (ha : PE X a (denE (cnX X cls sp) ra)) (hg : Gl X "any" := by rfl) (he : starEach [a] X.env = (false, eval a X.env) :: starEach [] X.env := by rfl) : PE X (.Call (.Name "any" p) [a] [] pos) (denE (cnX X cls sp) (.app oAny (.cons ra .nil))) :=
  pe_callB (CallR.or (cr_any hc) (cr_anyI hc)) hg hm bt_any (pa_cons ha pa_nil he) (by decide) (by decide) he rfl
theorem Q_max (hc : X.calm = true) (hm : X.mg "max" = none) (ha : PE X a (denE (cnX X cls sp) ra)) (hg : Gl X "max" := by rfl) (he : starEach [a] X.env = (false, eval a X.env) :: starEach [] X.env := by rfl) : PE X (.Call (.Name "max" p) [a] [] pos) (denE (cnX X cls sp) (.app oMax (.cons ra .nil))) :=
  pe_callB (cr_max hc) hg hm bt_max (pa_cons ha pa_nil he) (by decide) (by decide) he rfl
/-- isinstance(a, T) -/
theorem Q_isi {T : Str} (U : String) (hm : X.mg "isinstance" = none) (hT : X.mg T = none) (bT : bootBuiltins T = some (.type U)) (ha : PE X a (denE (cnX X cls sp) ra)) (hg : Gl X "isinstance" := by rfl) (hgT : Gl X T := by rfl) (hn : T ≠ "__name__" := by decide) (hd : (T == ("__debug__" : Str)) = false := by decide)
    (he : starEach [a, .Name T p2] X.env = (false, eval a X.env) :: starEach [.Name T p2] X.env := by rfl) : PE X (.Call (.Name "isinstance" p) [a, .Name T p2] [] pos) (denE (cnX X cls sp) (.app (oIsi U) (.cons ra .nil))) :=
  (pe_callB (t := tCons (denE (cnX X cls sp) ra) (tCons (tC (.ty U)) tNil)) call_isi hg hm bt_isinstance (pa_cons ha (pa_cons (pe_bltn (v := .ty U) hgT hT bT rfl hn hd) pa_nil rfl) he) (by decide) (by decide) he rfl :)
/-- tuple(range(n)) -/
theorem Q_tupR {p3 : Pos} (hc : X.calm = true) (hm : X.mg "tuple" = none) (hr : X.mg "range" = none) (ha : PE X a (denE (cnX X cls sp) ra)) (hg : Gl X "tuple" := by rfl) (hgr : Gl X "range" := by rfl) (na : starEach [a] X.env = (false, eval a X.env) :: starEach [] X.env := by rfl)
    : PE X (.Call (.Name "tuple" p) [.Call (.Name "range" p2) [a] [] p3] [] pos) (denE (cnX X cls sp) (.app oTupR (.cons ra .nil))) := by
  exact pe_tupRg (p := p) (pos := pos) hc hg hm (prg_1 (p := p2) (pos := p3) hgr hr ha na) rfl

theorem mLstrip_ok : MtR X "str.lstrip" (mLstrip.rd X.K) := by
  intro pins s σ H x xs v us Q I rx rs h
  obtain ⟨a, b, rfl, rfl, c, q⟩ := h
  exact mt_lstripChars pins s σ H _ _ v us Q I rx rs ⟨a, b, rfl, rfl, of_decide_eq_true c, q⟩
/-! ### calls of defs, methods -/
abbrev Good (Pg : Program) (w : World) (K : PySem.W.Frag) (mg : Str → Option Value) (base : Heap) (j : Nat) (f : Addr) (ps : List Str) (s : Sp) : Prop := ∃ fd, FnOk Pg w K mg base CX0 j f fd ps s ∧ Binds K fd ps []
theorem Q_call {fi j : Nat} {f : Addr} {ps : List Str} (G : Good X.prog X.w X.K X.mg X.base j f ps (sp fi)) (hr : Room j X.A) (hm : X.mg x = some (.ref f)) (hk : PySem.W.keepIn X.K (.ref f) = true) (ha : PA X (e :: es) (denL (cnX X cls sp) rl)) (hg : Gl X x := by rfl) (hdb : (x == ("__debug__" : Str)) = false := by decide)
    (he : starEach (e :: es) X.env = (false, eval e X.env) :: starEach es X.env := by rfl) (hpl : (backTo pos (starEach es X.env)).any (·.1) = false := by rfl) : PE X (.Call (.Name x p) (e :: es) [] pos) (denE (cnX X cls sp) (.call fi rl)) :=
  let ⟨_, F, b⟩ := G
  pe_call F hr hg hm hk b .nil pass0 ha hdb he hpl
theorem Q_call0 {fi j : Nat} {f : Addr} {ps : List Str} (G : Good X.prog X.w X.K X.mg X.base j f ps (sp fi)) (hr : Room j X.A) (hm : X.mg x = some (.ref f)) (hk : PySem.W.keepIn X.K (.ref f) = true) (hg : Gl X x := by rfl) (hdb : (x == ("__debug__" : Str)) = false := by decide)
    : PE X (.Call (.Name x p) [] [] pos) (denE (cnX X cls sp) (.call fi .nil)) :=
  let ⟨_, F, b⟩ := G
  pe_call0 F hr hg hm hk b .nil pass0 hdb
variable {apos : Pos} {o : Expr} {ro : RE} {m : Str}
theorem Q_meth {pl : Sem Bool} {ci fi j : Nat} {f : Addr} {ps : List Str} (c : Cls X.K (cls ci)) (hm : Meth X.K (cls ci) m f) (G : Good X.prog X.w X.K X.mg X.base j f ps (sp fi)) (hr : Room j X.A) (he : PE X o (denE (cnX X cls sp) ro)) (ha : PA X (e :: es) (denL (cnX X cls sp) rl))
    (hst : starEach (e :: es) X.env = (false, eval e X.env) :: starEach es X.env := by rfl) (hpl : (backTo pos (starEach es X.env)).any (·.1) = false := by rfl)
    (ht : eval (.Call (.Attribute o m apos) (e :: es) [] pos) X.env = (do
      let ov ← eval o X.env
      standAt apos.atName
      let (f, first) ← holding [ov] (getMethod ov m pl)
      callWith pos f first (backTo pos (starEach (e :: es) X.env)) (backToKw pos (keywordEach [] X.env))) := by rfl) :
    PE X (.Call (.Attribute o m apos) (e :: es) [] pos) (denE (cnX X cls sp) (.mth ci m fi ro rl)) :=
  let ⟨_, F, b⟩ := G
  pe_meth (pl := pl) he c hm F hr b .nil pass0 ha hst hpl ht
theorem Q_meth0 {pl : Sem Bool} {ci fi j : Nat} {f : Addr} {ps : List Str} (c : Cls X.K (cls ci)) (hm : Meth X.K (cls ci) m f) (G : Good X.prog X.w X.K X.mg X.base j f ps (sp fi)) (hr : Room j X.A) (he : PE X o (denE (cnX X cls sp) ro))
    (ht : eval (.Call (.Attribute o m apos) [] [] pos) X.env = (do
      let ov ← eval o X.env
      standAt apos.atName
      let (f, first) ← holding [ov] (getMethod ov m pl)
      callWith pos f first (backTo pos (starEach [] X.env)) (backToKw pos (keywordEach [] X.env))) := by rfl) :
    PE X (.Call (.Attribute o m apos) [] [] pos) (denE (cnX X cls sp) (.mth ci m fi ro .nil)) :=
  let ⟨_, F, b⟩ := G
  pe_meth0 (pl := pl) he c hm F hr b .nil pass0 ht
theorem Q_new {ci fi j : Nat} {f : Addr} {ps : List Str} (M : Mk X.K (cls ci) f) (G : Good X.prog X.w X.K X.mg X.base j f ps (sp fi)) (hr : Room (j + 1) X.A) (hm : X.mg x = some (.ref (cls ci))) (ha : PA X (e :: es) (denL (cnX X cls sp) rl)) (hg : Gl X x := by rfl) (hdb : (x == ("__debug__" : Str)) = false := by decide)
    (he : starEach (e :: es) X.env = (false, eval e X.env) :: starEach es X.env := by rfl) (hpl : (backTo pos (starEach es X.env)).any (·.1) = false := by rfl) : PE X (.Call (.Name x p) (e :: es) [] pos) (denE (cnX X cls sp) (.new ci fi rl)) :=
  let ⟨_, F, b⟩ := G
  pe_make M F hr hg hm b .nil pass0 ha hdb he hpl
theorem Q_fld (ci : Nat) (he : PE X o (denE (cnX X cls sp) ro)) (hb : attributeBase o m X.env (eval o X.env) = eval o X.env := by rfl) : PE X (.Attribute o m pos) (denE (cnX X cls sp) (.fld ci ro m)) := pe_fld he hb
theorem Q_bm {id : String} (mt : Mt) (pa : PlainAttrs mt.T) (slot : Slot mt.T m id) (hty : typeOf (.builtin id) = pure (.type "method_descriptor")) (hm : MtR X id (mt.rd X.K)) (ho : PE X o (denE (cnX X cls sp) ro)) (ha : PA X (e :: es) (denL (cnX X cls sp) rl))
    (hbase : attributeBase o m X.env (eval o X.env) = eval o X.env := by rfl)
    (hfew : ((backTo pos (starEach (e :: es) X.env)).all (fun x => !x.1) && (backToKw pos (keywordEach [] X.env)).all (fun x => x.1.isSome)
      && decide ((e :: es).length + ([] : List Keyword).length + (if ([] : List Keyword).isEmpty then 0 else 1) < 30)) = true := by rfl)
    (hline : (apos.endLine == pos.line) = true := by rfl) (he : starEach (e :: es) X.env = (false, eval e X.env) :: starEach es X.env := by rfl) (hpl : (backTo pos (starEach es X.env)).any (·.1) = false := by rfl) :
    PE X (.Call (.Attribute o m apos) (e :: es) [] pos) (denE (cnX X cls sp) (.bm mt ro rl)) := pe_bm pa slot hty hm ho ha hbase hfew hline he hpl
theorem Q_bm0 {id : String} (mt : Mt) (pa : PlainAttrs mt.T) (slot : Slot mt.T m id) (hty : typeOf (.builtin id) = pure (.type "method_descriptor")) (hm : MtR X id (mt.rd X.K)) (ho : PE X o (denE (cnX X cls sp) ro))
    (hbase : attributeBase o m X.env (eval o X.env) = eval o X.env := by rfl) (hline : (apos.endLine == pos.line) = true := by rfl) :
    PE X (.Call (.Attribute o m apos) [] [] pos) (denE (cnX X cls sp) (.bm mt ro .nil)) := pe_bm0 pa slot hty hm ho hbase hline
theorem Q_frz (he : PE X e (denE (cnX X cls sp) ra)) : PE X e (denE (cnX X cls sp) (.frz ra)) := he
/-! ### targets, what is walked, comprehensions -/
variable {tg : Expr} {rg : RG} {gs : List RG}
theorem G_nm (i : Nat) (hN : X.N.Nodup) (hi : X.N[i]? = some x := by rfl) (hx : Loc X.env.scope x := by first | exact Or.inl rfl | exact Or.inr rfl) (hf : X.fn x = true ∨ X.env.scope.names.lookup x = some .local := by first | exact .inl rfl | exact .inr rfl) : PG X (.Name x pos) (denG (cnX X cls sp) (.nm i)) := pg_name hN hi hx hf
theorem G_nil : PGs X [] (denGs (cnX X cls sp) []) := pgs_nil
theorem G_cons (h1 : PG X e (denG (cnX X cls sp) rg)) (h2 : PGs X es (denGs (cnX X cls sp) gs)) (hs : (assignEach (e :: es) X.env).map (·.2) = assign e X.env :: (assignEach es X.env).map (·.2) := by rfl) : PGs X (e :: es) (denGs (cnX X cls sp) (rg :: gs)) := pgs_cons h1 h2 hs
theorem G_tup {k : Nat} (hc : X.calm = true) (h : PGs X es (denGs (cnX X cls sp) gs)) (hn : (assignEach es X.env).length = gs.length := by rfl) (hst : (assignEach es X.env).findIdx? (·.1) = none := by rfl) : PG X (.Tuple es k pos) (denG (cnX X cls sp) (.tup gs)) := pg_tup hc h hn hst
theorem G_unl {k : Nat} (hc : X.calm = true) (h : PGs X es (denGs (cnX X cls sp) gs)) (hn : (assignEach es X.env).length = gs.length := by rfl) (hst : (assignEach es X.env).findIdx? (·.1) = none := by rfl) : PG X (.Tuple es k pos) (denG (cnX X cls sp) (.unl gs)) := pg_unl hc h hn hst
abbrev denI (c : Cn) (it : Ito) (rl : RL) : TI := fun σ H R => denL c rl σ H fun xs H1 => it.rd c.K xs H1 R
theorem I_list (ha : PE X a (denE (cnX X cls sp) ra)) : PI X tg a (denI (cnX X cls sp) itL (.cons ra .nil)) := pi_list ha
theorem I_tup (ha : PE X a (denE (cnX X cls sp) ra)) : PI X tg a (denI (cnX X cls sp) itT (.cons ra .nil)) := pi_tup ha
theorem I_str (ha : PE X a (denE (cnX X cls sp) ra)) : PI X tg a (denI (cnX X cls sp) itS (.cons ra .nil)) := pi_str ha
theorem I_r1 (hm : X.mg "range" = none) (ha : PE X a (denE (cnX X cls sp) ra)) (hg : Gl X "range" := by rfl) (he : starEach [a] X.env = (false, eval a X.env) :: starEach [] X.env := by rfl) : PI X tg (.Call (.Name "range" p) [a] [] pos) (denI (cnX X cls sp) itR1 (.cons ra .nil)) :=
  pi_range1 hg hm (pa_cons ha pa_nil he) he
theorem I_r2 (hm : X.mg "range" = none) (ha : PE X a (denE (cnX X cls sp) ra)) (hb : PE X b (denE (cnX X cls sp) rb)) (hg : Gl X "range" := by rfl) (he : starEach [a, b] X.env = (false, eval a X.env) :: starEach [b] X.env := by rfl) (he2 : starEach [b] X.env = (false, eval b X.env) :: starEach [] X.env := by rfl) :
    PI X tg (.Call (.Name "range" p) [a, b] [] pos) (denI (cnX X cls sp) itR2 (.cons ra (.cons rb .nil))) := pi_range2 hg hm (pa_cons ha (pa_cons hb pa_nil he2) he) (by rw [he, he2]; rfl) he2
theorem I_r3 (hm : X.mg "range" = none) (ha : PE X a (denE (cnX X cls sp) ra)) (hb : PE X b (denE (cnX X cls sp) rb)) (hc : PE X c (denE (cnX X cls sp) rc)) (hg : Gl X "range" := by rfl) (he : starEach [a, b, c] X.env = (false, eval a X.env) :: starEach [b, c] X.env := by rfl) (he2 : starEach [b, c] X.env = (false, eval b X.env) :: starEach [c] X.env := by rfl)
    (he3 : starEach [c] X.env = (false, eval c X.env) :: starEach [] X.env := by rfl) (hpl : (backTo pos (starEach [b, c] X.env)).any (·.1) = false := by rfl) :
    PI X tg (.Call (.Name "range" p) [a, b, c] [] pos) (denI (cnX X cls sp) itR3 (.cons ra (.cons rb (.cons rc .nil)))) := pi_range3 hg hm (pa_cons ha (pa_cons hb (pa_cons hc pa_nil he3) he2) he) he hpl
theorem I_enum {k : Nat} {tpos : Pos} {elts : List Expr} (hm : X.mg "enumerate" = none) (ha : PE X a (denE (cnX X cls sp) ra)) (hg : Gl X "enumerate" := by rfl) (he : starEach [a] X.env = (false, eval a X.env) :: starEach [] X.env := by rfl) :
    PI X (.Tuple elts k tpos) (.Call (.Name "enumerate" p) [a] [] pos) (denI (cnX X cls sp) itEn (.cons ra .nil)) := pi_enum hg hm (pa_cons ha pa_nil he) he
theorem Q_tyes : PTs X [] (denT (cnX X cls sp) .yes) := pts_nil
theorem Q_tone (h : PT X c (denT (cnX X cls sp) ta)) : PTs X [c] (denT (cnX X cls sp) ta) := pts_one h
theorem Q_lc (bx : Bool) {elt tg iter : Expr} {ifs : List Expr} {scope : Scope} {own : List (Str × Nat)} {it : Ito} {ia : RL} (hc : X.calm = true) (hN : X.N.Nodup) (hi : PI X tg iter (denI (cnX X cls sp) it ia)) (ok : BlkOk X.N X.env.scope scope own)
    (hg : ∀ (s : Shared) (H : Hp) (C : Addr) (cl : List (Str × Addr)) (fp : List Addr), PG (X.blk s H scope (compEnvC scope cl C X.env) fp) tg (denG (cnX X cls sp) rg))
    (ht : ∀ (s : Shared) (H : Hp) (C : Addr) (cl : List (Str × Addr)) (fp : List Addr), PTs (X.blk s H scope (compEnvC scope cl C X.env) fp) ifs (denT (cnX X cls sp) ta))
    (he : ∀ (s : Shared) (H : Hp) (C : Addr) (cl : List (Str × Addr)) (fp : List Addr), PE (X.blk s H scope (compEnvC scope cl C X.env) fp) elt (denE (cnX X cls sp) ra)) (hs : ∀ x, foldedSetIterable iter X.env x = pure x := by intro _; rfl) :
    PE X (.ListComp elt [⟨tg, iter, ifs, 0⟩] scope pos) (denE (cnX X cls sp) (.lc bx (own.map (·.2)) it ia rg ta ra)) := pe_lc hc hN hi ok hg ht he hs
/-! ### statements -/
variable {st : Stmt} {sts body : List Stmt} {sa sb : RS}
theorem S_nil : PSs X [] (denS (cnX X cls sp) .nx) := pss_nil
theorem S_cons (h1 : PS X st (denS (cnX X cls sp) sa)) (h2 : PSs X sts (denS (cnX X cls sp) sb)) : PSs X (st :: sts) (denS (cnX X cls sp) (.seq sa sb)) := pss_cons h1 h2
theorem S_one (h1 : PS X st (denS (cnX X cls sp) sa)) : PSs X [st] (denS (cnX X cls sp) sa) := pss_one h1
theorem S_gz (i : Nat) (h1 : PSs X sts (denS (cnX X cls sp) sa)) : PSs X sts (denS (cnX X cls sp) (.gz i sa)) := h1
theorem S_set (i : Nat) {p' : Pos} (hN : X.N.Nodup) (he : PE X e (denE (cnX X cls sp) ra)) (hi : X.N[i]? = some x := by rfl) (hx : Loc X.env.scope x := by first | exact Or.inl rfl | exact Or.inr rfl) (hs : swapsWith e (some (.Name x p')) pos.line X.env = pure false := by rfl)
    (hf : X.fn x = true ∨ X.env.scope.names.lookup x = some .local := by first | exact .inl rfl | exact .inr rfl) : PS X (.Assign [.Name x p'] e pos) (denS (cnX X cls sp) (.asg (.nm i) ra)) := ps_set hN hi hx he hs hf
theorem S_asg (he : PE X e (denE (cnX X cls sp) ra)) (hg : PG X tg (denG (cnX X cls sp) rg)) (hs : swapsWithSole [tg] e pos.line X.env = pure false := by rfl) (hw : swappedStores [tg] e X.env = pure none := by rfl)
    (h1 : (assignEach [tg] X.env).map (·.2) = [assign tg X.env] := by rfl) : PS X (.Assign [tg] e pos) (denS (cnX X cls sp) (.asg rg ra)) := ps_asg he hg hs hw h1
theorem S_setLc (i : Nat) (bx : Bool) {y : Str} {py spos : Pos} {elt tg iter : Expr} {ifs : List Expr} {scope : Scope} {own : List (Str × Nat)} {it : Ito} {ia : RL} (hc : X.calm = true) (hN : X.N.Nodup) (hi : PI X tg iter (denI (cnX X cls sp) it ia)) (ok : BlkOk X.N X.env.scope scope own)
    (hg : ∀ (s : Shared) (H : Hp) (C : Addr) (cl : List (Str × Addr)) (fp : List Addr), PG (X.blk s H scope (compEnvC scope cl C X.env) fp) tg (denG (cnX X cls sp) rg))
    (ht : ∀ (s : Shared) (H : Hp) (C : Addr) (cl : List (Str × Addr)) (fp : List Addr), PTs (X.blk s H scope (compEnvC scope cl C X.env) fp) ifs (denT (cnX X cls sp) ta))
    (he : ∀ (s : Shared) (H : Hp) (C : Addr) (cl : List (Str × Addr)) (fp : List Addr), PE (X.blk s H scope (compEnvC scope cl C X.env) fp) elt (denE (cnX X cls sp) ra)) (hs : ∀ x, foldedSetIterable iter X.env x = pure x := by intro _; rfl)
    (hy : X.N[i]? = some y := by rfl) (hyl : X.env.scope.names.lookup y = some .local := by rfl)
    (hsw : swapsWith (.ListComp elt [⟨tg, iter, ifs, 0⟩] scope pos) (some (.Name y py)) spos.line X.env = pure true := by exact sw_true rfl rfl rfl (by decide +kernel)) :
    PS X (.Assign [.Name y py] (.ListComp elt [⟨tg, iter, ifs, 0⟩] scope pos) spos) (denS (cnX X cls sp) (.asg (.nm i) (.lc bx (own.map (·.2)) it ia rg ta ra))) := ps_setLc hc hN hy hyl hsw hi ok hg ht he hs
variable {i : Expr} {ri : RE}
theorem S_setI {p' : Pos} (he : PE X e (denE (cnX X cls sp) ra)) (ho : PE X o (denE (cnX X cls sp) ro)) (hi : PE X i (denE (cnX X cls sp) ri))
    (ha : ∀ v, assign (.Subscript o i p') X.env v = (do let ov ← holding [v] (eval o X.env); let iv ← holding [v, ov] (eval i X.env); standAt p'; holding [v, ov, iv] (setItem ov iv v); release [v, ov, iv] []) := by intro _; rfl)
    (hs : swapsWithSole [.Subscript o i p'] e pos.line X.env = pure false := by rfl) (hw : swappedStores [.Subscript o i p'] e X.env = pure none := by rfl)
    (h1 : (assignEach [.Subscript o i p'] X.env).map (·.2) = [assign (.Subscript o i p') X.env] := by rfl) : PS X (.Assign [.Subscript o i p'] e pos) (denS (cnX X cls sp) (.setI ro ri ra)) := ps_asg he (pg_sub ho hi set_list ha) hs hw h1
theorem S_setF (ci : Nat) {p' : Pos} (he : PE X e (denE (cnX X cls sp) ra)) (ho : PE X o (denE (cnX X cls sp) ro)) (hs : swapsWith e (some (.Attribute o m p')) pos.line X.env = pure false := by rfl) : PS X (.Assign [.Attribute o m p'] e pos) (denS (cnX X cls sp) (.setF ci ro m ra)) := ps_fld ho he hs
theorem S_expr (he : PE X e (denE (cnX X cls sp) ra)) (hs : swapsWith e none pos.line X.env = pure false := by rfl) : PS X (.Expr e pos) (denS (cnX X cls sp) (.drop ra)) := ps_expr he hs
theorem S_ret (he : PE X e (denE (cnX X cls sp) ra)) : PS X (.Return (some e) pos) (denS (cnX X cls sp) (.ret ra)) := ps_ret he
theorem S_retN : PS X (.Return none pos) (denS (cnX X cls sp) .retN) := ps_retN
theorem S_if (hc : PT X c (denT (cnX X cls sp) ta)) (ha : PSs X body (denS (cnX X cls sp) sa)) (hb : PSs X sts (denS (cnX X cls sp) sb)) : PS X (.If c body sts pos) (denS (cnX X cls sp) (.ifs ta sa sb)) := ps_if hc ha hb
theorem S_while (hp : PassesOwn (model X.prog X.w) X.A X.env X.xe) (hc : PT X c (denT (cnX X cls sp) ta)) (hb : PSs X body (denS (cnX X cls sp) sa)) : PS X (.While c body [] pos) (denS (cnX X cls sp) (.whil ta sa)) := ps_while hp hc hb
theorem S_for {it : Ito} {ia : RL} (hp : PassesOwn (model X.prog X.w) X.A X.env X.xe) (hc : X.calm = true) (hi : PI X tg e (denI (cnX X cls sp) it ia)) (hg : PG X tg (denG (cnX X cls sp) rg)) (hb : PSs X body (denS (cnX X cls sp) sa)) (hs : ∀ x, foldedSetIterable e X.env x = pure x := by intro _; rfl) :
    PS X (.For tg e body [] pos) (denS (cnX X cls sp) (.forr it ia rg sa)) := ps_for hp hc hi hg hb hs
theorem S_brk : PS X (.Break pos) (denS (cnX X cls sp) .brk) := ps_break
theorem S_cnt : PS X (.Continue pos) (denS (cnX X cls sp) .cnt) := ps_continue
theorem S_pass : PS X (.Pass pos) (denS (cnX X cls sp) .nx) := ps_pass
theorem S_never : PSs X sts (denS (cnX X cls sp) .never) := pss_never
end
end EV

namespace K54
open PySem PySem.Spec PyProof.Rows L2 EV

def c_SIGNS : Str := "0123456789abcdefghijklmnopqrstuvwxyzABCDEFGHIJKLMNOPQRSTUVWXYZ-\"(),. /:+\n"
def c_DIGITS : Str := "0123456789"
/-- signs_of(value): value 0, told 1, one 2 -/
def R_signs_of : RS := (.seq (.ifs (.tr tTr (.app (oIsi "str") (.cons (.var 0) .nil))) (.ret (.app (oAdd false) (.cons (.app (oAdd false) (.cons (.cst (.str "\"")) (.cons (.var 0) .nil))) (.cons (.cst (.str "\"")) .nil)))) .nx) (.seq (.ifs (.tr tTr (.app (oIsi "int") (.cons (.var 0) .nil))) (.ret (.app oStr (.cons (.var 0) .nil))) .nx) (.seq (.asg (.nm 1) (.bm mJoin (.cst (.str ",")) (.cons (.lc false [2] itT (.cons (.var 0) .nil) (.nm 2) .yes (.call 0 (.cons (.var 2) .nil))) .nil))) (.ret (.app (oAdd false) (.cons (.app (oAdd false) (.cons (.cst (.str "(")) (.cons (.var 1) .nil))) (.cons (.ifx (.bv (.app (oEq false) (.cons (.app oLen (.cons (.var 0) .nil)) (.cons (.cst (.int 1)) .nil)))) (.cst (.str ",)")) (.cst (.str ")"))) .nil)))))))
/-- is_plain(value): value 0, one 1, sign 2 -/
def R_is_plain : RS := (.seq (.ifs (.tr tTr (.app (oIsi "tuple") (.cons (.var 0) .nil))) (.ret (.app oAll (.cons (.lc false [1] itT (.cons (.var 0) .nil) (.nm 1) .yes (.call 1 (.cons (.var 1) .nil))) .nil))) .nx) (.seq (.ifs (.tr tTr (.app (oIsi "str") (.cons (.var 0) .nil))) (.ret (.app oAll (.cons (.lc false [2] itS (.cons (.var 0) .nil) (.nm 2) .yes (.andV (.app (oIn false) (.cons (.var 2) (.cons (.cst (.str c_SIGNS)) .nil))) (.app (oEq true) (.cons (.var 2) (.cons (.cst (.str "\"")) .nil))))) .nil))) .nx) (.ret (.andV (.app (oIsi "int") (.cons (.var 0) .nil)) (.app oNot (.cons (.app (oIsi "bool") (.cons (.var 0) .nil)) .nil))))))
/-- Reader.__init__(self, text): self 0, text 1 -/
def R_Readeru__initu_ : RS := (.seq (.setF 0 (.var 0) "text" (.var 1)) (.setF 0 (.var 0) "at" (.cst (.int 0))))
/-- Reader.next_sign(self): self 0 -/
def R_Reader_next_sign : RS := (.ret (.sl (sSl false) (.fld 0 (.var 0) "text") (.so (.fld 0 (.var 0) "at")) (.so (.app (oAdd false) (.cons (.fld 0 (.var 0) "at") (.cons (.cst (.int 1)) .nil))))))
/-- Reader.integer(self): self 0, first 1, word 2, digits 3 -/
def R_Reader_integer : RS := (.seq (.asg (.nm 1) (.fld 0 (.var 0) "at")) (.seq (.ifs (.bv (.app (oEq false) (.cons (.mth 0 "next_sign" 3 (.var 0) .nil) (.cons (.cst (.str "-")) .nil)))) (.setF 0 (.var 0) "at" (.app (oAdd false) (.cons (.fld 0 (.var 0) "at") (.cons (.cst (.int 1)) .nil)))) .nx) (.seq (.whil (.and (.bv (.app (oEq true) (.cons (.mth 0 "next_sign" 3 (.var 0) .nil) (.cons (.cst (.str "")) .nil)))) (.bv (.app (oIn false) (.cons (.mth 0 "next_sign" 3 (.var 0) .nil) (.cons (.cst (.str c_DIGITS)) .nil))))) (.setF 0 (.var 0) "at" (.app (oAdd false) (.cons (.fld 0 (.var 0) "at") (.cons (.cst (.int 1)) .nil))))) (.seq (.asg (.nm 2) (.sl (sSl false) (.fld 0 (.var 0) "text") (.so (.var 1)) (.so (.fld 0 (.var 0) "at")))) (.seq (.asg (.nm 3) (.bm mLstrip (.var 2) (.cons (.cst (.str "-")) .nil))) (.seq (.ifs (.or (.bv (.app (oEq false) (.cons (.var 3) (.cons (.cst (.str "")) .nil)))) (.and (.bv (.app (oEq false) (.cons (.app oIx (.cons (.var 3) (.cons (.cst (.int 0)) .nil))) (.cons (.cst (.str "0")) .nil)))) (.bv (.app (oEq true) (.cons (.var 2) (.cons (.cst (.str "0")) .nil)))))) (.ret (.cst .non)) .nx) (.ret (.app oInt (.cons (.var 2) .nil)))))))))
/-- Reader.string(self): self 0, end 1, found 2, sign 3 -/
def R_Reader_string : RS := (.seq (.asg (.nm 1) (.bm mFind3 (.fld 0 (.var 0) "text") (.cons (.cst (.str "\"")) (.cons (.app (oAdd false) (.cons (.fld 0 (.var 0) "at") (.cons (.cst (.int 1)) .nil))) .nil)))) (.seq (.ifs (.bv (.app oLt (.cons (.var 1) (.cons (.cst (.int 0)) .nil)))) (.ret (.cst .non)) .nx) (.seq (.asg (.nm 2) (.sl (sSl false) (.fld 0 (.var 0) "text") (.so (.app (oAdd false) (.cons (.fld 0 (.var 0) "at") (.cons (.cst (.int 1)) .nil)))) (.so (.var 1)))) (.seq (.setF 0 (.var 0) "at" (.app (oAdd false) (.cons (.var 1) (.cons (.cst (.int 1)) .nil)))) (.ret (.ifx (.tr tTr (.app oAll (.cons (.lc false [3] itS (.cons (.var 2) .nil) (.nm 3) .yes (.app (oIn false) (.cons (.var 3) (.cons (.cst (.str c_SIGNS)) .nil)))) .nil))) (.var 2) (.cst .non)))))))
/-- Reader.single(self): self 0 -/
def R_Reader_single : RS := (.ret (.ifx (.bv (.app (oEq false) (.cons (.mth 0 "next_sign" 3 (.var 0) .nil) (.cons (.cst (.str "\"")) .nil)))) (.mth 0 "string" 5 (.var 0) .nil) (.mth 0 "integer" 4 (.var 0) .nil)))
/-- Reader.closed(self, members): self 0, members 1 -/
def R_Reader_closed : RS := (.seq (.setF 0 (.var 0) "at" (.app (oAdd false) (.cons (.fld 0 (.var 0) "at") (.cons (.cst (.int 1)) .nil)))) (.ret (.app oTup (.cons (.bm mPop (.var 1) .nil) .nil))))
/-- Reader.ended(self, members, found): self 0, members 1, found 2 -/
def R_Reader_ended : RS := (.seq (.whil (.tr tTr (.var 1)) (.seq (.drop (.bm mAppend (.app oIx (.cons (.var 1) (.cons (.app oNeg (.cons (.cst (.int 1)) .nil)) .nil))) (.cons (.var 2) .nil))) (.seq (.ifs (.bv (.app (oEq false) (.cons (.mth 0 "next_sign" 3 (.var 0) .nil) (.cons (.cst (.str ",")) .nil)))) (.seq (.setF 0 (.var 0) "at" (.app (oAdd false) (.cons (.fld 0 (.var 0) "at") (.cons (.cst (.int 1)) .nil)))) (.ifs (.bv (.app (oEq true) (.cons (.mth 0 "next_sign" 3 (.var 0) .nil) (.cons (.cst (.str ")")) .nil)))) .brk .nx)) (.ifs (.bv (.app (oEq true) (.cons (.mth 0 "next_sign" 3 (.var 0) .nil) (.cons (.cst (.str ")")) .nil)))) (.ret (.cst .non)) .nx)) (.asg (.nm 2) (.mth 0 "closed" 7 (.var 0) (.cons (.var 1) .nil)))))) (.ret (.var 2)))
/-- Reader.value(self): self 0, members 1, found 2 -/
def R_Reader_value : RS := (.seq (.asg (.nm 1) (.app (oDisp true) .nil)) (.seq (.asg (.nm 2) (.cst .non)) (.seq (.whil (.or (.bv (.app (oIs false) (.cons (.var 2) (.cons (.cst .non) .nil)))) (.tr tTr (.var 1))) (.seq (.ifs (.bv (.app (oEq false) (.cons (.mth 0 "next_sign" 3 (.var 0) .nil) (.cons (.cst (.str "(")) .nil)))) (.seq (.setF 0 (.var 0) "at" (.app (oAdd false) (.cons (.fld 0 (.var 0) "at") (.cons (.cst (.int 1)) .nil)))) (.seq (.drop (.bm mAppend (.var 1) (.cons (.app (oDisp true) .nil) .nil))) (.seq (.ifs (.bv (.app (oEq true) (.cons (.mth 0 "next_sign" 3 (.var 0) .nil) (.cons (.cst (.str ")")) .nil)))) .cnt .nx) (.asg (.nm 2) (.mth 0 "closed" 7 (.var 0) (.cons (.var 1) .nil)))))) (.asg (.nm 2) (.mth 0 "single" 6 (.var 0) .nil))) (.seq (.asg (.nm 2) (.ifx (.bv (.app (oIs false) (.cons (.var 2) (.cons (.cst .non) .nil)))) (.cst .non) (.mth 0 "ended" 8 (.var 0) (.cons (.var 1) (.cons (.var 2) .nil))))) (.ifs (.bv (.app (oIs false) (.cons (.var 2) (.cons (.cst .non) .nil)))) (.ret (.cst .non)) .nx)))) (.ret (.var 2)))))
/-- value_of(text): text 0, reader 1, found 2 -/
def R_value_of : RS := (.seq (.asg (.nm 1) (.new 0 2 (.cons (.var 0) .nil))) (.seq (.asg (.nm 2) (.mth 0 "value" 9 (.var 1) .nil)) (.ret (.ifx (.and (.bv (.app (oIs true) (.cons (.var 2) (.cons (.cst .non) .nil)))) (.and (.bv (.app (oEq false) (.cons (.fld 0 (.var 1) "at") (.cons (.app oLen (.cons (.var 0) .nil)) .nil)))) (.bv (.app (oEq false) (.cons (.call 0 (.cons (.var 2) .nil)) (.cons (.var 0) .nil)))))) (.var 2) (.cst .non)))))
/-- sums(numbers): numbers 0, found 1, at 2, number 3, place 4 -/
def R_sums : RS := (.seq (.asg (.nm 1) (.app (oDisp true) (.cons (.cst (.int 0)) (.cons (.cst (.int 0)) (.cons (.cst (.int 0)) .nil))))) (.seq (.forr itEn (.cons (.var 0) .nil) (.tup [(.nm 2), (.nm 3)]) (.seq (.asg (.nm 4) (.app (oAdd false) (.cons (.var 2) (.cons (.cst (.int 1)) .nil)))) (.seq (.asg (.nm 1) (.app (oDisp true) (.cons (.app oMod (.cons (.app (oAdd false) (.cons (.app oIx (.cons (.var 1) (.cons (.cst (.int 0)) .nil))) (.cons (.var 3) .nil))) (.cons (.cst (.int 97)) .nil))) (.cons (.app oMod (.cons (.app (oAdd false) (.cons (.app oIx (.cons (.var 1) (.cons (.cst (.int 1)) .nil))) (.cons (.app (oMul false) (.cons (.var 4) (.cons (.var 3) .nil))) .nil))) (.cons (.cst (.int 97)) .nil))) (.cons (.app (oAdd false) (.cons (.app oIx (.cons (.var 1) (.cons (.cst (.int 2)) .nil))) (.cons (.app (oMul false) (.cons (.app (oMul false) (.cons (.var 4) (.cons (.var 4) .nil))) (.cons (.var 3) .nil))) .nil))) .nil))))) (.setI (.var 1) (.cst (.int 2)) (.app oMod (.cons (.app oIx (.cons (.var 1) (.cons (.cst (.int 2)) .nil))) (.cons (.cst (.int 97)) .nil))))))) (.ret (.frz (.var 1)))))
/-- inverse(number): number 0, other 1 -/
def R_inverse : RS := (.ret (.app oIx (.cons (.lc false [1] itR1 (.cons (.cst (.int 97)) .nil) (.nm 1) (.bv (.app (oEq false) (.cons (.app oMod (.cons (.app (oMul false) (.cons (.var 0) (.cons (.var 1) .nil))) (.cons (.cst (.int 97)) .nil))) (.cons (.cst (.int 1)) .nil)))) (.var 1)) (.cons (.cst (.int 0)) .nil))))
/-- line_of(number, signs): number 0, signs 1, told 2, zero 3, one 4, two 5, last 6, half 7, third 8, second 9, first 10 -/
def R_line_of : RS := (.seq (.asg (.nm 2) (.app (oAdd false) (.cons (.app (oDisp false) (.cons (.app oDiv (.cons (.var 0) (.cons (.cst (.int 97)) .nil))) (.cons (.app oMod (.cons (.var 0) (.cons (.cst (.int 97)) .nil))) .nil))) (.cons (.var 1) .nil)))) (.seq (.asg (.unl [(.nm 3), (.nm 4), (.nm 5)]) (.call 11 (.cons (.var 2) .nil))) (.seq (.asg (.nm 6) (.cst (.int 60))) (.seq (.asg (.nm 7) (.call 12 (.cons (.cst (.int 2)) .nil))) (.seq (.asg (.nm 8) (.app (oMul false) (.cons (.app (oAdd false) (.cons (.app oSub (.cons (.var 5) (.cons (.app (oMul false) (.cons (.app oSub (.cons (.app (oMul false) (.cons (.cst (.int 2)) (.cons (.var 6) .nil))) (.cons (.cst (.int 3)) .nil))) (.cons (.var 4) .nil))) .nil))) (.cons (.app (oMul false) (.cons (.app (oMul false) (.cons (.app oSub (.cons (.var 6) (.cons (.cst (.int 2)) .nil))) (.cons (.app oSub (.cons (.var 6) (.cons (.cst (.int 1)) .nil))) .nil))) (.cons (.var 3) .nil))) .nil))) (.cons (.var 7) .nil)))) (.seq (.asg (.nm 9) (.app (oAdd false) (.cons (.app oSub (.cons (.var 5) (.cons (.app (oMul false) (.cons (.app oSub (.cons (.app (oMul false) (.cons (.cst (.int 2)) (.cons (.var 6) .nil))) (.cons (.cst (.int 2)) .nil))) (.cons (.var 4) .nil))) .nil))) (.cons (.app (oMul false) (.cons (.app (oMul false) (.cons (.var 6) (.cons (.app oSub (.cons (.var 6) (.cons (.cst (.int 2)) .nil))) .nil))) (.cons (.var 3) .nil))) .nil)))) (.seq (.asg (.nm 10) (.app (oMul false) (.cons (.app (oAdd false) (.cons (.app oSub (.cons (.var 5) (.cons (.app (oMul false) (.cons (.app oSub (.cons (.app (oMul false) (.cons (.cst (.int 2)) (.cons (.var 6) .nil))) (.cons (.cst (.int 1)) .nil))) (.cons (.var 4) .nil))) .nil))) (.cons (.app (oMul false) (.cons (.app (oMul false) (.cons (.var 6) (.cons (.app oSub (.cons (.var 6) (.cons (.cst (.int 1)) .nil))) .nil))) (.cons (.var 3) .nil))) .nil))) (.cons (.var 7) .nil)))) (.ret (.app (oAdd false) (.cons (.var 2) (.cons (.app (oDisp false) (.cons (.app oMod (.cons (.app oNeg (.cons (.var 10) .nil)) (.cons (.cst (.int 97)) .nil))) (.cons (.app oMod (.cons (.var 9) (.cons (.cst (.int 97)) .nil))) (.cons (.app oMod (.cons (.app oNeg (.cons (.var 8) .nil)) (.cons (.cst (.int 97)) .nil))) .nil)))) .nil)))))))))))
/-- righted(numbers): numbers 0, zero 1, one 2, two 3, place 4, found 5 -/
def R_righted : RS := (.seq (.asg (.unl [(.nm 1), (.nm 2), (.nm 3)]) (.call 11 (.cons (.var 0) .nil))) (.seq (.ifs (.bv (.app (oEq false) (.cons (.app (oDisp false) (.cons (.var 1) (.cons (.var 2) (.cons (.var 3) .nil)))) (.cons (.app (oDisp false) (.cons (.cst (.int 0)) (.cons (.cst (.int 0)) (.cons (.cst (.int 0)) .nil)))) .nil)))) (.ret (.app (oLst false) (.cons (.var 0) .nil))) .nx) (.seq (.ifs (.bv (.app (oEq false) (.cons (.var 1) (.cons (.cst (.int 0)) .nil)))) (.ret (.cst .non)) .nx) (.seq (.asg (.nm 4) (.app oMod (.cons (.app (oMul false) (.cons (.var 2) (.cons (.call 12 (.cons (.var 1) .nil)) .nil))) (.cons (.cst (.int 97)) .nil)))) (.seq (.ifs (.or (.not (.bv (.chain oLe oLe (.cst (.int 1)) (.var 4) (.cst (.int 60))))) (.bv (.app (oEq true) (.cons (.var 3) (.cons (.app oMod (.cons (.app (oMul false) (.cons (.var 4) (.cons (.var 2) .nil))) (.cons (.cst (.int 97)) .nil))) .nil))))) (.ret (.cst .non)) .nx) (.seq (.asg (.nm 5) (.app (oLst true) (.cons (.var 0) .nil))) (.seq (.setI (.var 5) (.app oSub (.cons (.var 4) (.cons (.cst (.int 1)) .nil))) (.app oMod (.cons (.app oSub (.cons (.app oIx (.cons (.var 5) (.cons (.app oSub (.cons (.var 4) (.cons (.cst (.int 1)) .nil))) .nil))) (.cons (.var 1) .nil))) (.cons (.cst (.int 97)) .nil)))) (.ret (.frz (.var 5))))))))))
/-- written(numbers): numbers 0, number 1 -/
def R_written : RS := (.ret (.bm mJoin (.cst (.str "")) (.cons (.lc false [1] itL (.cons (.var 0) .nil) (.nm 1) .yes (.app (oAdd false) (.cons (.app oStr (.cons (.app oDiv (.cons (.var 1) (.cons (.cst (.int 10)) .nil))) .nil)) (.cons (.app oStr (.cons (.app oMod (.cons (.var 1) (.cons (.cst (.int 10)) .nil))) .nil)) .nil)))) .nil)))
/-- numbers_in(line): line 0, sign 1, found 2, at 3 -/
def R_numbers_in : RS := (.seq (.ifs (.or (.not (.tr tTr (.app (oIsi "str") (.cons (.var 0) .nil)))) (.or (.bv (.app (oEq true) (.cons (.app oLen (.cons (.var 0) .nil)) (.cons (.app (oMul false) (.cons (.cst (.int 2)) (.cons (.cst (.int 60)) .nil))) .nil)))) (.not (.tr tTr (.app oAll (.cons (.lc false [1] itS (.cons (.var 0) .nil) (.nm 1) .yes (.app (oIn false) (.cons (.var 1) (.cons (.cst (.str "0123456789")) .nil)))) .nil)))))) (.ret (.cst .non)) .nx) (.seq (.asg (.nm 2) (.lc false [3] itR3 (.cons (.cst (.int 0)) (.cons (.app (oMul false) (.cons (.cst (.int 2)) (.cons (.cst (.int 60)) .nil))) (.cons (.cst (.int 2)) .nil))) (.nm 3) .yes (.app oInt (.cons (.sl (sSl false) (.var 0) (.so (.var 3)) (.so (.app (oAdd false) (.cons (.var 3) (.cons (.cst (.int 2)) .nil))))) .nil)))) (.ret (.ifx (.bv (.app oLt (.cons (.app oMax (.cons (.var 2) .nil)) (.cons (.cst (.int 97)) .nil)))) (.var 2) (.cst .non)))))
/-- lines_of(text): text 0, told 1, sign 2, count 3, at 4 -/
def R_lines_of : RS := (.seq (.asg (.nm 1) (.app (oAdd false) (.cons (.lc false [2] itS (.cons (.var 0) .nil) (.nm 2) .yes (.app (oAdd false) (.cons (.bm mIndexS (.cst (.str c_SIGNS)) (.cons (.var 2) .nil)) (.cons (.cst (.int 1)) .nil)))) (.cons (.app (oDisp false) (.cons (.cst (.int 74)) .nil)) .nil)))) (.seq (.asg (.nm 3) (.app oNeg (.cons (.app oDiv (.cons (.app oNeg (.cons (.app oLen (.cons (.var 1) .nil)) .nil)) (.cons (.cst (.int 55)) .nil))) .nil))) (.seq (.asg (.nm 1) (.app (oAdd false) (.cons (.var 1) (.cons (.app (oMul false) (.cons (.app (oDisp false) (.cons (.cst (.int 0)) .nil)) (.cons (.app oSub (.cons (.app (oMul false) (.cons (.var 3) (.cons (.cst (.int 55)) .nil))) (.cons (.app oLen (.cons (.var 1) .nil)) .nil))) .nil))) .nil)))) (.ret (.lc false [4] itR1 (.cons (.var 3) .nil) (.nm 4) .yes (.call 15 (.cons (.call 13 (.cons (.app (oAdd false) (.cons (.var 4) (.cons (.cst (.int 1)) .nil))) (.cons (.sl (sSl false) (.var 1) (.so (.app (oMul false) (.cons (.var 4) (.cons (.cst (.int 55)) .nil)))) (.so (.app (oMul false) (.cons (.app (oAdd false) (.cons (.var 4) (.cons (.cst (.int 1)) .nil))) (.cons (.cst (.int 55)) .nil))))) .nil))) .nil)))))))
/-- signs_in(line, number): line 0, number 1, numbers 2, right 3 -/
def R_signs_in : RS := (.seq (.asg (.nm 2) (.call 16 (.cons (.var 0) .nil))) (.seq (.asg (.nm 3) (.ifx (.bv (.app (oIs true) (.cons (.var 2) (.cons (.cst .non) .nil)))) (.call 14 (.cons (.var 2) .nil)) (.cst .non))) (.seq (.ifs (.or (.bv (.app (oIs false) (.cons (.var 3) (.cons (.cst .non) .nil)))) (.bv (.app (oEq true) (.cons (.app (oAdd false) (.cons (.app (oMul false) (.cons (.cst (.int 97)) (.cons (.app oIx (.cons (.var 3) (.cons (.cst (.int 0)) .nil))) .nil))) (.cons (.app oIx (.cons (.var 3) (.cons (.cst (.int 1)) .nil))) .nil))) (.cons (.var 1) .nil))))) (.ret (.cst .non)) .nx) (.ret (.sl (sSl false) (.var 3) (.so (.cst (.int 2))) (.so (.app (oAdd false) (.cons (.cst (.int 2)) (.cons (.cst (.int 55)) .nil)))))))))
/-- are_of_text(numbers): numbers 0, end 1, number 2 -/
def R_are_of_text : RS := (.seq (.asg (.nm 1) (.ifx (.bv (.app (oIn false) (.cons (.cst (.int 74)) (.cons (.var 0) .nil)))) (.bm mIndexL (.var 0) (.cons (.cst (.int 74)) .nil)) (.app oLen (.cons (.var 0) .nil)))) (.ret (.andV (.app oAll (.cons (.lc false [2] itL (.cons (.sl (sSl false) (.var 0) .no (.so (.var 1))) .nil) (.nm 2) .yes (.chain oLt oLe (.cst (.int 0)) (.var 2) (.app oLen (.cons (.cst (.str c_SIGNS)) .nil)))) .nil)) (.app oNot (.cons (.app oAny (.cons (.sl (sSl false) (.var 0) (.so (.app (oAdd false) (.cons (.var 1) (.cons (.cst (.int 1)) .nil)))) .no) .nil)) .nil)))))
/-- text_of(lines): lines 0, found 1, at 2, line 3, told 4, end 5, number 6 -/
def R_text_of : RS := (.seq (.asg (.nm 1) (.app (oDisp false) .nil)) (.seq (.forr itEn (.cons (.var 0) .nil) (.tup [(.nm 2), (.nm 3)]) (.seq (.asg (.nm 4) (.call 18 (.cons (.var 3) (.cons (.app (oAdd false) (.cons (.var 2) (.cons (.cst (.int 1)) .nil))) .nil)))) (.seq (.ifs (.or (.bv (.app (oIs false) (.cons (.var 4) (.cons (.cst .non) .nil)))) (.or (.bv (.app (oIn false) (.cons (.cst (.int 74)) (.cons (.var 1) .nil)))) (.not (.tr tTr (.call 19 (.cons (.var 4) .nil)))))) (.ret (.app oTupD (.cons (.cst (.str "line")) (.cons (.app (oAdd false) (.cons (.var 2) (.cons (.cst (.int 1)) .nil))) .nil)))) .nx) (.asg (.nm 1) (.app (oAdd false) (.cons (.var 1) (.cons (.var 4) .nil))))))) (.seq (.ifs (.bv (.app (oIn true) (.cons (.cst (.int 74)) (.cons (.var 1) .nil)))) (.ret (.app oTupD (.cons (.cst (.str "line")) (.cons (.app (oAdd false) (.cons (.app oLen (.cons (.var 0) .nil)) (.cons (.cst (.int 1)) .nil))) .nil)))) .nx) (.seq (.asg (.nm 5) (.bm mIndexL (.var 1) (.cons (.cst (.int 74)) .nil))) (.ret (.app oTupD (.cons (.cst (.str "text")) (.cons (.bm mJoin (.cst (.str "")) (.cons (.lc false [6] itL (.cons (.sl (sSl false) (.var 1) .no (.so (.var 5))) .nil) (.nm 6) .yes (.app oIx (.cons (.cst (.str c_SIGNS)) (.cons (.app oSub (.cons (.var 6) (.cons (.cst (.int 1)) .nil))) .nil)))) .nil)) .nil))))))))
/-- _law_mixed(number, place): number 0, place 1, first 2, second 3, third 4 -/
def R__law_mixed : RS := (.seq (.asg (.nm 2) (.app oMod (.cons (.app oInt (.cons (.app (oAdd false) (.cons (.app (oAdd false) (.cons (.app (oMul false) (.cons (.var 0) (.cons (.cst (.int 48271)) .nil))) (.cons (.app (oMul false) (.cons (.var 1) (.cons (.cst (.int 69621)) .nil))) .nil))) (.cons (.cst (.int 11)) .nil))) .nil)) (.cons (.cst (.int 618970019642690137449562111)) .nil)))) (.seq (.asg (.nm 3) (.app oMod (.cons (.app oInt (.cons (.app (oAdd false) (.cons (.app (oAdd false) (.cons (.app (oMul false) (.cons (.var 2) (.cons (.var 2) .nil))) (.cons (.app (oMul false) (.cons (.cst (.int 7)) (.cons (.var 2) .nil))) .nil))) (.cons (.var 1) .nil))) .nil)) (.cons (.cst (.int 162259276829213363391578010288127)) .nil)))) (.seq (.asg (.nm 4) (.app oMod (.cons (.app oInt (.cons (.app (oAdd false) (.cons (.app (oMul false) (.cons (.var 3) (.cons (.var 3) .nil))) (.cons (.var 2) .nil))) .nil)) (.cons (.cst (.int 618970019642690137449562111)) .nil)))) (.ret (.app (oAdd false) (.cons (.app (oMul false) (.cons (.var 3) (.cons (.cst (.int 618970019642690137449562111)) .nil))) (.cons (.var 4) .nil)))))))
/-- _law_rest(script, place, fills): script 0, place 1, fills 2, number 3 -/
def R__law_rest : RS := (.seq (.asg (.nm 3) (.cst (.int 0))) (.seq (.ifs (.bv (.app oGt (.cons (.app oLen (.cons (.var 0) .nil)) (.cons (.cst (.int 0)) .nil)))) (.asg (.nm 3) (.app oInt (.cons (.app oIx (.cons (.var 0) (.cons (.app oMod (.cons (.app oInt (.cons (.var 1) .nil)) (.cons (.app oLen (.cons (.var 0) .nil)) .nil))) .nil))) .nil))) .nx) (.seq (.ifs (.bv (.app oLt (.cons (.var 3) (.cons (.cst (.int 0)) .nil)))) (.asg (.nm 3) (.app oSub (.cons (.cst (.int 1)) (.cons (.app (oMul false) (.cons (.cst (.int 2)) (.cons (.var 3) .nil))) .nil)))) .nx) (.seq (.ifs (.and (.bv (.app (oEq false) (.cons (.var 2) (.cons (.cst (.int 0)) .nil)))) (.and (.bv (.app oLt (.cons (.var 1) (.cons (.app oLen (.cons (.var 0) .nil)) .nil)))) (.bv (.app oGe (.cons (.var 3) (.cons (.app oPow (.cons (.cst (.int 10)) (.cons (.cst (.int 18)) .nil))) .nil)))))) (.ret (.app oSub (.cons (.var 3) (.cons (.app oPow (.cons (.cst (.int 10)) (.cons (.cst (.int 18)) .nil))) .nil)))) .nx) (.ret (.call 21 (.cons (.app (oAdd false) (.cons (.var 3) (.cons (.app (oMul false) (.cons (.var 2) (.cons (.cst (.int 1000003)) .nil))) .nil))) (.cons (.var 1) .nil))))))))
/-- _law_pool(script): script 0 -/
def R__law_pool : RS := (.ret (.app (oDisp true) (.cons (.var 0) (.cons (.cst (.int 0)) (.cons (.call 22 (.cons (.var 0) (.cons (.cst (.int 0)) (.cons (.cst (.int 0)) .nil)))) (.cons (.cst (.int 0)) .nil))))))
/-- _law_next(pool): pool 0 -/
def R__law_next : RS := (.seq (.setI (.var 0) (.cst (.int 1)) (.app (oAdd false) (.cons (.app oIx (.cons (.var 0) (.cons (.cst (.int 1)) .nil))) (.cons (.cst (.int 1)) .nil)))) (.seq (.setI (.var 0) (.cst (.int 2)) (.call 22 (.cons (.app oIx (.cons (.var 0) (.cons (.cst (.int 0)) .nil))) (.cons (.app oIx (.cons (.var 0) (.cons (.cst (.int 1)) .nil))) (.cons (.cst (.int 0)) .nil))))) (.setI (.var 0) (.cst (.int 3)) (.cst (.int 0)))))
/-- _law_draw(pool, limit): pool 0, limit 1, value 2 -/
def R__law_draw : RS := (.seq (.ifs (.bv (.app oLe (.cons (.app oIx (.cons (.var 0) (.cons (.cst (.int 2)) .nil))) (.cons (.cst (.int 1)) .nil)))) (.seq (.setI (.var 0) (.cst (.int 3)) (.app (oAdd false) (.cons (.app oIx (.cons (.var 0) (.cons (.cst (.int 3)) .nil))) (.cons (.cst (.int 1)) .nil)))) (.setI (.var 0) (.cst (.int 2)) (.call 22 (.cons (.app oIx (.cons (.var 0) (.cons (.cst (.int 0)) .nil))) (.cons (.app oIx (.cons (.var 0) (.cons (.cst (.int 1)) .nil))) (.cons (.app oIx (.cons (.var 0) (.cons (.cst (.int 3)) .nil))) .nil)))))) .nx) (.seq (.asg (.nm 2) (.app oMod (.cons (.app oInt (.cons (.app oIx (.cons (.var 0) (.cons (.cst (.int 2)) .nil))) .nil)) (.cons (.var 1) .nil)))) (.seq (.setI (.var 0) (.cst (.int 2)) (.app oDiv (.cons (.app oInt (.cons (.app oIx (.cons (.var 0) (.cons (.cst (.int 2)) .nil))) .nil)) (.cons (.var 1) .nil)))) (.ret (.var 2)))))
/-- _law_pick(pool, options): pool 0, options 1 -/
def R__law_pick : RS := (.ret (.app oIx (.cons (.var 1) (.cons (.call 25 (.cons (.var 0) (.cons (.app oLen (.cons (.var 1) .nil)) .nil))) .nil))))
/-- _law_same(answer, due): answer 0, due 1, key 2, k 3 -/
def R__law_same : RS := (.seq (.ifs (.tr tTr (.app (oIsi "dict") (.cons (.var 1) .nil))) .never .nx) (.seq (.ifs (.or (.tr tTr (.app (oIsi "list") (.cons (.var 1) .nil))) (.tr tTr (.app (oIsi "tuple") (.cons (.var 1) .nil)))) (.seq (.ifs (.or (.bv (.app (oEq true) (.cons (.app (oIsi "list") (.cons (.var 1) .nil)) (.cons (.app (oIsi "list") (.cons (.var 0) .nil)) .nil)))) (.bv (.app (oEq true) (.cons (.app (oIsi "tuple") (.cons (.var 1) .nil)) (.cons (.app (oIsi "tuple") (.cons (.var 0) .nil)) .nil))))) (.ret (.cst (.bl false))) .nx) (.ret (.andV (.app (oEq false) (.cons (.app oLen (.cons (.var 0) .nil)) (.cons (.app oLen (.cons (.var 1) .nil)) .nil))) (.app oAll (.cons (.lc false [3] itR1 (.cons (.app oLen (.cons (.var 1) .nil)) .nil) (.nm 3) .yes (.call 27 (.cons (.app oIx (.cons (.var 0) (.cons (.var 3) .nil))) (.cons (.app oIx (.cons (.var 1) (.cons (.var 3) .nil))) .nil)))) .nil))))) .nx) (.seq (.ifs (.tr tTr (.app (oIsi "str") (.cons (.var 1) .nil))) (.ret (.andV (.app (oIsi "str") (.cons (.var 0) .nil)) (.app (oEq false) (.cons (.var 0) (.cons (.var 1) .nil))))) .nx) (.seq (.ifs (.or (.bv (.app (oIs false) (.cons (.var 1) (.cons (.cst .non) .nil)))) (.or (.bv (.app (oIs false) (.cons (.var 1) (.cons (.cst (.bl true)) .nil)))) (.bv (.app (oIs false) (.cons (.var 1) (.cons (.cst (.bl false)) .nil)))))) (.ret (.orV (.andV (.app (oIs false) (.cons (.var 1) (.cons (.cst .non) .nil))) (.app (oIs false) (.cons (.var 0) (.cons (.cst .non) .nil)))) (.orV (.andV (.app (oIs false) (.cons (.var 1) (.cons (.cst (.bl true)) .nil))) (.app (oIs false) (.cons (.var 0) (.cons (.cst (.bl true)) .nil)))) (.andV (.app (oIs false) (.cons (.var 1) (.cons (.cst (.bl false)) .nil))) (.app (oIs false) (.cons (.var 0) (.cons (.cst (.bl false)) .nil))))))) .nx) (.ret (.andV (.app (oIsi "int") (.cons (.var 0) .nil)) (.andV (.app oNot (.cons (.app (oIsi "bool") (.cons (.var 0) .nil)) .nil)) (.app (oEq false) (.cons (.var 0) (.cons (.var 1) .nil))))))))))
/-- _law_different(items): items 0, found 1, item 2 -/
def R__law_different : RS := (.seq (.asg (.nm 1) (.app (oDisp true) .nil)) (.seq (.forr itL (.cons (.var 0) .nil) (.nm 2) (.ifs (.bv (.app (oIn true) (.cons (.var 2) (.cons (.var 1) .nil)))) (.drop (.bm mAppend (.var 1) (.cons (.var 2) .nil))) .nx)) (.ret (.frz (.var 1)))))
/-- _law_value_drawn(pool, deep): pool 0, deep 1, way 2, k 3 -/
def R__law_value_drawn : RS := (.seq (.asg (.nm 2) (.call 25 (.cons (.var 0) (.cons (.ifx (.bv (.app oLt (.cons (.var 1) (.cons (.cst (.int 3)) .nil)))) (.cst (.int 6)) (.cst (.int 4))) .nil)))) (.seq (.ifs (.bv (.app (oEq false) (.cons (.var 2) (.cons (.cst (.int 0)) .nil)))) (.ret (.call 26 (.cons (.var 0) (.cons (.app (oDisp false) (.cons (.cst (.int 0)) (.cons (.cst (.int 1)) (.cons (.app oNeg (.cons (.cst (.int 1)) .nil)) (.cons (.cst (.int 10)) (.cons (.app oNeg (.cons (.cst (.int 12)) .nil)) (.cons (.cst (.int 300)) (.cons (.app oPow (.cons (.cst (.int 10)) (.cons (.cst (.int 9)) .nil))) .nil)))))))) .nil)))) .nx) (.seq (.ifs (.bv (.app (oEq false) (.cons (.var 2) (.cons (.cst (.int 1)) .nil)))) (.ret (.app oSub (.cons (.call 25 (.cons (.var 0) (.cons (.cst (.int 1000)) .nil))) (.cons (.cst (.int 500)) .nil)))) .nx) (.seq (.ifs (.bv (.app oLt (.cons (.var 2) (.cons (.cst (.int 4)) .nil)))) (.ret (.bm mJoin (.cst (.str "")) (.cons (.lc false [3] itR1 (.cons (.call 25 (.cons (.var 0) (.cons (.cst (.int 5)) .nil))) .nil) (.nm 3) .yes (.call 26 (.cons (.var 0) (.cons (.app (oDisp false) (.cons (.cst (.str "a")) (.cons (.cst (.str "Z")) (.cons (.cst (.str " ")) (.cons (.cst (.str "(")) (.cons (.cst (.str "7")) (.cons (.cst (.str "\n")) (.cons (.cst (.str ":")) (.cons (.cst (.str "/")) (.cons (.cst (.str ",")) .nil)))))))))) .nil)))) .nil))) .nx) (.seq (.drop (.call 24 (.cons (.var 0) .nil))) (.ret (.app oTup (.cons (.lc false [3] itR1 (.cons (.call 25 (.cons (.var 0) (.cons (.cst (.int 4)) .nil))) .nil) (.nm 3) .yes (.call 29 (.cons (.var 0) (.cons (.app (oAdd false) (.cons (.var 1) (.cons (.cst (.int 1)) .nil))) .nil)))) .nil))))))))
/-- _law_signs(value): value 0, one 1 -/
def R__law_signs : RS := (.seq (.ifs (.tr tTr (.app (oIsi "str") (.cons (.var 0) .nil))) (.ret (.app (oAdd false) (.cons (.app (oAdd false) (.cons (.cst (.str "\"")) (.cons (.var 0) .nil))) (.cons (.cst (.str "\"")) .nil)))) .nx) (.seq (.ifs (.tr tTr (.app (oIsi "int") (.cons (.var 0) .nil))) (.ret (.app oStr (.cons (.var 0) .nil))) .nx) (.ret (.app (oAdd false) (.cons (.app (oAdd false) (.cons (.cst (.str "(")) (.cons (.bm mJoin (.cst (.str ",")) (.cons (.lc false [1] itT (.cons (.var 0) .nil) (.nm 1) .yes (.call 30 (.cons (.var 1) .nil))) .nil)) .nil))) (.cons (.ifx (.bv (.app (oEq false) (.cons (.app oLen (.cons (.var 0) .nil)) (.cons (.cst (.int 1)) .nil)))) (.cst (.str ",)")) (.cst (.str ")"))) .nil))))))
/-- _law_numbers(line): line 0, at 1 -/
def R__law_numbers : RS := (.ret (.lc true [1] itR3 (.cons (.cst (.int 0)) (.cons (.app oLen (.cons (.var 0) .nil)) (.cons (.cst (.int 2)) .nil))) (.nm 1) .yes (.app oInt (.cons (.sl (sSl false) (.var 0) (.so (.var 1)) (.so (.app (oAdd false) (.cons (.var 1) (.cons (.cst (.int 2)) .nil))))) .nil))))
/-- _law_sums(numbers): numbers 0, found 1, power 2, total 3, k 4 -/
def R__law_sums : RS := (.seq (.asg (.nm 1) (.app (oDisp true) .nil)) (.seq (.forr itR1 (.cons (.cst (.int 3)) .nil) (.nm 2) (.seq (.asg (.nm 3) (.cst (.int 0))) (.seq (.forr itR1 (.cons (.app oLen (.cons (.var 0) .nil)) .nil) (.nm 4) (.asg (.nm 3) (.app (oAdd false) (.cons (.var 3) (.cons (.app (oMul false) (.cons (.ifx (.bv (.app (oEq false) (.cons (.var 2) (.cons (.cst (.int 0)) .nil)))) (.cst (.int 1)) (.ifx (.bv (.app (oEq false) (.cons (.var 2) (.cons (.cst (.int 1)) .nil)))) (.app (oAdd false) (.cons (.var 4) (.cons (.cst (.int 1)) .nil))) (.app (oMul false) (.cons (.app (oAdd false) (.cons (.var 4) (.cons (.cst (.int 1)) .nil))) (.cons (.app (oAdd false) (.cons (.var 4) (.cons (.cst (.int 1)) .nil))) .nil))))) (.cons (.app oIx (.cons (.var 0) (.cons (.var 4) .nil))) .nil))) .nil))))) (.drop (.bm mAppend (.var 1) (.cons (.app oMod (.cons (.app oInt (.cons (.var 3) .nil)) (.cons (.cst (.int 97)) .nil))) .nil)))))) (.ret (.frz (.var 1)))))
/-- _law_line(numbers): numbers 0, number 1 -/
def R__law_line : RS := (.ret (.bm mJoin (.cst (.str "")) (.cons (.lc false [1] itL (.cons (.var 0) .nil) (.nm 1) .yes (.app (oAdd false) (.cons (.app oStr (.cons (.app oDiv (.cons (.var 1) (.cons (.cst (.int 10)) .nil))) .nil)) (.cons (.app oStr (.cons (.app oMod (.cons (.app oInt (.cons (.var 1) .nil)) (.cons (.cst (.int 10)) .nil))) .nil)) .nil)))) .nil)))
/-- law(script): script 0, pool 1, value 2, k 3, text 4, turn 5, at 6, some 7, seen 8, signs 9, told 10, sign 11, lines 12, whole 13, numbers 14, bad 15, wrong 16, places 17, j 18, place 19, spoilt 20, cut 21, one 22 -/
def R_law : RS := (.seq (.asg (.nm 1) (.call 23 (.cons (.var 0) .nil))) (.seq (.asg (.nm 2) (.app oTup (.cons (.lc false [3] itR1 (.cons (.app (oAdd false) (.cons (.cst (.int 1)) (.cons (.call 25 (.cons (.var 1) (.cons (.cst (.int 9)) .nil))) .nil))) .nil) (.nm 3) .yes (.call 29 (.cons (.var 1) (.cons (.cst (.int 0)) .nil)))) .nil))) (.seq (.asg (.nm 4) (.call 30 (.cons (.var 2) .nil))) (.seq (.ifs (.or (.bv (.app (oIs true) (.cons (.call 1 (.cons (.var 2) .nil)) (.cons (.cst (.bl true)) .nil)))) (.not (.tr tTr (.call 27 (.cons (.app (oDisp false) (.cons (.call 0 (.cons (.var 2) .nil)) (.cons (.call 10 (.cons (.var 4) .nil)) .nil))) (.cons (.app (oDisp false) (.cons (.var 4) (.cons (.var 2) .nil))) .nil)))))) (.ret (.cst (.bl false))) .nx) (.seq (.forr itR1 (.cons (.cst (.int 5)) .nil) (.nm 5) (.seq (.drop (.call 24 (.cons (.var 1) .nil))) (.seq (.asg (.nm 6) (.call 25 (.cons (.var 1) (.cons (.app oLen (.cons (.var 4) .nil)) .nil)))) (.seq (.asg (.nm 7) (.call 26 (.cons (.var 1) (.cons (.app (oDisp false) (.cons (.sl (sSl false) (.var 4) .no (.so (.var 6))) (.cons (.app (oAdd false) (.cons (.app (oAdd false) (.cons (.sl (sSl false) (.var 4) .no (.so (.var 6))) (.cons (.call 26 (.cons (.var 1) (.cons (.app (oDisp false) (.cons (.cst (.str "0")) (.cons (.cst (.str ",")) (.cons (.cst (.str "(")) (.cons (.cst (.str ")")) (.cons (.cst (.str "\"")) (.cons (.cst (.str "-")) (.cons (.cst (.str " ")) .nil)))))))) .nil))) .nil))) (.cons (.sl (sSl false) (.var 4) (.so (.var 6)) .no) .nil))) (.cons (.app (oAdd false) (.cons (.sl (sSl false) (.var 4) .no (.so (.var 6))) (.cons (.sl (sSl false) (.var 4) (.so (.app (oAdd false) (.cons (.var 6) (.cons (.cst (.int 1)) .nil)))) .no) .nil))) (.cons (.app (oAdd false) (.cons (.var 4) (.cons (.cst (.str ")")) .nil))) .nil))))) .nil)))) (.seq (.asg (.nm 8) (.call 10 (.cons (.var 7) .nil))) (.seq (.ifs (.and (.bv (.app (oIs true) (.cons (.var 8) (.cons (.cst .non) .nil)))) (.or (.bv (.app (oEq true) (.cons (.call 30 (.cons (.var 8) .nil)) (.cons (.var 7) .nil)))) (.bv (.app (oIs true) (.cons (.call 1 (.cons (.var 8) .nil)) (.cons (.cst (.bl true)) .nil)))))) (.ret (.cst (.bl false))) .nx) (.ifs (.and (.bv (.app (oIs false) (.cons (.var 8) (.cons (.cst .non) .nil)))) (.bv (.app (oEq false) (.cons (.var 7) (.cons (.var 4) .nil))))) (.ret (.cst (.bl false))) .nx))))))) (.seq (.asg (.nm 9) (.cst (.str "0123456789abcdefghijklmnopqrstuvwxyzABCDEFGHIJKLMNOPQRSTUVWXYZ-\"(),. /:+\n"))) (.seq (.asg (.nm 10) (.app (oAdd false) (.cons (.lc false [11] itS (.cons (.var 4) .nil) (.nm 11) .yes (.app (oAdd false) (.cons (.bm mIndexS (.var 9) (.cons (.var 11) .nil)) (.cons (.cst (.int 1)) .nil)))) (.cons (.app (oDisp false) (.cons (.cst (.int 74)) .nil)) .nil)))) (.seq (.asg (.nm 12) (.call 17 (.cons (.var 4) .nil))) (.seq (.asg (.nm 13) (.app (oDisp false) .nil)) (.seq (.forr itR1 (.cons (.app oLen (.cons (.var 12) .nil)) .nil) (.nm 3) (.seq (.asg (.nm 14) (.call 31 (.cons (.app oIx (.cons (.var 12) (.cons (.var 3) .nil))) .nil))) (.gz 14 (.seq (.ifs (.or (.bv (.app (oEq true) (.cons (.app oLen (.cons (.app oIx (.cons (.var 12) (.cons (.var 3) .nil))) .nil)) (.cons (.cst (.int 120)) .nil)))) (.or (.bv (.app (oEq true) (.cons (.call 32 (.cons (.var 14) .nil)) (.cons (.app (oDisp false) (.cons (.cst (.int 0)) (.cons (.cst (.int 0)) (.cons (.cst (.int 0)) .nil)))) .nil)))) (.or (.bv (.app (oEq true) (.cons (.sl (sSl false) (.var 14) .no (.so (.cst (.int 2)))) (.cons (.app (oDisp false) (.cons (.app oDiv (.cons (.app (oAdd false) (.cons (.var 3) (.cons (.cst (.int 1)) .nil))) (.cons (.cst (.int 97)) .nil))) (.cons (.app oMod (.cons (.app oInt (.cons (.app (oAdd false) (.cons (.var 3) (.cons (.cst (.int 1)) .nil))) .nil)) (.cons (.cst (.int 97)) .nil))) .nil))) .nil)))) (.bv (.app oGt (.cons (.app oMax (.cons (.var 14) .nil)) (.cons (.cst (.int 96)) .nil))))))) (.ret (.cst (.bl false))) .nx) (.seq (.ifs (.not (.tr tTr (.call 27 (.cons (.app (oDisp false) (.cons (.call 13 (.cons (.app (oAdd false) (.cons (.var 3) (.cons (.cst (.int 1)) .nil))) (.cons (.sl (sSl false) (.var 14) (.so (.cst (.int 2))) (.so (.cst (.int 57)))) .nil))) (.cons (.call 14 (.cons (.var 14) .nil)) .nil))) (.cons (.app (oDisp false) (.cons (.var 14) (.cons (.var 14) .nil))) .nil))))) (.ret (.cst (.bl false))) .nx) (.asg (.nm 13) (.app (oAdd false) (.cons (.var 13) (.cons (.sl (sSl false) (.var 14) (.so (.cst (.int 2))) (.so (.cst (.int 57)))) .nil))))))))) (.seq (.ifs (.or (.bv (.app (oEq true) (.cons (.var 13) (.cons (.app (oAdd false) (.cons (.var 10) (.cons (.app (oMul false) (.cons (.app (oDisp false) (.cons (.cst (.int 0)) .nil)) (.cons (.app oSub (.cons (.app oLen (.cons (.var 13) .nil)) (.cons (.app oLen (.cons (.var 10) .nil)) .nil))) .nil))) .nil))) .nil)))) (.or (.bv (.app oGe (.cons (.app oLen (.cons (.var 13) .nil)) (.cons (.app (oAdd false) (.cons (.app oLen (.cons (.var 10) .nil)) (.cons (.cst (.int 55)) .nil))) .nil)))) (.not (.tr tTr (.call 27 (.cons (.call 20 (.cons (.app (oLst false) (.cons (.var 12) .nil)) .nil)) (.cons (.app oTupD (.cons (.cst (.str "text")) (.cons (.var 4) .nil))) .nil))))))) (.ret (.cst (.bl false))) .nx) (.seq (.forr itR1 (.cons (.cst (.int 4)) .nil) (.nm 5) (.seq (.drop (.call 24 (.cons (.var 1) .nil))) (.seq (.asg (.nm 7) (.app (oDisp true) .nil)) (.seq (.asg (.nm 15) (.app (oDisp true) .nil)) (.seq (.forr itR1 (.cons (.app oLen (.cons (.var 12) .nil)) .nil) (.nm 3) (.seq (.asg (.nm 14) (.call 31 (.cons (.app oIx (.cons (.var 12) (.cons (.var 3) .nil))) .nil))) (.seq (.asg (.nm 16) (.ifx (.bv (.app oLt (.cons (.var 5) (.cons (.cst (.int 3)) .nil)))) (.call 25 (.cons (.var 1) (.cons (.cst (.int 4)) .nil))) (.cst (.int 0)))) (.seq (.asg (.nm 17) (.call 28 (.cons (.lc false [18] itR1 (.cons (.ifx (.bv (.app oLt (.cons (.var 16) (.cons (.cst (.int 3)) .nil)))) (.var 16) (.cst (.int 0))) .nil) (.nm 18) .yes (.call 25 (.cons (.var 1) (.cons (.cst (.int 60)) .nil)))) .nil))) (.seq (.forr itL (.cons (.var 17) .nil) (.nm 19) (.setI (.var 14) (.var 19) (.app oMod (.cons (.app oInt (.cons (.app (oAdd false) (.cons (.app (oAdd false) (.cons (.app oIx (.cons (.var 14) (.cons (.var 19) .nil))) (.cons (.cst (.int 1)) .nil))) (.cons (.call 25 (.cons (.var 1) (.cons (.cst (.int 96)) .nil))) .nil))) .nil)) (.cons (.cst (.int 97)) .nil))))) (.seq (.ifs (.bv (.app (oEq false) (.cons (.app oLen (.cons (.var 17) .nil)) (.cons (.cst (.int 2)) .nil)))) (.drop (.bm mAppend (.var 15) (.cons (.app (oAdd false) (.cons (.var 3) (.cons (.cst (.int 1)) .nil))) .nil))) .nx) (.seq (.ifs (.not (.tr tTr (.call 27 (.cons (.call 14 (.cons (.app (oLst false) (.cons (.var 14) .nil)) .nil)) (.cons (.ifx (.bv (.app oLt (.cons (.app oLen (.cons (.var 17) .nil)) (.cons (.cst (.int 2)) .nil)))) (.call 31 (.cons (.app oIx (.cons (.var 12) (.cons (.var 3) .nil))) .nil)) (.cst .non)) .nil))))) (.ret (.cst (.bl false))) .nx) (.drop (.bm mAppend (.var 7) (.cons (.call 33 (.cons (.var 14) .nil)) .nil)))))))))) (.ifs (.not (.tr tTr (.call 27 (.cons (.call 20 (.cons (.app (oLst false) (.cons (.var 7) .nil)) .nil)) (.cons (.ifx (.bv (.app (oEq true) (.cons (.var 15) (.cons (.app (oDisp false) .nil) .nil)))) (.app oTupD (.cons (.cst (.str "line")) (.cons (.app oIx (.cons (.var 15) (.cons (.cst (.int 0)) .nil))) .nil))) (.app oTupD (.cons (.cst (.str "text")) (.cons (.var 4) .nil)))) .nil))))) (.ret (.cst (.bl false))) .nx)))))) (.seq (.asg (.nm 6) (.call 25 (.cons (.var 1) (.cons (.app oLen (.cons (.var 12) .nil)) .nil)))) (.seq (.asg (.nm 14) (.sl (sSl true) (.call 31 (.cons (.app oIx (.cons (.var 12) (.cons (.var 6) .nil))) .nil)) (.so (.cst (.int 2))) (.so (.cst (.int 57))))) (.seq (.setI (.var 14) (.call 25 (.cons (.var 1) (.cons (.ifx (.and (.bv (.app (oIn false) (.cons (.cst (.int 74)) (.cons (.var 14) .nil)))) (.bv (.app oGt (.cons (.bm mIndexL (.var 14) (.cons (.cst (.int 74)) .nil)) (.cons (.cst (.int 0)) .nil))))) (.bm mIndexL (.var 14) (.cons (.cst (.int 74)) .nil)) (.cst (.int 1))) .nil))) (.call 26 (.cons (.var 1) (.cons (.app (oDisp false) (.cons (.cst (.int 0)) (.cons (.cst (.int 75)) (.cons (.cst (.int 96)) .nil)))) .nil)))) (.seq (.ifs (.or (.bv (.app (oIn false) (.cons (.cst (.int 74)) (.cons (.var 14) .nil)))) (.bv (.app oLt (.cons (.var 6) (.cons (.app oSub (.cons (.app oLen (.cons (.var 12) .nil)) (.cons (.cst (.int 1)) .nil))) .nil))))) (.seq (.asg (.nm 20) (.app (oAdd false) (.cons (.app (oAdd false) (.cons (.sl (sSl false) (.var 12) .no (.so (.var 6))) (.cons (.app (oDisp false) (.cons (.call 33 (.cons (.call 13 (.cons (.app (oAdd false) (.cons (.var 6) (.cons (.cst (.int 1)) .nil))) (.cons (.var 14) .nil))) .nil)) .nil)) .nil))) (.cons (.sl (sSl false) (.var 12) (.so (.app (oAdd false) (.cons (.var 6) (.cons (.cst (.int 1)) .nil)))) .no) .nil)))) (.ifs (.not (.tr tTr (.call 27 (.cons (.call 20 (.cons (.var 20) .nil)) (.cons (.app oTupD (.cons (.cst (.str "line")) (.cons (.app (oAdd false) (.cons (.var 6) (.cons (.cst (.int 1)) .nil))) .nil))) .nil))))) (.ret (.cst (.bl false))) .nx)) .nx) (.seq (.asg (.nm 21) (.call 25 (.cons (.var 1) (.cons (.app oLen (.cons (.var 12) .nil)) .nil)))) (.seq (.ifs (.not (.tr tTr (.call 27 (.cons (.app (oDisp false) (.cons (.call 20 (.cons (.sl (sSl false) (.var 12) .no (.so (.var 21))) .nil)) (.cons (.call 20 (.cons (.app (oAdd false) (.cons (.sl (sSl false) (.var 12) .no (.so (.var 21))) (.cons (.sl (sSl false) (.var 12) (.so (.app (oAdd false) (.cons (.var 21) (.cons (.cst (.int 1)) .nil)))) .no) .nil))) .nil)) .nil))) (.cons (.app (oDisp false) (.cons (.app oTupD (.cons (.cst (.str "line")) (.cons (.app (oAdd false) (.cons (.var 21) (.cons (.cst (.int 1)) .nil))) .nil))) (.cons (.app oTupD (.cons (.cst (.str "line")) (.cons (.app (oAdd false) (.cons (.var 21) (.cons (.cst (.int 1)) .nil))) .nil))) .nil))) .nil))))) (.ret (.cst (.bl false))) .nx) (.seq (.ifs (.or (.bv (.app (oEq true) (.cons (.call 20 (.cons (.app (oAdd false) (.cons (.var 12) (.cons (.app (oDisp false) (.cons (.app oIx (.cons (.var 12) (.cons (.app oNeg (.cons (.cst (.int 1)) .nil)) .nil))) .nil)) .nil))) .nil)) (.cons (.app oTupD (.cons (.cst (.str "line")) (.cons (.app (oAdd false) (.cons (.app oLen (.cons (.var 12) .nil)) (.cons (.cst (.int 1)) .nil))) .nil))) .nil)))) (.or (.bv (.app (oEq true) (.cons (.call 20 (.cons (.app (oDisp false) .nil) .nil)) (.cons (.app oTupD (.cons (.cst (.str "line")) (.cons (.cst (.int 1)) .nil))) .nil)))) (.bv (.app (oEq true) (.cons (.call 20 (.cons (.app (oDisp false) (.cons (.sl (sSl false) (.app oIx (.cons (.var 12) (.cons (.cst (.int 0)) .nil))) .no (.so (.app oNeg (.cons (.cst (.int 1)) .nil)))) .nil)) .nil)) (.cons (.app oTupD (.cons (.cst (.str "line")) (.cons (.cst (.int 1)) .nil))) .nil)))))) (.ret (.cst (.bl false))) .nx) (.ret (.andV (.app oNot (.cons (.app oAny (.cons (.lc false [22] itL (.cons (.app (oDisp false) (.cons (.cst .non) (.cons (.cst (.bl true)) (.cons (.app (oDisp false) (.cons (.cst (.int 1)) .nil)) (.cons (.app oTupD (.cons (.cst (.str "a")) (.cons (.cst .non) .nil))) (.cons (.cst (.str "~")) (.cons (.cst (.str "\"")) (.cons (.app oTupD (.cons (.cst (.int 1)) (.cons (.app (oDisp false) (.cons (.cst (.int 2)) .nil)) .nil))) .nil)))))))) .nil) (.nm 22) .yes (.call 1 (.cons (.var 22) .nil))) .nil)) .nil)) (.app (oIs false) (.cons (.call 10 (.cons (.cst (.str "")) .nil)) (.cons (.cst .non) .nil))))))))))))))))))))))))
def fnT : Nat → Option Fn
  | 0 => some ⟨R_signs_of, 3, 1⟩
  | 1 => some ⟨R_is_plain, 3, 1⟩
  | 2 => some ⟨R_Readeru__initu_, 2, 2⟩
  | 3 => some ⟨R_Reader_next_sign, 1, 1⟩
  | 4 => some ⟨R_Reader_integer, 4, 1⟩
  | 5 => some ⟨R_Reader_string, 4, 1⟩
  | 6 => some ⟨R_Reader_single, 1, 1⟩
  | 7 => some ⟨R_Reader_closed, 2, 2⟩
  | 8 => some ⟨R_Reader_ended, 3, 3⟩
  | 9 => some ⟨R_Reader_value, 3, 1⟩
  | 10 => some ⟨R_value_of, 3, 1⟩
  | 11 => some ⟨R_sums, 5, 1⟩
  | 12 => some ⟨R_inverse, 2, 1⟩
  | 13 => some ⟨R_line_of, 11, 2⟩
  | 14 => some ⟨R_righted, 6, 1⟩
  | 15 => some ⟨R_written, 2, 1⟩
  | 16 => some ⟨R_numbers_in, 4, 1⟩
  | 17 => some ⟨R_lines_of, 5, 1⟩
  | 18 => some ⟨R_signs_in, 4, 2⟩
  | 19 => some ⟨R_are_of_text, 3, 1⟩
  | 20 => some ⟨R_text_of, 7, 1⟩
  | 21 => some ⟨R__law_mixed, 5, 2⟩
  | 22 => some ⟨R__law_rest, 4, 3⟩
  | 23 => some ⟨R__law_pool, 1, 1⟩
  | 24 => some ⟨R__law_next, 1, 1⟩
  | 25 => some ⟨R__law_draw, 3, 2⟩
  | 26 => some ⟨R__law_pick, 2, 2⟩
  | 27 => some ⟨R__law_same, 4, 2⟩
  | 28 => some ⟨R__law_different, 3, 1⟩
  | 29 => some ⟨R__law_value_drawn, 4, 2⟩
  | 30 => some ⟨R__law_signs, 2, 1⟩
  | 31 => some ⟨R__law_numbers, 2, 1⟩
  | 32 => some ⟨R__law_sums, 5, 1⟩
  | 33 => some ⟨R__law_line, 2, 1⟩
  | 34 => some ⟨R_law, 23, 1⟩
  | _ => none
def fsT : Nat → List Str
  | 0 => ["text", "at"]
  | _ => []
def pr : Pr := ⟨fnT, fsT⟩
end K54

set_option maxHeartbeats 4000000
namespace K54
open PySem PySem.Spec PyProof.Rows L2 EV

def topS (i : Nat) : Stmt := PySem.Challenge.pw_pleatproof_k54_whole_values_in_lines_tha.main.body.getD i (.Pass ⟨0, 0, 0, 0⟩)
abbrev s_signs_of : Stmt := topS 3
theorem sc_signs_of : FnScope ["value", "told", "one"] ["value"] (defScope s_signs_of) := ⟨rfl, rfl, rfl, by decide +kernel, rfl, by decide +kernel, by decide +kernel⟩
abbrev s_is_plain : Stmt := topS 4
theorem sc_is_plain : FnScope ["value", "one", "sign"] ["value"] (defScope s_is_plain) := ⟨rfl, rfl, rfl, by decide +kernel, rfl, by decide +kernel, by decide +kernel⟩
abbrev s_Readeru__initu_ : Stmt := inClass (topS 5) 0
theorem sc_Readeru__initu_ : FnScope ["self", "text"] ["self", "text"] (defScope s_Readeru__initu_) := ⟨rfl, rfl, rfl, by decide +kernel, rfl, by decide +kernel, by decide +kernel⟩
abbrev s_Reader_next_sign : Stmt := inClass (topS 5) 1
theorem sc_Reader_next_sign : FnScope ["self"] ["self"] (defScope s_Reader_next_sign) := ⟨rfl, rfl, rfl, by decide +kernel, rfl, by decide +kernel, by decide +kernel⟩
abbrev s_Reader_integer : Stmt := inClass (topS 5) 2
theorem sc_Reader_integer : FnScope ["self", "first", "word", "digits"] ["self"] (defScope s_Reader_integer) := ⟨rfl, rfl, rfl, by decide +kernel, rfl, by decide +kernel, by decide +kernel⟩
abbrev s_Reader_string : Stmt := inClass (topS 5) 3
theorem sc_Reader_string : FnScope ["self", "end", "found", "sign"] ["self"] (defScope s_Reader_string) := ⟨rfl, rfl, rfl, by decide +kernel, rfl, by decide +kernel, by decide +kernel⟩
abbrev s_Reader_single : Stmt := inClass (topS 5) 4
theorem sc_Reader_single : FnScope ["self"] ["self"] (defScope s_Reader_single) := ⟨rfl, rfl, rfl, by decide +kernel, rfl, by decide +kernel, by decide +kernel⟩
abbrev s_Reader_closed : Stmt := inClass (topS 5) 5
theorem sc_Reader_closed : FnScope ["self", "members"] ["self", "members"] (defScope s_Reader_closed) := ⟨rfl, rfl, rfl, by decide +kernel, rfl, by decide +kernel, by decide +kernel⟩
abbrev s_Reader_ended : Stmt := inClass (topS 5) 6
theorem sc_Reader_ended : FnScope ["self", "members", "found"] ["self", "members", "found"] (defScope s_Reader_ended) := ⟨rfl, rfl, rfl, by decide +kernel, rfl, by decide +kernel, by decide +kernel⟩
abbrev s_Reader_value : Stmt := inClass (topS 5) 7
theorem sc_Reader_value : FnScope ["self", "members", "found"] ["self"] (defScope s_Reader_value) := ⟨rfl, rfl, rfl, by decide +kernel, rfl, by decide +kernel, by decide +kernel⟩
abbrev s_value_of : Stmt := topS 6
theorem sc_value_of : FnScope ["text", "reader", "found"] ["text"] (defScope s_value_of) := ⟨rfl, rfl, rfl, by decide +kernel, rfl, by decide +kernel, by decide +kernel⟩
abbrev s_sums : Stmt := topS 12
theorem sc_sums : FnScope ["numbers", "found", "at", "number", "place"] ["numbers"] (defScope s_sums) := ⟨rfl, rfl, rfl, by decide +kernel, rfl, by decide +kernel, by decide +kernel⟩
abbrev s_inverse : Stmt := topS 13
theorem sc_inverse : FnScope ["number", "other"] ["number"] (defScope s_inverse) := ⟨rfl, rfl, rfl, by decide +kernel, rfl, by decide +kernel, by decide +kernel⟩
abbrev s_line_of : Stmt := topS 14
theorem sc_line_of : FnScope ["number", "signs", "told", "zero", "one", "two", "last", "half", "third", "second", "first"] ["number", "signs"] (defScope s_line_of) := ⟨rfl, rfl, rfl, by decide +kernel, rfl, by decide +kernel, by decide +kernel⟩
abbrev s_righted : Stmt := topS 15
theorem sc_righted : FnScope ["numbers", "zero", "one", "two", "place", "found"] ["numbers"] (defScope s_righted) := ⟨rfl, rfl, rfl, by decide +kernel, rfl, by decide +kernel, by decide +kernel⟩
abbrev s_written : Stmt := topS 16
theorem sc_written : FnScope ["numbers", "number"] ["numbers"] (defScope s_written) := ⟨rfl, rfl, rfl, by decide +kernel, rfl, by decide +kernel, by decide +kernel⟩
abbrev s_numbers_in : Stmt := topS 17
theorem sc_numbers_in : FnScope ["line", "sign", "found", "at"] ["line"] (defScope s_numbers_in) := ⟨rfl, rfl, rfl, by decide +kernel, rfl, by decide +kernel, by decide +kernel⟩
abbrev s_lines_of : Stmt := topS 18
theorem sc_lines_of : FnScope ["text", "told", "sign", "count", "at"] ["text"] (defScope s_lines_of) := ⟨rfl, rfl, rfl, by decide +kernel, rfl, by decide +kernel, by decide +kernel⟩
abbrev s_signs_in : Stmt := topS 19
theorem sc_signs_in : FnScope ["line", "number", "numbers", "right"] ["line", "number"] (defScope s_signs_in) := ⟨rfl, rfl, rfl, by decide +kernel, rfl, by decide +kernel, by decide +kernel⟩
abbrev s_are_of_text : Stmt := topS 20
theorem sc_are_of_text : FnScope ["numbers", "end", "number"] ["numbers"] (defScope s_are_of_text) := ⟨rfl, rfl, rfl, by decide +kernel, rfl, by decide +kernel, by decide +kernel⟩
abbrev s_text_of : Stmt := topS 21
theorem sc_text_of : FnScope ["lines", "found", "at", "line", "told", "end", "number"] ["lines"] (defScope s_text_of) := ⟨rfl, rfl, rfl, by decide +kernel, rfl, by decide +kernel, by decide +kernel⟩
abbrev s__law_mixed : Stmt := topS 23
theorem sc__law_mixed : FnScope ["number", "place", "first", "second", "third"] ["number", "place"] (defScope s__law_mixed) := ⟨rfl, rfl, rfl, by decide +kernel, rfl, by decide +kernel, by decide +kernel⟩
abbrev s__law_rest : Stmt := topS 24
theorem sc__law_rest : FnScope ["script", "place", "fills", "number"] ["script", "place", "fills"] (defScope s__law_rest) := ⟨rfl, rfl, rfl, by decide +kernel, rfl, by decide +kernel, by decide +kernel⟩
abbrev s__law_pool : Stmt := topS 25
theorem sc__law_pool : FnScope ["script"] ["script"] (defScope s__law_pool) := ⟨rfl, rfl, rfl, by decide +kernel, rfl, by decide +kernel, by decide +kernel⟩
abbrev s__law_next : Stmt := topS 26
theorem sc__law_next : FnScope ["pool"] ["pool"] (defScope s__law_next) := ⟨rfl, rfl, rfl, by decide +kernel, rfl, by decide +kernel, by decide +kernel⟩
abbrev s__law_draw : Stmt := topS 27
theorem sc__law_draw : FnScope ["pool", "limit", "value"] ["pool", "limit"] (defScope s__law_draw) := ⟨rfl, rfl, rfl, by decide +kernel, rfl, by decide +kernel, by decide +kernel⟩
abbrev s__law_pick : Stmt := topS 28
theorem sc__law_pick : FnScope ["pool", "options"] ["pool", "options"] (defScope s__law_pick) := ⟨rfl, rfl, rfl, by decide +kernel, rfl, by decide +kernel, by decide +kernel⟩
abbrev s__law_same : Stmt := topS 29
theorem sc__law_same : FnScope ["answer", "due", "key", "k"] ["answer", "due"] (defScope s__law_same) := ⟨rfl, rfl, rfl, by decide +kernel, rfl, by decide +kernel, by decide +kernel⟩
abbrev s__law_different : Stmt := topS 30
theorem sc__law_different : FnScope ["items", "found", "item"] ["items"] (defScope s__law_different) := ⟨rfl, rfl, rfl, by decide +kernel, rfl, by decide +kernel, by decide +kernel⟩
abbrev s__law_value_drawn : Stmt := topS 31
theorem sc__law_value_drawn : FnScope ["pool", "deep", "way", "k"] ["pool", "deep"] (defScope s__law_value_drawn) := ⟨rfl, rfl, rfl, by decide +kernel, rfl, by decide +kernel, by decide +kernel⟩
abbrev s__law_signs : Stmt := topS 32
theorem sc__law_signs : FnScope ["value", "one"] ["value"] (defScope s__law_signs) := ⟨rfl, rfl, rfl, by decide +kernel, rfl, by decide +kernel, by decide +kernel⟩
abbrev s__law_numbers : Stmt := topS 33
theorem sc__law_numbers : FnScope ["line", "at"] ["line"] (defScope s__law_numbers) := ⟨rfl, rfl, rfl, by decide +kernel, rfl, by decide +kernel, by decide +kernel⟩
abbrev s__law_sums : Stmt := topS 34
theorem sc__law_sums : FnScope ["numbers", "found", "power", "total", "k"] ["numbers"] (defScope s__law_sums) := ⟨rfl, rfl, rfl, by decide +kernel, rfl, by decide +kernel, by decide +kernel⟩
abbrev s__law_line : Stmt := topS 35
theorem sc__law_line : FnScope ["numbers", "number"] ["numbers"] (defScope s__law_line) := ⟨rfl, rfl, rfl, by decide +kernel, rfl, by decide +kernel, by decide +kernel⟩
abbrev s_law : Stmt := topS 36
theorem sc_law : FnScope ["script", "pool", "value", "k", "text", "turn", "at", "some", "seen", "signs", "told", "sign", "lines", "whole", "numbers", "bad", "wrong", "places", "j", "place", "spoilt", "cut", "one"] ["script"] (defScope s_law) := ⟨rfl, rfl, rfl, by decide +kernel, rfl, by decide +kernel, by decide +kernel⟩
abbrev ad_signs_of (K : PySem.W.Frag) : Addr := He.fAd K ("signs_of", none)
abbrev ad_is_plain (K : PySem.W.Frag) : Addr := He.fAd K ("is_plain", none)
abbrev ad_Readeru__initu_ (K : PySem.W.Frag) : Addr := He.fAd K ("Reader", some "__init__")
abbrev ad_Reader_next_sign (K : PySem.W.Frag) : Addr := He.fAd K ("Reader", some "next_sign")
abbrev ad_Reader_integer (K : PySem.W.Frag) : Addr := He.fAd K ("Reader", some "integer")
abbrev ad_Reader_string (K : PySem.W.Frag) : Addr := He.fAd K ("Reader", some "string")
abbrev ad_Reader_single (K : PySem.W.Frag) : Addr := He.fAd K ("Reader", some "single")
abbrev ad_Reader_closed (K : PySem.W.Frag) : Addr := He.fAd K ("Reader", some "closed")
abbrev ad_Reader_ended (K : PySem.W.Frag) : Addr := He.fAd K ("Reader", some "ended")
abbrev ad_Reader_value (K : PySem.W.Frag) : Addr := He.fAd K ("Reader", some "value")
abbrev ad_value_of (K : PySem.W.Frag) : Addr := He.fAd K ("value_of", none)
abbrev ad_sums (K : PySem.W.Frag) : Addr := He.fAd K ("sums", none)
abbrev ad_inverse (K : PySem.W.Frag) : Addr := He.fAd K ("inverse", none)
abbrev ad_line_of (K : PySem.W.Frag) : Addr := He.fAd K ("line_of", none)
abbrev ad_righted (K : PySem.W.Frag) : Addr := He.fAd K ("righted", none)
abbrev ad_written (K : PySem.W.Frag) : Addr := He.fAd K ("written", none)
abbrev ad_numbers_in (K : PySem.W.Frag) : Addr := He.fAd K ("numbers_in", none)
abbrev ad_lines_of (K : PySem.W.Frag) : Addr := He.fAd K ("lines_of", none)
abbrev ad_signs_in (K : PySem.W.Frag) : Addr := He.fAd K ("signs_in", none)
abbrev ad_are_of_text (K : PySem.W.Frag) : Addr := He.fAd K ("are_of_text", none)
abbrev ad_text_of (K : PySem.W.Frag) : Addr := He.fAd K ("text_of", none)
abbrev ad__law_mixed (K : PySem.W.Frag) : Addr := He.fAd K ("_law_mixed", none)
abbrev ad__law_rest (K : PySem.W.Frag) : Addr := He.fAd K ("_law_rest", none)
abbrev ad__law_pool (K : PySem.W.Frag) : Addr := He.fAd K ("_law_pool", none)
abbrev ad__law_next (K : PySem.W.Frag) : Addr := He.fAd K ("_law_next", none)
abbrev ad__law_draw (K : PySem.W.Frag) : Addr := He.fAd K ("_law_draw", none)
abbrev ad__law_pick (K : PySem.W.Frag) : Addr := He.fAd K ("_law_pick", none)
abbrev ad__law_same (K : PySem.W.Frag) : Addr := He.fAd K ("_law_same", none)
abbrev ad__law_different (K : PySem.W.Frag) : Addr := He.fAd K ("_law_different", none)
abbrev ad__law_value_drawn (K : PySem.W.Frag) : Addr := He.fAd K ("_law_value_drawn", none)
abbrev ad__law_signs (K : PySem.W.Frag) : Addr := He.fAd K ("_law_signs", none)
abbrev ad__law_numbers (K : PySem.W.Frag) : Addr := He.fAd K ("_law_numbers", none)
abbrev ad__law_sums (K : PySem.W.Frag) : Addr := He.fAd K ("_law_sums", none)
abbrev ad__law_line (K : PySem.W.Frag) : Addr := He.fAd K ("_law_line", none)
abbrev ad_law (K : PySem.W.Frag) : Addr := He.fAd K ("law", none)
def cls (K : PySem.W.Frag) : Nat → Addr
  | 0 => He.ga K "Reader"
  | _ => 0
structure Tx (K : PySem.W.Frag) (mg : Str → Option Value) : Prop where
  g_signs_of : mg "signs_of" = some (.ref (He.ga K "signs_of"))
  k_signs_of : PySem.W.keepIn K (.ref (He.ga K "signs_of")) = true
  g_is_plain : mg "is_plain" = some (.ref (He.ga K "is_plain"))
  k_is_plain : PySem.W.keepIn K (.ref (He.ga K "is_plain")) = true
  g_value_of : mg "value_of" = some (.ref (He.ga K "value_of"))
  k_value_of : PySem.W.keepIn K (.ref (He.ga K "value_of")) = true
  g_sums : mg "sums" = some (.ref (He.ga K "sums"))
  k_sums : PySem.W.keepIn K (.ref (He.ga K "sums")) = true
  g_inverse : mg "inverse" = some (.ref (He.ga K "inverse"))
  k_inverse : PySem.W.keepIn K (.ref (He.ga K "inverse")) = true
  g_line_of : mg "line_of" = some (.ref (He.ga K "line_of"))
  k_line_of : PySem.W.keepIn K (.ref (He.ga K "line_of")) = true
  g_righted : mg "righted" = some (.ref (He.ga K "righted"))
  k_righted : PySem.W.keepIn K (.ref (He.ga K "righted")) = true
  g_written : mg "written" = some (.ref (He.ga K "written"))
  k_written : PySem.W.keepIn K (.ref (He.ga K "written")) = true
  g_numbers_in : mg "numbers_in" = some (.ref (He.ga K "numbers_in"))
  k_numbers_in : PySem.W.keepIn K (.ref (He.ga K "numbers_in")) = true
  g_lines_of : mg "lines_of" = some (.ref (He.ga K "lines_of"))
  k_lines_of : PySem.W.keepIn K (.ref (He.ga K "lines_of")) = true
  g_signs_in : mg "signs_in" = some (.ref (He.ga K "signs_in"))
  k_signs_in : PySem.W.keepIn K (.ref (He.ga K "signs_in")) = true
  g_are_of_text : mg "are_of_text" = some (.ref (He.ga K "are_of_text"))
  k_are_of_text : PySem.W.keepIn K (.ref (He.ga K "are_of_text")) = true
  g_text_of : mg "text_of" = some (.ref (He.ga K "text_of"))
  k_text_of : PySem.W.keepIn K (.ref (He.ga K "text_of")) = true
  g__law_mixed : mg "_law_mixed" = some (.ref (He.ga K "_law_mixed"))
  k__law_mixed : PySem.W.keepIn K (.ref (He.ga K "_law_mixed")) = true
  g__law_rest : mg "_law_rest" = some (.ref (He.ga K "_law_rest"))
  k__law_rest : PySem.W.keepIn K (.ref (He.ga K "_law_rest")) = true
  g__law_pool : mg "_law_pool" = some (.ref (He.ga K "_law_pool"))
  k__law_pool : PySem.W.keepIn K (.ref (He.ga K "_law_pool")) = true
  g__law_next : mg "_law_next" = some (.ref (He.ga K "_law_next"))
  k__law_next : PySem.W.keepIn K (.ref (He.ga K "_law_next")) = true
  g__law_draw : mg "_law_draw" = some (.ref (He.ga K "_law_draw"))
  k__law_draw : PySem.W.keepIn K (.ref (He.ga K "_law_draw")) = true
  g__law_pick : mg "_law_pick" = some (.ref (He.ga K "_law_pick"))
  k__law_pick : PySem.W.keepIn K (.ref (He.ga K "_law_pick")) = true
  g__law_same : mg "_law_same" = some (.ref (He.ga K "_law_same"))
  k__law_same : PySem.W.keepIn K (.ref (He.ga K "_law_same")) = true
  g__law_different : mg "_law_different" = some (.ref (He.ga K "_law_different"))
  k__law_different : PySem.W.keepIn K (.ref (He.ga K "_law_different")) = true
  g__law_value_drawn : mg "_law_value_drawn" = some (.ref (He.ga K "_law_value_drawn"))
  k__law_value_drawn : PySem.W.keepIn K (.ref (He.ga K "_law_value_drawn")) = true
  g__law_signs : mg "_law_signs" = some (.ref (He.ga K "_law_signs"))
  k__law_signs : PySem.W.keepIn K (.ref (He.ga K "_law_signs")) = true
  g__law_numbers : mg "_law_numbers" = some (.ref (He.ga K "_law_numbers"))
  k__law_numbers : PySem.W.keepIn K (.ref (He.ga K "_law_numbers")) = true
  g__law_sums : mg "_law_sums" = some (.ref (He.ga K "_law_sums"))
  k__law_sums : PySem.W.keepIn K (.ref (He.ga K "_law_sums")) = true
  g__law_line : mg "_law_line" = some (.ref (He.ga K "_law_line"))
  k__law_line : PySem.W.keepIn K (.ref (He.ga K "_law_line")) = true
  g_law : mg "law" = some (.ref (He.ga K "law"))
  k_law : PySem.W.keepIn K (.ref (He.ga K "law")) = true
  n_all : mg "all" = none
  n_any : mg "any" = none
  n_bool : mg "bool" = none
  n_dict : mg "dict" = none
  n_enumerate : mg "enumerate" = none
  n_int : mg "int" = none
  n_isinstance : mg "isinstance" = none
  n_len : mg "len" = none
  n_list : mg "list" = none
  n_max : mg "max" = none
  n_range : mg "range" = none
  n_str : mg "str" = none
  n_tuple : mg "tuple" = none
  i_DATA : ∃ t, mg "DATA" = some (.int 55 t)
  i_DIGITS : ∃ t, mg "DIGITS" = some (.str c_DIGITS t)
  i_END : ∃ t, mg "END" = some (.int 74 t)
  i_PRIME : ∃ t, mg "PRIME" = some (.int 97 t)
  i_SIGNS : ∃ t, mg "SIGNS" = some (.str c_SIGNS t)
  i_WIDE : ∃ t, mg "WIDE" = some (.int 60 t)
  gc_Reader : mg "Reader" = some (.ref (He.ga K "Reader"))
  cl_Reader : Cls K (He.ga K "Reader")
  mk_Reader : Mk K (He.ga K "Reader") (He.ma K (He.ga K "Reader") "__init__")
  na_Reader_text : NoAttr K (He.ga K "Reader") "text"
  na_Reader_at : NoAttr K (He.ga K "Reader") "at"
  mi_Reader : Meth K (He.ga K "Reader") "__init__" (He.ma K (He.ga K "Reader") "__init__")
  me_Reader_next_sign : Meth K (He.ga K "Reader") "next_sign" (He.ma K (He.ga K "Reader") "next_sign")
  me_Reader_integer : Meth K (He.ga K "Reader") "integer" (He.ma K (He.ga K "Reader") "integer")
  me_Reader_string : Meth K (He.ga K "Reader") "string" (He.ma K (He.ga K "Reader") "string")
  me_Reader_single : Meth K (He.ga K "Reader") "single" (He.ma K (He.ga K "Reader") "single")
  me_Reader_closed : Meth K (He.ga K "Reader") "closed" (He.ma K (He.ga K "Reader") "closed")
  me_Reader_ended : Meth K (He.ga K "Reader") "ended" (He.ma K (He.ga K "Reader") "ended")
  me_Reader_value : Meth K (He.ga K "Reader") "value" (He.ma K (He.ga K "Reader") "value")
  fu_signs_of : ∃ fd, Fun K "signs_of" "signs_of" s_signs_of (ad_signs_of K) fd
  fu_is_plain : ∃ fd, Fun K "is_plain" "is_plain" s_is_plain (ad_is_plain K) fd
  fu_Readeru__initu_ : ∃ fd, Fun K "__init__" "Reader.__init__" s_Readeru__initu_ (ad_Readeru__initu_ K) fd
  fu_Reader_next_sign : ∃ fd, Fun K "next_sign" "Reader.next_sign" s_Reader_next_sign (ad_Reader_next_sign K) fd
  fu_Reader_integer : ∃ fd, Fun K "integer" "Reader.integer" s_Reader_integer (ad_Reader_integer K) fd
  fu_Reader_string : ∃ fd, Fun K "string" "Reader.string" s_Reader_string (ad_Reader_string K) fd
  fu_Reader_single : ∃ fd, Fun K "single" "Reader.single" s_Reader_single (ad_Reader_single K) fd
  fu_Reader_closed : ∃ fd, Fun K "closed" "Reader.closed" s_Reader_closed (ad_Reader_closed K) fd
  fu_Reader_ended : ∃ fd, Fun K "ended" "Reader.ended" s_Reader_ended (ad_Reader_ended K) fd
  fu_Reader_value : ∃ fd, Fun K "value" "Reader.value" s_Reader_value (ad_Reader_value K) fd
  fu_value_of : ∃ fd, Fun K "value_of" "value_of" s_value_of (ad_value_of K) fd
  fu_sums : ∃ fd, Fun K "sums" "sums" s_sums (ad_sums K) fd
  fu_inverse : ∃ fd, Fun K "inverse" "inverse" s_inverse (ad_inverse K) fd
  fu_line_of : ∃ fd, Fun K "line_of" "line_of" s_line_of (ad_line_of K) fd
  fu_righted : ∃ fd, Fun K "righted" "righted" s_righted (ad_righted K) fd
  fu_written : ∃ fd, Fun K "written" "written" s_written (ad_written K) fd
  fu_numbers_in : ∃ fd, Fun K "numbers_in" "numbers_in" s_numbers_in (ad_numbers_in K) fd
  fu_lines_of : ∃ fd, Fun K "lines_of" "lines_of" s_lines_of (ad_lines_of K) fd
  fu_signs_in : ∃ fd, Fun K "signs_in" "signs_in" s_signs_in (ad_signs_in K) fd
  fu_are_of_text : ∃ fd, Fun K "are_of_text" "are_of_text" s_are_of_text (ad_are_of_text K) fd
  fu_text_of : ∃ fd, Fun K "text_of" "text_of" s_text_of (ad_text_of K) fd
  fu__law_mixed : ∃ fd, Fun K "_law_mixed" "_law_mixed" s__law_mixed (ad__law_mixed K) fd
  fu__law_rest : ∃ fd, Fun K "_law_rest" "_law_rest" s__law_rest (ad__law_rest K) fd
  fu__law_pool : ∃ fd, Fun K "_law_pool" "_law_pool" s__law_pool (ad__law_pool K) fd
  fu__law_next : ∃ fd, Fun K "_law_next" "_law_next" s__law_next (ad__law_next K) fd
  fu__law_draw : ∃ fd, Fun K "_law_draw" "_law_draw" s__law_draw (ad__law_draw K) fd
  fu__law_pick : ∃ fd, Fun K "_law_pick" "_law_pick" s__law_pick (ad__law_pick K) fd
  fu__law_same : ∃ fd, Fun K "_law_same" "_law_same" s__law_same (ad__law_same K) fd
  fu__law_different : ∃ fd, Fun K "_law_different" "_law_different" s__law_different (ad__law_different K) fd
  fu__law_value_drawn : ∃ fd, Fun K "_law_value_drawn" "_law_value_drawn" s__law_value_drawn (ad__law_value_drawn K) fd
  fu__law_signs : ∃ fd, Fun K "_law_signs" "_law_signs" s__law_signs (ad__law_signs K) fd
  fu__law_numbers : ∃ fd, Fun K "_law_numbers" "_law_numbers" s__law_numbers (ad__law_numbers K) fd
  fu__law_sums : ∃ fd, Fun K "_law_sums" "_law_sums" s__law_sums (ad__law_sums K) fd
  fu__law_line : ∃ fd, Fun K "_law_line" "_law_line" s__law_line (ad__law_line K) fd
  fu_law : ∃ fd, Fun K "law" "law" s_law (ad_law K) fd
theorem fldOk {K : PySem.W.Frag} {mg : Str → Option Value} (T : Tx K mg) : FldOk K (cls K) pr.fs := by
  intro k f h
  match k, h with
  | 0, h =>
    have h1 := List.contains_iff_mem.mp h
    have h2 : f ∈ (["text", "at"] : List Str) := h1
    simp only [List.mem_cons, List.not_mem_nil, or_false] at h2
    rcases h2 with rfl | rfl
    · exact ⟨T.cl_Reader, T.na_Reader_text⟩
    · exact ⟨T.cl_Reader, T.na_Reader_at⟩
  | (_ + 1), h => exact Bool.noConfusion (show false = true from h)
structure AllOk (Pg : Program) (w : World) (K : PySem.W.Frag) (mg : Str → Option Value) (base : Heap) (n k : Nat) : Prop where
  o_signs_of : Good Pg w K mg base (2 * k) (ad_signs_of K) ["value"] (spEv K (cls K) pr n k 0)
  o_is_plain : Good Pg w K mg base (2 * k) (ad_is_plain K) ["value"] (spEv K (cls K) pr n k 1)
  o_Readeru__initu_ : Good Pg w K mg base (2 * k) (ad_Readeru__initu_ K) ["self", "text"] (spEv K (cls K) pr n k 2)
  o_Reader_next_sign : Good Pg w K mg base (2 * k) (ad_Reader_next_sign K) ["self"] (spEv K (cls K) pr n k 3)
  o_Reader_integer : Good Pg w K mg base (2 * k) (ad_Reader_integer K) ["self"] (spEv K (cls K) pr n k 4)
  o_Reader_string : Good Pg w K mg base (2 * k) (ad_Reader_string K) ["self"] (spEv K (cls K) pr n k 5)
  o_Reader_single : Good Pg w K mg base (2 * k) (ad_Reader_single K) ["self"] (spEv K (cls K) pr n k 6)
  o_Reader_closed : Good Pg w K mg base (2 * k) (ad_Reader_closed K) ["self", "members"] (spEv K (cls K) pr n k 7)
  o_Reader_ended : Good Pg w K mg base (2 * k) (ad_Reader_ended K) ["self", "members", "found"] (spEv K (cls K) pr n k 8)
  o_Reader_value : Good Pg w K mg base (2 * k) (ad_Reader_value K) ["self"] (spEv K (cls K) pr n k 9)
  o_value_of : Good Pg w K mg base (2 * k) (ad_value_of K) ["text"] (spEv K (cls K) pr n k 10)
  o_sums : Good Pg w K mg base (2 * k) (ad_sums K) ["numbers"] (spEv K (cls K) pr n k 11)
  o_inverse : Good Pg w K mg base (2 * k) (ad_inverse K) ["number"] (spEv K (cls K) pr n k 12)
  o_line_of : Good Pg w K mg base (2 * k) (ad_line_of K) ["number", "signs"] (spEv K (cls K) pr n k 13)
  o_righted : Good Pg w K mg base (2 * k) (ad_righted K) ["numbers"] (spEv K (cls K) pr n k 14)
  o_written : Good Pg w K mg base (2 * k) (ad_written K) ["numbers"] (spEv K (cls K) pr n k 15)
  o_numbers_in : Good Pg w K mg base (2 * k) (ad_numbers_in K) ["line"] (spEv K (cls K) pr n k 16)
  o_lines_of : Good Pg w K mg base (2 * k) (ad_lines_of K) ["text"] (spEv K (cls K) pr n k 17)
  o_signs_in : Good Pg w K mg base (2 * k) (ad_signs_in K) ["line", "number"] (spEv K (cls K) pr n k 18)
  o_are_of_text : Good Pg w K mg base (2 * k) (ad_are_of_text K) ["numbers"] (spEv K (cls K) pr n k 19)
  o_text_of : Good Pg w K mg base (2 * k) (ad_text_of K) ["lines"] (spEv K (cls K) pr n k 20)
  o__law_mixed : Good Pg w K mg base (2 * k) (ad__law_mixed K) ["number", "place"] (spEv K (cls K) pr n k 21)
  o__law_rest : Good Pg w K mg base (2 * k) (ad__law_rest K) ["script", "place", "fills"] (spEv K (cls K) pr n k 22)
  o__law_pool : Good Pg w K mg base (2 * k) (ad__law_pool K) ["script"] (spEv K (cls K) pr n k 23)
  o__law_next : Good Pg w K mg base (2 * k) (ad__law_next K) ["pool"] (spEv K (cls K) pr n k 24)
  o__law_draw : Good Pg w K mg base (2 * k) (ad__law_draw K) ["pool", "limit"] (spEv K (cls K) pr n k 25)
  o__law_pick : Good Pg w K mg base (2 * k) (ad__law_pick K) ["pool", "options"] (spEv K (cls K) pr n k 26)
  o__law_same : Good Pg w K mg base (2 * k) (ad__law_same K) ["answer", "due"] (spEv K (cls K) pr n k 27)
  o__law_different : Good Pg w K mg base (2 * k) (ad__law_different K) ["items"] (spEv K (cls K) pr n k 28)
  o__law_value_drawn : Good Pg w K mg base (2 * k) (ad__law_value_drawn K) ["pool", "deep"] (spEv K (cls K) pr n k 29)
  o__law_signs : Good Pg w K mg base (2 * k) (ad__law_signs K) ["value"] (spEv K (cls K) pr n k 30)
  o__law_numbers : Good Pg w K mg base (2 * k) (ad__law_numbers K) ["line"] (spEv K (cls K) pr n k 31)
  o__law_sums : Good Pg w K mg base (2 * k) (ad__law_sums K) ["numbers"] (spEv K (cls K) pr n k 32)
  o__law_line : Good Pg w K mg base (2 * k) (ad__law_line K) ["numbers"] (spEv K (cls K) pr n k 33)
  o_law : Good Pg w K mg base (2 * k) (ad_law K) ["script"] (spEv K (cls K) pr n k 34)
section
variable {Pg : Program} {w : World} {K : PySem.W.Frag} {mg : Str → Option Value} {base : Heap} {n k : Nat}
theorem okf_signs_of {fd : FuncData} (T : Tx K mg) (O : AllOk Pg w K mg base n k) (D : Fun K "signs_of" "signs_of" s_signs_of (ad_signs_of K) fd) : FnOk Pg w K mg base CX0 (2 * (k + 1)) (ad_signs_of K) fd ["value"] (spEv K (cls K) pr n (k + 1) 0) := by
  refine fnOk_step D sc_signs_of rfl (fldOk T) (fun cdv A outer s H E hr => ?_)
  have hr0 := hr.mono (j := 2 * k) (Nat.le_succ _)
  exact (S_cons (S_if (QT_tr (Q_isi "str" T.n_isinstance T.n_str bt_str (Q_var 0))) (S_one (S_ret (Q_bin (oAdd_ok (bx := false)) (Q_bin (oAdd_ok (bx := false)) Q_str (Q_var 0)) Q_str))) S_nil) (S_cons (S_if (QT_tr (Q_isi "int" T.n_isinstance T.n_int bt_int (Q_var 0))) (S_one (S_ret (Q_str1 T.n_str (Q_var 0)))) S_nil) (S_cons (S_set 1 sc_signs_of.nd (Q_bm mJoin PySem.F.plainAttrs_str PySem.F.slot_str_join PySem.F.type_str_join mt_join Q_str (Q_cons (Q_lc false (own := [("one", 2)]) rfl sc_signs_of.nd (I_tup (Q_var 0)) (blkOk_by (by kernel_rfl)) (fun _ _ _ _ _ => (G_nm 2 sc_signs_of.nd)) (fun _ _ _ _ _ => Q_tyes) (fun _ _ _ _ _ => (Q_call O.o_signs_of hr0 T.g_signs_of T.k_signs_of (Q_cons (Q_var 2) Q_nil)))) Q_nil))) (S_one (S_ret (Q_bin (oAdd_ok (bx := false)) (Q_bin (oAdd_ok (bx := false)) Q_str (Q_var 1)) (Q_ifx (QT_cmp (oEq_ok hr.units) (Q_len T.n_len (Q_var 0)) Q_int) Q_str Q_str)))))))
theorem ok_signs_of (T : Tx K mg) (O : AllOk Pg w K mg base n k) : Good Pg w K mg base (2 * (k + 1)) (ad_signs_of K) ["value"] (spEv K (cls K) pr n (k + 1) 0) := by
  obtain ⟨fd, D⟩ := T.fu_signs_of
  exact ⟨fd, okf_signs_of T O D, D.binds (fun _ _ _ _ _ _ us hl => match us, hl with | [_], _ => rfl)⟩
theorem okf_is_plain {fd : FuncData} (T : Tx K mg) (O : AllOk Pg w K mg base n k) (D : Fun K "is_plain" "is_plain" s_is_plain (ad_is_plain K) fd) : FnOk Pg w K mg base CX0 (2 * (k + 1)) (ad_is_plain K) fd ["value"] (spEv K (cls K) pr n (k + 1) 1) := by
  refine fnOk_step D sc_is_plain rfl (fldOk T) (fun cdv A outer s H E hr => ?_)
  have hr0 := hr.mono (j := 2 * k) (Nat.le_succ _)
  exact (S_cons (S_if (QT_tr (Q_isi "tuple" T.n_isinstance T.n_tuple bt_tuple (Q_var 0))) (S_one (S_ret (Q_all rfl T.n_all (Q_lc false (own := [("one", 1)]) rfl sc_is_plain.nd (I_tup (Q_var 0)) (blkOk_by (by kernel_rfl)) (fun _ _ _ _ _ => (G_nm 1 sc_is_plain.nd)) (fun _ _ _ _ _ => Q_tyes) (fun _ _ _ _ _ => (Q_call O.o_is_plain hr0 T.g_is_plain T.k_is_plain (Q_cons (Q_var 1) Q_nil))))))) S_nil) (S_cons (S_if (QT_tr (Q_isi "str" T.n_isinstance T.n_str bt_str (Q_var 0))) (S_one (S_ret (Q_all rfl T.n_all (Q_lc false (own := [("sign", 2)]) rfl sc_is_plain.nd (I_str (Q_var 0)) (blkOk_by (by kernel_rfl)) (fun _ _ _ _ _ => (G_nm 2 sc_is_plain.nd)) (fun _ _ _ _ _ => Q_tyes) (fun _ _ _ _ _ => (Q_and (Q_cmp oIn_ok (Q_var 2) (Q_gstr T.i_SIGNS)) (Q_one (Q_cmp (oNe_ok hr.units) (Q_var 2) Q_str)))))))) S_nil) (S_one (S_ret (Q_and (Q_isi "int" T.n_isinstance T.n_int bt_int (Q_var 0)) (Q_one (Q_not (Q_isi "bool" T.n_isinstance T.n_bool bt_bool (Q_var 0)))))))))
theorem ok_is_plain (T : Tx K mg) (O : AllOk Pg w K mg base n k) : Good Pg w K mg base (2 * (k + 1)) (ad_is_plain K) ["value"] (spEv K (cls K) pr n (k + 1) 1) := by
  obtain ⟨fd, D⟩ := T.fu_is_plain
  exact ⟨fd, okf_is_plain T O D, D.binds (fun _ _ _ _ _ _ us hl => match us, hl with | [_], _ => rfl)⟩
theorem okf_Readeru__initu_ {fd : FuncData} (T : Tx K mg) (O : AllOk Pg w K mg base n k) (D : Fun K "__init__" "Reader.__init__" s_Readeru__initu_ (ad_Readeru__initu_ K) fd) : FnOk Pg w K mg base CX0 (2 * (k + 1)) (ad_Readeru__initu_ K) fd ["self", "text"] (spEv K (cls K) pr n (k + 1) 2) := by
  refine fnOk_step D sc_Readeru__initu_ rfl (fldOk T) (fun cdv A outer s H E hr => ?_)
  have hr0 := hr.mono (j := 2 * k) (Nat.le_succ _)
  exact (S_cons (S_setF 0 (Q_var 1) (Q_var 0)) (S_one (S_setF 0 Q_int (Q_var 0))))
theorem ok_Readeru__initu_ (T : Tx K mg) (O : AllOk Pg w K mg base n k) : Good Pg w K mg base (2 * (k + 1)) (ad_Readeru__initu_ K) ["self", "text"] (spEv K (cls K) pr n (k + 1) 2) := by
  obtain ⟨fd, D⟩ := T.fu_Readeru__initu_
  exact ⟨fd, okf_Readeru__initu_ T O D, D.binds (fun _ _ _ _ _ _ us hl => match us, hl with | [_, _], _ => rfl)⟩
theorem okf_Reader_next_sign {fd : FuncData} (T : Tx K mg) (O : AllOk Pg w K mg base n k) (D : Fun K "next_sign" "Reader.next_sign" s_Reader_next_sign (ad_Reader_next_sign K) fd) : FnOk Pg w K mg base CX0 (2 * (k + 1)) (ad_Reader_next_sign K) fd ["self"] (spEv K (cls K) pr n (k + 1) 3) := by
  refine fnOk_step D sc_Reader_next_sign rfl (fldOk T) (fun cdv A outer s H E hr => ?_)
  have hr0 := hr.mono (j := 2 * k) (Nat.le_succ _)
  exact (S_one (S_ret (Q_sl false (Q_fld 0 (Q_var 0)) (Q_pso (Q_fld 0 (Q_var 0))) (Q_pso (Q_bin (oAdd_ok (bx := false)) (Q_fld 0 (Q_var 0)) Q_int)))))
theorem ok_Reader_next_sign (T : Tx K mg) (O : AllOk Pg w K mg base n k) : Good Pg w K mg base (2 * (k + 1)) (ad_Reader_next_sign K) ["self"] (spEv K (cls K) pr n (k + 1) 3) := by
  obtain ⟨fd, D⟩ := T.fu_Reader_next_sign
  exact ⟨fd, okf_Reader_next_sign T O D, D.binds (fun _ _ _ _ _ _ us hl => match us, hl with | [_], _ => rfl)⟩
theorem okf_Reader_integer {fd : FuncData} (T : Tx K mg) (O : AllOk Pg w K mg base n k) (D : Fun K "integer" "Reader.integer" s_Reader_integer (ad_Reader_integer K) fd) : FnOk Pg w K mg base CX0 (2 * (k + 1)) (ad_Reader_integer K) fd ["self"] (spEv K (cls K) pr n (k + 1) 4) := by
  refine fnOk_step D sc_Reader_integer rfl (fldOk T) (fun cdv A outer s H E hr => ?_)
  have hr0 := hr.mono (j := 2 * k) (Nat.le_succ _)
  exact (S_cons (S_set 1 sc_Reader_integer.nd (Q_fld 0 (Q_var 0))) (S_cons (S_if (QT_cmp (oEq_ok hr.units) (Q_meth0 T.cl_Reader T.me_Reader_next_sign O.o_Reader_next_sign hr0 (Q_var 0)) Q_str) (S_one (S_setF 0 (Q_bin (oAdd_ok (bx := false)) (Q_fld 0 (Q_var 0)) Q_int) (Q_var 0))) S_nil) (S_cons (S_while PassesOwn.never (PW.pt (QW_and (QT_cmp (oNe_ok hr.units) (Q_meth0 T.cl_Reader T.me_Reader_next_sign O.o_Reader_next_sign hr0 (Q_var 0)) Q_str) (QW_and1 (QT_cmp oIn_ok (Q_meth0 T.cl_Reader T.me_Reader_next_sign O.o_Reader_next_sign hr0 (Q_var 0)) (Q_gstr T.i_DIGITS))))) (S_one (S_setF 0 (Q_bin (oAdd_ok (bx := false)) (Q_fld 0 (Q_var 0)) Q_int) (Q_var 0)))) (S_cons (S_set 2 sc_Reader_integer.nd (Q_sl false (Q_fld 0 (Q_var 0)) (Q_pso (Q_var 1)) (Q_pso (Q_fld 0 (Q_var 0))))) (S_cons (S_set 3 sc_Reader_integer.nd (Q_bm mLstrip PySem.F.plainAttrs_str PySem.F.slot_str_lstrip PySem.F.type_str_lstrip mLstrip_ok (Q_var 2) (Q_cons Q_str Q_nil))) (S_cons (S_if (PW.pt (QW_or (QT_cmp (oEq_ok hr.units) (Q_var 3) Q_str) (QW_or1 (PW.pt (QW_and (QT_cmp (oEq_ok hr.units) (Q_ix (Q_var 3) Q_int) Q_str) (QW_and1 (QT_cmp (oNe_ok hr.units) (Q_var 2) Q_str))))))) (S_one (S_ret Q_non)) S_nil) (S_one (S_ret (Q_int1 T.n_int (Q_var 2))))))))))
theorem ok_Reader_integer (T : Tx K mg) (O : AllOk Pg w K mg base n k) : Good Pg w K mg base (2 * (k + 1)) (ad_Reader_integer K) ["self"] (spEv K (cls K) pr n (k + 1) 4) := by
  obtain ⟨fd, D⟩ := T.fu_Reader_integer
  exact ⟨fd, okf_Reader_integer T O D, D.binds (fun _ _ _ _ _ _ us hl => match us, hl with | [_], _ => rfl)⟩
theorem okf_Reader_string {fd : FuncData} (T : Tx K mg) (O : AllOk Pg w K mg base n k) (D : Fun K "string" "Reader.string" s_Reader_string (ad_Reader_string K) fd) : FnOk Pg w K mg base CX0 (2 * (k + 1)) (ad_Reader_string K) fd ["self"] (spEv K (cls K) pr n (k + 1) 5) := by
  refine fnOk_step D sc_Reader_string rfl (fldOk T) (fun cdv A outer s H E hr => ?_)
  have hr0 := hr.mono (j := 2 * k) (Nat.le_succ _)
  exact (S_cons (S_set 1 sc_Reader_string.nd (Q_bm mFind3 PySem.F.plainAttrs_str PySem.F.slot_str_find PySem.F.type_str_find mt_find3 (Q_fld 0 (Q_var 0)) (Q_cons Q_str (Q_cons (Q_bin (oAdd_ok (bx := false)) (Q_fld 0 (Q_var 0)) Q_int) Q_nil)))) (S_cons (S_if (QT_cmp oLt_ok (Q_var 1) Q_int) (S_one (S_ret Q_non)) S_nil) (S_cons (S_set 2 sc_Reader_string.nd (Q_sl false (Q_fld 0 (Q_var 0)) (Q_pso (Q_bin (oAdd_ok (bx := false)) (Q_fld 0 (Q_var 0)) Q_int)) (Q_pso (Q_var 1)))) (S_cons (S_setF 0 (Q_bin (oAdd_ok (bx := false)) (Q_var 1) Q_int) (Q_var 0)) (S_one (S_ret (Q_ifx (QT_tr (Q_all rfl T.n_all (Q_lc false (own := [("sign", 3)]) rfl sc_Reader_string.nd (I_str (Q_var 2)) (blkOk_by (by kernel_rfl)) (fun _ _ _ _ _ => (G_nm 3 sc_Reader_string.nd)) (fun _ _ _ _ _ => Q_tyes) (fun _ _ _ _ _ => (Q_cmp oIn_ok (Q_var 3) (Q_gstr T.i_SIGNS)))))) (Q_var 2) Q_non)))))))
theorem ok_Reader_string (T : Tx K mg) (O : AllOk Pg w K mg base n k) : Good Pg w K mg base (2 * (k + 1)) (ad_Reader_string K) ["self"] (spEv K (cls K) pr n (k + 1) 5) := by
  obtain ⟨fd, D⟩ := T.fu_Reader_string
  exact ⟨fd, okf_Reader_string T O D, D.binds (fun _ _ _ _ _ _ us hl => match us, hl with | [_], _ => rfl)⟩
theorem okf_Reader_single {fd : FuncData} (T : Tx K mg) (O : AllOk Pg w K mg base n k) (D : Fun K "single" "Reader.single" s_Reader_single (ad_Reader_single K) fd) : FnOk Pg w K mg base CX0 (2 * (k + 1)) (ad_Reader_single K) fd ["self"] (spEv K (cls K) pr n (k + 1) 6) := by
  refine fnOk_step D sc_Reader_single rfl (fldOk T) (fun cdv A outer s H E hr => ?_)
  have hr0 := hr.mono (j := 2 * k) (Nat.le_succ _)
  exact (S_one (S_ret (Q_ifx (QT_cmp (oEq_ok hr.units) (Q_meth0 T.cl_Reader T.me_Reader_next_sign O.o_Reader_next_sign hr0 (Q_var 0)) Q_str) (Q_meth0 T.cl_Reader T.me_Reader_string O.o_Reader_string hr0 (Q_var 0)) (Q_meth0 T.cl_Reader T.me_Reader_integer O.o_Reader_integer hr0 (Q_var 0)))))
theorem ok_Reader_single (T : Tx K mg) (O : AllOk Pg w K mg base n k) : Good Pg w K mg base (2 * (k + 1)) (ad_Reader_single K) ["self"] (spEv K (cls K) pr n (k + 1) 6) := by
  obtain ⟨fd, D⟩ := T.fu_Reader_single
  exact ⟨fd, okf_Reader_single T O D, D.binds (fun _ _ _ _ _ _ us hl => match us, hl with | [_], _ => rfl)⟩
theorem okf_Reader_closed {fd : FuncData} (T : Tx K mg) (O : AllOk Pg w K mg base n k) (D : Fun K "closed" "Reader.closed" s_Reader_closed (ad_Reader_closed K) fd) : FnOk Pg w K mg base CX0 (2 * (k + 1)) (ad_Reader_closed K) fd ["self", "members"] (spEv K (cls K) pr n (k + 1) 7) := by
  refine fnOk_step D sc_Reader_closed rfl (fldOk T) (fun cdv A outer s H E hr => ?_)
  have hr0 := hr.mono (j := 2 * k) (Nat.le_succ _)
  exact (S_cons (S_setF 0 (Q_bin (oAdd_ok (bx := false)) (Q_fld 0 (Q_var 0)) Q_int) (Q_var 0)) (S_one (S_ret (Q_tuple1 T.n_tuple (Q_bm0 mPop PySem.F.plainAttrs_list PySem.F.slot_list_pop PySem.F.type_list_pop mt_pop (Q_var 1))))))
theorem ok_Reader_closed (T : Tx K mg) (O : AllOk Pg w K mg base n k) : Good Pg w K mg base (2 * (k + 1)) (ad_Reader_closed K) ["self", "members"] (spEv K (cls K) pr n (k + 1) 7) := by
  obtain ⟨fd, D⟩ := T.fu_Reader_closed
  exact ⟨fd, okf_Reader_closed T O D, D.binds (fun _ _ _ _ _ _ us hl => match us, hl with | [_, _], _ => rfl)⟩
theorem okf_Reader_ended {fd : FuncData} (T : Tx K mg) (O : AllOk Pg w K mg base n k) (D : Fun K "ended" "Reader.ended" s_Reader_ended (ad_Reader_ended K) fd) : FnOk Pg w K mg base CX0 (2 * (k + 1)) (ad_Reader_ended K) fd ["self", "members", "found"] (spEv K (cls K) pr n (k + 1) 8) := by
  refine fnOk_step D sc_Reader_ended rfl (fldOk T) (fun cdv A outer s H E hr => ?_)
  have hr0 := hr.mono (j := 2 * k) (Nat.le_succ _)
  exact (S_cons (S_while PassesOwn.never (QT_tr (Q_var 1)) (S_cons (S_expr (Q_bm mAppend PySem.F.plainAttrs_list PySem.F.slot_list_append PySem.F.type_list_append mt_append (Q_ix (Q_var 1) (Q_neg Q_int)) (Q_cons (Q_var 2) Q_nil))) (S_cons (S_if (QT_cmp (oEq_ok hr.units) (Q_meth0 T.cl_Reader T.me_Reader_next_sign O.o_Reader_next_sign hr0 (Q_var 0)) Q_str) (S_cons (S_setF 0 (Q_bin (oAdd_ok (bx := false)) (Q_fld 0 (Q_var 0)) Q_int) (Q_var 0)) (S_one (S_if (QT_cmp (oNe_ok hr.units) (Q_meth0 T.cl_Reader T.me_Reader_next_sign O.o_Reader_next_sign hr0 (Q_var 0)) Q_str) (S_one S_brk) S_nil))) (S_one (S_if (QT_cmp (oNe_ok hr.units) (Q_meth0 T.cl_Reader T.me_Reader_next_sign O.o_Reader_next_sign hr0 (Q_var 0)) Q_str) (S_one (S_ret Q_non)) S_nil))) (S_one (S_set 2 sc_Reader_ended.nd (Q_meth T.cl_Reader T.me_Reader_closed O.o_Reader_closed hr0 (Q_var 0) (Q_cons (Q_var 1) Q_nil))))))) (S_one (S_ret (Q_var 2))))
theorem ok_Reader_ended (T : Tx K mg) (O : AllOk Pg w K mg base n k) : Good Pg w K mg base (2 * (k + 1)) (ad_Reader_ended K) ["self", "members", "found"] (spEv K (cls K) pr n (k + 1) 8) := by
  obtain ⟨fd, D⟩ := T.fu_Reader_ended
  exact ⟨fd, okf_Reader_ended T O D, D.binds (fun _ _ _ _ _ _ us hl => match us, hl with | [_, _, _], _ => rfl)⟩
theorem okf_Reader_value {fd : FuncData} (T : Tx K mg) (O : AllOk Pg w K mg base n k) (D : Fun K "value" "Reader.value" s_Reader_value (ad_Reader_value K) fd) : FnOk Pg w K mg base CX0 (2 * (k + 1)) (ad_Reader_value K) fd ["self"] (spEv K (cls K) pr n (k + 1) 9) := by
  refine fnOk_step D sc_Reader_value rfl (fldOk T) (fun cdv A outer s H E hr => ?_)
  have hr0 := hr.mono (j := 2 * k) (Nat.le_succ _)
  exact (S_cons (S_set 1 sc_Reader_value.nd (Q_disp true Q_nil)) (S_cons (S_set 2 sc_Reader_value.nd Q_non) (S_cons (S_while PassesOwn.never (PW.pt (QW_or (QT_cmp oIs_ok (Q_var 2) Q_non) (QW_or1 (QT_tr (Q_var 1))))) (S_cons (S_if (QT_cmp (oEq_ok hr.units) (Q_meth0 T.cl_Reader T.me_Reader_next_sign O.o_Reader_next_sign hr0 (Q_var 0)) Q_str) (S_cons (S_setF 0 (Q_bin (oAdd_ok (bx := false)) (Q_fld 0 (Q_var 0)) Q_int) (Q_var 0)) (S_cons (S_expr (Q_bm mAppend PySem.F.plainAttrs_list PySem.F.slot_list_append PySem.F.type_list_append mt_append (Q_var 1) (Q_cons (Q_disp true Q_nil) Q_nil))) (S_cons (S_if (QT_cmp (oNe_ok hr.units) (Q_meth0 T.cl_Reader T.me_Reader_next_sign O.o_Reader_next_sign hr0 (Q_var 0)) Q_str) (S_one S_cnt) S_nil) (S_one (S_set 2 sc_Reader_value.nd (Q_meth T.cl_Reader T.me_Reader_closed O.o_Reader_closed hr0 (Q_var 0) (Q_cons (Q_var 1) Q_nil))))))) (S_one (S_set 2 sc_Reader_value.nd (Q_meth0 T.cl_Reader T.me_Reader_single O.o_Reader_single hr0 (Q_var 0))))) (S_cons (S_set 2 sc_Reader_value.nd (Q_ifx (QT_cmp oIs_ok (Q_var 2) Q_non) Q_non (Q_meth T.cl_Reader T.me_Reader_ended O.o_Reader_ended hr0 (Q_var 0) (Q_cons (Q_var 1) (Q_cons (Q_var 2) Q_nil))))) (S_one (S_if (QT_cmp oIs_ok (Q_var 2) Q_non) (S_one (S_ret Q_non)) S_nil))))) (S_one (S_ret (Q_var 2))))))
theorem ok_Reader_value (T : Tx K mg) (O : AllOk Pg w K mg base n k) : Good Pg w K mg base (2 * (k + 1)) (ad_Reader_value K) ["self"] (spEv K (cls K) pr n (k + 1) 9) := by
  obtain ⟨fd, D⟩ := T.fu_Reader_value
  exact ⟨fd, okf_Reader_value T O D, D.binds (fun _ _ _ _ _ _ us hl => match us, hl with | [_], _ => rfl)⟩
theorem okf_value_of {fd : FuncData} (T : Tx K mg) (O : AllOk Pg w K mg base n k) (D : Fun K "value_of" "value_of" s_value_of (ad_value_of K) fd) : FnOk Pg w K mg base CX0 (2 * (k + 1)) (ad_value_of K) fd ["text"] (spEv K (cls K) pr n (k + 1) 10) := by
  refine fnOk_step D sc_value_of rfl (fldOk T) (fun cdv A outer s H E hr => ?_)
  have hr0 := hr.mono (j := 2 * k) (Nat.le_succ _)
  exact (S_cons (S_set 1 sc_value_of.nd (Q_new T.mk_Reader O.o_Readeru__initu_ hr T.gc_Reader (Q_cons (Q_var 0) Q_nil))) (S_cons (S_set 2 sc_value_of.nd (Q_meth0 T.cl_Reader T.me_Reader_value O.o_Reader_value hr0 (Q_var 1))) (S_one (S_ret (Q_ifx (PW.pt (QW_and (QT_cmp oIsNot_ok (Q_var 2) Q_non) (QW_and (QT_cmp (oEq_ok hr.units) (Q_fld 0 (Q_var 1)) (Q_len T.n_len (Q_var 0))) (QW_and1 (QT_cmp (oEq_ok hr.units) (Q_call O.o_signs_of hr0 T.g_signs_of T.k_signs_of (Q_cons (Q_var 2) Q_nil)) (Q_var 0)))))) (Q_var 2) Q_non)))))
theorem ok_value_of (T : Tx K mg) (O : AllOk Pg w K mg base n k) : Good Pg w K mg base (2 * (k + 1)) (ad_value_of K) ["text"] (spEv K (cls K) pr n (k + 1) 10) := by
  obtain ⟨fd, D⟩ := T.fu_value_of
  exact ⟨fd, okf_value_of T O D, D.binds (fun _ _ _ _ _ _ us hl => match us, hl with | [_], _ => rfl)⟩
theorem okf_sums {fd : FuncData} (T : Tx K mg) (O : AllOk Pg w K mg base n k) (D : Fun K "sums" "sums" s_sums (ad_sums K) fd) : FnOk Pg w K mg base CX0 (2 * (k + 1)) (ad_sums K) fd ["numbers"] (spEv K (cls K) pr n (k + 1) 11) := by
  refine fnOk_step D sc_sums rfl (fldOk T) (fun cdv A outer s H E hr => ?_)
  have hr0 := hr.mono (j := 2 * k) (Nat.le_succ _)
  exact (S_cons (S_set 1 sc_sums.nd (Q_disp true (Q_cons Q_int (Q_cons Q_int (Q_cons Q_int Q_nil))))) (S_cons (S_for PassesOwn.never rfl (I_enum T.n_enumerate (Q_var 0)) (G_tup rfl (G_cons (G_nm 2 sc_sums.nd) (G_cons (G_nm 3 sc_sums.nd) G_nil))) (S_cons (S_set 4 sc_sums.nd (Q_bin (oAdd_ok (bx := false)) (Q_var 2) Q_int)) (S_cons (S_set 1 sc_sums.nd (Q_disp true (Q_cons (Q_bin oMod_ok (Q_bin (oAdd_ok (bx := false)) (Q_ix (Q_var 1) Q_int) (Q_var 3)) (Q_gint T.i_PRIME)) (Q_cons (Q_bin oMod_ok (Q_bin (oAdd_ok (bx := false)) (Q_ix (Q_var 1) Q_int) (Q_bin (oMul_ok (bx := false)) (Q_var 4) (Q_var 3))) (Q_gint T.i_PRIME)) (Q_cons (Q_bin (oAdd_ok (bx := false)) (Q_ix (Q_var 1) Q_int) (Q_bin (oMul_ok (bx := false)) (Q_bin (oMul_ok (bx := false)) (Q_var 4) (Q_var 4)) (Q_var 3))) Q_nil))))) (S_one (S_setI (Q_bin oMod_ok (Q_ix (Q_var 1) Q_int) (Q_gint T.i_PRIME)) (Q_var 1) Q_int))))) (S_one (S_ret (Q_frz (Q_var 1))))))
theorem ok_sums (T : Tx K mg) (O : AllOk Pg w K mg base n k) : Good Pg w K mg base (2 * (k + 1)) (ad_sums K) ["numbers"] (spEv K (cls K) pr n (k + 1) 11) := by
  obtain ⟨fd, D⟩ := T.fu_sums
  exact ⟨fd, okf_sums T O D, D.binds (fun _ _ _ _ _ _ us hl => match us, hl with | [_], _ => rfl)⟩
theorem okf_inverse {fd : FuncData} (T : Tx K mg) (O : AllOk Pg w K mg base n k) (D : Fun K "inverse" "inverse" s_inverse (ad_inverse K) fd) : FnOk Pg w K mg base CX0 (2 * (k + 1)) (ad_inverse K) fd ["number"] (spEv K (cls K) pr n (k + 1) 12) := by
  refine fnOk_step D sc_inverse rfl (fldOk T) (fun cdv A outer s H E hr => ?_)
  have hr0 := hr.mono (j := 2 * k) (Nat.le_succ _)
  exact (S_one (S_ret (Q_ix (Q_lc false (own := [("other", 1)]) rfl sc_inverse.nd (I_r1 T.n_range (Q_gint T.i_PRIME)) (blkOk_by (by kernel_rfl)) (fun _ _ _ _ _ => (G_nm 1 sc_inverse.nd)) (fun _ _ _ _ _ => (Q_tone (QT_cmp (oEq_ok hr.units) (Q_bin oMod_ok (Q_bin (oMul_ok (bx := false)) (Q_var 0) (Q_var 1)) (Q_gint T.i_PRIME)) Q_int))) (fun _ _ _ _ _ => (Q_var 1))) Q_int)))
theorem ok_inverse (T : Tx K mg) (O : AllOk Pg w K mg base n k) : Good Pg w K mg base (2 * (k + 1)) (ad_inverse K) ["number"] (spEv K (cls K) pr n (k + 1) 12) := by
  obtain ⟨fd, D⟩ := T.fu_inverse
  exact ⟨fd, okf_inverse T O D, D.binds (fun _ _ _ _ _ _ us hl => match us, hl with | [_], _ => rfl)⟩
theorem okf_line_of {fd : FuncData} (T : Tx K mg) (O : AllOk Pg w K mg base n k) (D : Fun K "line_of" "line_of" s_line_of (ad_line_of K) fd) : FnOk Pg w K mg base CX0 (2 * (k + 1)) (ad_line_of K) fd ["number", "signs"] (spEv K (cls K) pr n (k + 1) 13) := by
  refine fnOk_step D sc_line_of rfl (fldOk T) (fun cdv A outer s H E hr => ?_)
  have hr0 := hr.mono (j := 2 * k) (Nat.le_succ _)
  exact (S_cons (S_set 2 sc_line_of.nd (Q_bin (oAdd_ok (bx := false)) (Q_disp false (Q_cons (Q_bin oDiv_ok (Q_var 0) (Q_gint T.i_PRIME)) (Q_cons (Q_bin oMod_ok (Q_var 0) (Q_gint T.i_PRIME)) Q_nil))) (Q_var 1))) (S_cons (S_asg (Q_call O.o_sums hr0 T.g_sums T.k_sums (Q_cons (Q_var 2) Q_nil)) (G_unl rfl (G_cons (G_nm 3 sc_line_of.nd) (G_cons (G_nm 4 sc_line_of.nd) (G_cons (G_nm 5 sc_line_of.nd) G_nil))))) (S_cons (S_set 6 sc_line_of.nd (Q_gint T.i_WIDE)) (S_cons (S_set 7 sc_line_of.nd (Q_call O.o_inverse hr0 T.g_inverse T.k_inverse (Q_cons Q_int Q_nil))) (S_cons (S_set 8 sc_line_of.nd (Q_bin (oMul_ok (bx := false)) (Q_bin (oAdd_ok (bx := false)) (Q_bin oSub_ok (Q_var 5) (Q_bin (oMul_ok (bx := false)) (Q_bin oSub_ok (Q_bin (oMul_ok (bx := false)) Q_int (Q_var 6)) Q_int) (Q_var 4))) (Q_bin (oMul_ok (bx := false)) (Q_bin (oMul_ok (bx := false)) (Q_bin oSub_ok (Q_var 6) Q_int) (Q_bin oSub_ok (Q_var 6) Q_int)) (Q_var 3))) (Q_var 7))) (S_cons (S_set 9 sc_line_of.nd (Q_bin (oAdd_ok (bx := false)) (Q_bin oSub_ok (Q_var 5) (Q_bin (oMul_ok (bx := false)) (Q_bin oSub_ok (Q_bin (oMul_ok (bx := false)) Q_int (Q_var 6)) Q_int) (Q_var 4))) (Q_bin (oMul_ok (bx := false)) (Q_bin (oMul_ok (bx := false)) (Q_var 6) (Q_bin oSub_ok (Q_var 6) Q_int)) (Q_var 3)))) (S_cons (S_set 10 sc_line_of.nd (Q_bin (oMul_ok (bx := false)) (Q_bin (oAdd_ok (bx := false)) (Q_bin oSub_ok (Q_var 5) (Q_bin (oMul_ok (bx := false)) (Q_bin oSub_ok (Q_bin (oMul_ok (bx := false)) Q_int (Q_var 6)) Q_int) (Q_var 4))) (Q_bin (oMul_ok (bx := false)) (Q_bin (oMul_ok (bx := false)) (Q_var 6) (Q_bin oSub_ok (Q_var 6) Q_int)) (Q_var 3))) (Q_var 7))) (S_one (S_ret (Q_bin (oAdd_ok (bx := false)) (Q_var 2) (Q_disp false (Q_cons (Q_bin oMod_ok (Q_neg (Q_var 10)) (Q_gint T.i_PRIME)) (Q_cons (Q_bin oMod_ok (Q_var 9) (Q_gint T.i_PRIME)) (Q_cons (Q_bin oMod_ok (Q_neg (Q_var 8)) (Q_gint T.i_PRIME)) Q_nil))))))))))))))
theorem ok_line_of (T : Tx K mg) (O : AllOk Pg w K mg base n k) : Good Pg w K mg base (2 * (k + 1)) (ad_line_of K) ["number", "signs"] (spEv K (cls K) pr n (k + 1) 13) := by
  obtain ⟨fd, D⟩ := T.fu_line_of
  exact ⟨fd, okf_line_of T O D, D.binds (fun _ _ _ _ _ _ us hl => match us, hl with | [_, _], _ => rfl)⟩
theorem okf_righted {fd : FuncData} (T : Tx K mg) (O : AllOk Pg w K mg base n k) (D : Fun K "righted" "righted" s_righted (ad_righted K) fd) : FnOk Pg w K mg base CX0 (2 * (k + 1)) (ad_righted K) fd ["numbers"] (spEv K (cls K) pr n (k + 1) 14) := by
  refine fnOk_step D sc_righted rfl (fldOk T) (fun cdv A outer s H E hr => ?_)
  have hr0 := hr.mono (j := 2 * k) (Nat.le_succ _)
  exact (S_cons (S_asg (Q_call O.o_sums hr0 T.g_sums T.k_sums (Q_cons (Q_var 0) Q_nil)) (G_unl rfl (G_cons (G_nm 1 sc_righted.nd) (G_cons (G_nm 2 sc_righted.nd) (G_cons (G_nm 3 sc_righted.nd) G_nil))))) (S_cons (S_if (QT_cmp (oEq_ok hr.units) (Q_disp false (Q_cons (Q_var 1) (Q_cons (Q_var 2) (Q_cons (Q_var 3) Q_nil)))) (Q_disp false (Q_cons Q_int (Q_cons Q_int (Q_cons Q_int Q_nil))))) (S_one (S_ret (Q_list1 false T.n_list (Q_var 0)))) S_nil) (S_cons (S_if (QT_cmp (oEq_ok hr.units) (Q_var 1) Q_int) (S_one (S_ret Q_non)) S_nil) (S_cons (S_set 4 sc_righted.nd (Q_bin oMod_ok (Q_bin (oMul_ok (bx := false)) (Q_var 2) (Q_call O.o_inverse hr0 T.g_inverse T.k_inverse (Q_cons (Q_var 1) Q_nil))) (Q_gint T.i_PRIME))) (S_cons (S_if (PW.pt (QW_or (QT_not (QT_chain oLe_ok oLe_ok Q_int (Q_var 4) (Q_gint T.i_WIDE))) (QW_or1 (QT_cmp (oNe_ok hr.units) (Q_var 3) (Q_bin oMod_ok (Q_bin (oMul_ok (bx := false)) (Q_var 4) (Q_var 2)) (Q_gint T.i_PRIME)))))) (S_one (S_ret Q_non)) S_nil) (S_cons (S_set 5 sc_righted.nd (Q_list1 true T.n_list (Q_var 0))) (S_cons (S_setI (Q_bin oMod_ok (Q_bin oSub_ok (Q_ix (Q_var 5) (Q_bin oSub_ok (Q_var 4) Q_int)) (Q_var 1)) (Q_gint T.i_PRIME)) (Q_var 5) (Q_bin oSub_ok (Q_var 4) Q_int)) (S_one (S_ret (Q_frz (Q_var 5)))))))))))
theorem ok_righted (T : Tx K mg) (O : AllOk Pg w K mg base n k) : Good Pg w K mg base (2 * (k + 1)) (ad_righted K) ["numbers"] (spEv K (cls K) pr n (k + 1) 14) := by
  obtain ⟨fd, D⟩ := T.fu_righted
  exact ⟨fd, okf_righted T O D, D.binds (fun _ _ _ _ _ _ us hl => match us, hl with | [_], _ => rfl)⟩
theorem okf_written {fd : FuncData} (T : Tx K mg) (O : AllOk Pg w K mg base n k) (D : Fun K "written" "written" s_written (ad_written K) fd) : FnOk Pg w K mg base CX0 (2 * (k + 1)) (ad_written K) fd ["numbers"] (spEv K (cls K) pr n (k + 1) 15) := by
  refine fnOk_step D sc_written rfl (fldOk T) (fun cdv A outer s H E hr => ?_)
  have hr0 := hr.mono (j := 2 * k) (Nat.le_succ _)
  exact (S_one (S_ret (Q_bm mJoin PySem.F.plainAttrs_str PySem.F.slot_str_join PySem.F.type_str_join mt_join Q_str (Q_cons (Q_lc false (own := [("number", 1)]) rfl sc_written.nd (I_list (Q_var 0)) (blkOk_by (by kernel_rfl)) (fun _ _ _ _ _ => (G_nm 1 sc_written.nd)) (fun _ _ _ _ _ => Q_tyes) (fun _ _ _ _ _ => (Q_bin (oAdd_ok (bx := false)) (Q_str1 T.n_str (Q_bin oDiv_ok (Q_var 1) Q_int)) (Q_str1 T.n_str (Q_bin oMod_ok (Q_var 1) Q_int))))) Q_nil))))
theorem ok_written (T : Tx K mg) (O : AllOk Pg w K mg base n k) : Good Pg w K mg base (2 * (k + 1)) (ad_written K) ["numbers"] (spEv K (cls K) pr n (k + 1) 15) := by
  obtain ⟨fd, D⟩ := T.fu_written
  exact ⟨fd, okf_written T O D, D.binds (fun _ _ _ _ _ _ us hl => match us, hl with | [_], _ => rfl)⟩
theorem okf_numbers_in {fd : FuncData} (T : Tx K mg) (O : AllOk Pg w K mg base n k) (D : Fun K "numbers_in" "numbers_in" s_numbers_in (ad_numbers_in K) fd) : FnOk Pg w K mg base CX0 (2 * (k + 1)) (ad_numbers_in K) fd ["line"] (spEv K (cls K) pr n (k + 1) 16) := by
  refine fnOk_step D sc_numbers_in rfl (fldOk T) (fun cdv A outer s H E hr => ?_)
  have hr0 := hr.mono (j := 2 * k) (Nat.le_succ _)
  exact (S_cons (S_if (PW.pt (QW_or (QT_not (QT_tr (Q_isi "str" T.n_isinstance T.n_str bt_str (Q_var 0)))) (QW_or (QT_cmp (oNe_ok hr.units) (Q_len T.n_len (Q_var 0)) (Q_bin (oMul_ok (bx := false)) Q_int (Q_gint T.i_WIDE))) (QW_or1 (QT_not (QT_tr (Q_all rfl T.n_all (Q_lc false (own := [("sign", 1)]) rfl sc_numbers_in.nd (I_str (Q_var 0)) (blkOk_by (by kernel_rfl)) (fun _ _ _ _ _ => (G_nm 1 sc_numbers_in.nd)) (fun _ _ _ _ _ => Q_tyes) (fun _ _ _ _ _ => (Q_cmp oIn_ok (Q_var 1) Q_str)))))))))) (S_one (S_ret Q_non)) S_nil) (S_cons (S_setLc 2 false (own := [("at", 3)]) rfl sc_numbers_in.nd (I_r3 T.n_range Q_int (Q_bin (oMul_ok (bx := false)) Q_int (Q_gint T.i_WIDE)) Q_int) (blkOk_by (by kernel_rfl)) (fun _ _ _ _ _ => (G_nm 3 sc_numbers_in.nd)) (fun _ _ _ _ _ => Q_tyes) (fun _ _ _ _ _ => (Q_int1 T.n_int (Q_sl false (Q_var 0) (Q_pso (Q_var 3)) (Q_pso (Q_bin (oAdd_ok (bx := false)) (Q_var 3) Q_int)))))) (S_one (S_ret (Q_ifx (QT_cmp oLt_ok (Q_max rfl T.n_max (Q_var 2)) (Q_gint T.i_PRIME)) (Q_var 2) Q_non)))))
theorem ok_numbers_in (T : Tx K mg) (O : AllOk Pg w K mg base n k) : Good Pg w K mg base (2 * (k + 1)) (ad_numbers_in K) ["line"] (spEv K (cls K) pr n (k + 1) 16) := by
  obtain ⟨fd, D⟩ := T.fu_numbers_in
  exact ⟨fd, okf_numbers_in T O D, D.binds (fun _ _ _ _ _ _ us hl => match us, hl with | [_], _ => rfl)⟩
theorem okf_lines_of {fd : FuncData} (T : Tx K mg) (O : AllOk Pg w K mg base n k) (D : Fun K "lines_of" "lines_of" s_lines_of (ad_lines_of K) fd) : FnOk Pg w K mg base CX0 (2 * (k + 1)) (ad_lines_of K) fd ["text"] (spEv K (cls K) pr n (k + 1) 17) := by
  refine fnOk_step D sc_lines_of rfl (fldOk T) (fun cdv A outer s H E hr => ?_)
  have hr0 := hr.mono (j := 2 * k) (Nat.le_succ _)
  exact (S_cons (S_set 1 sc_lines_of.nd (Q_bin (oAdd_ok (bx := false)) (Q_lc false (own := [("sign", 2)]) rfl sc_lines_of.nd (I_str (Q_var 0)) (blkOk_by (by kernel_rfl)) (fun _ _ _ _ _ => (G_nm 2 sc_lines_of.nd)) (fun _ _ _ _ _ => Q_tyes) (fun _ _ _ _ _ => (Q_bin (oAdd_ok (bx := false)) (Q_bm mIndexS PySem.F.plainAttrs_str PySem.F.slot_str_index PySem.F.type_str_index (mt_indexS rfl) (Q_gstr T.i_SIGNS) (Q_cons (Q_var 2) Q_nil)) Q_int))) (Q_disp false (Q_cons (Q_gint T.i_END) Q_nil)))) (S_cons (S_set 3 sc_lines_of.nd (Q_neg (Q_bin oDiv_ok (Q_neg (Q_len T.n_len (Q_var 1))) (Q_gint T.i_DATA)))) (S_cons (S_set 1 sc_lines_of.nd (Q_bin (oAdd_ok (bx := false)) (Q_var 1) (Q_bin (oMul_ok (bx := false)) (Q_disp false (Q_cons Q_int Q_nil)) (Q_bin oSub_ok (Q_bin (oMul_ok (bx := false)) (Q_var 3) (Q_gint T.i_DATA)) (Q_len T.n_len (Q_var 1)))))) (S_one (S_ret (Q_lc false (own := [("at", 4)]) rfl sc_lines_of.nd (I_r1 T.n_range (Q_var 3)) (blkOk_by (by kernel_rfl)) (fun _ _ _ _ _ => (G_nm 4 sc_lines_of.nd)) (fun _ _ _ _ _ => Q_tyes) (fun _ _ _ _ _ => (Q_call O.o_written hr0 T.g_written T.k_written (Q_cons (Q_call O.o_line_of hr0 T.g_line_of T.k_line_of (Q_cons (Q_bin (oAdd_ok (bx := false)) (Q_var 4) Q_int) (Q_cons (Q_sl false (Q_var 1) (Q_pso (Q_bin (oMul_ok (bx := false)) (Q_var 4) (Q_gint T.i_DATA))) (Q_pso (Q_bin (oMul_ok (bx := false)) (Q_bin (oAdd_ok (bx := false)) (Q_var 4) Q_int) (Q_gint T.i_DATA)))) Q_nil))) Q_nil)))))))))
theorem ok_lines_of (T : Tx K mg) (O : AllOk Pg w K mg base n k) : Good Pg w K mg base (2 * (k + 1)) (ad_lines_of K) ["text"] (spEv K (cls K) pr n (k + 1) 17) := by
  obtain ⟨fd, D⟩ := T.fu_lines_of
  exact ⟨fd, okf_lines_of T O D, D.binds (fun _ _ _ _ _ _ us hl => match us, hl with | [_], _ => rfl)⟩
theorem okf_signs_in {fd : FuncData} (T : Tx K mg) (O : AllOk Pg w K mg base n k) (D : Fun K "signs_in" "signs_in" s_signs_in (ad_signs_in K) fd) : FnOk Pg w K mg base CX0 (2 * (k + 1)) (ad_signs_in K) fd ["line", "number"] (spEv K (cls K) pr n (k + 1) 18) := by
  refine fnOk_step D sc_signs_in rfl (fldOk T) (fun cdv A outer s H E hr => ?_)
  have hr0 := hr.mono (j := 2 * k) (Nat.le_succ _)
  exact (S_cons (S_set 2 sc_signs_in.nd (Q_call O.o_numbers_in hr0 T.g_numbers_in T.k_numbers_in (Q_cons (Q_var 0) Q_nil))) (S_cons (S_set 3 sc_signs_in.nd (Q_ifx (QT_cmp oIsNot_ok (Q_var 2) Q_non) (Q_call O.o_righted hr0 T.g_righted T.k_righted (Q_cons (Q_var 2) Q_nil)) Q_non)) (S_cons (S_if (PW.pt (QW_or (QT_cmp oIs_ok (Q_var 3) Q_non) (QW_or1 (QT_cmp (oNe_ok hr.units) (Q_bin (oAdd_ok (bx := false)) (Q_bin (oMul_ok (bx := false)) (Q_gint T.i_PRIME) (Q_ix (Q_var 3) Q_int)) (Q_ix (Q_var 3) Q_int)) (Q_var 1))))) (S_one (S_ret Q_non)) S_nil) (S_one (S_ret (Q_sl false (Q_var 3) (Q_pso Q_int) (Q_pso (Q_bin (oAdd_ok (bx := false)) Q_int (Q_gint T.i_DATA)))))))))
theorem ok_signs_in (T : Tx K mg) (O : AllOk Pg w K mg base n k) : Good Pg w K mg base (2 * (k + 1)) (ad_signs_in K) ["line", "number"] (spEv K (cls K) pr n (k + 1) 18) := by
  obtain ⟨fd, D⟩ := T.fu_signs_in
  exact ⟨fd, okf_signs_in T O D, D.binds (fun _ _ _ _ _ _ us hl => match us, hl with | [_, _], _ => rfl)⟩
theorem okf_are_of_text {fd : FuncData} (T : Tx K mg) (O : AllOk Pg w K mg base n k) (D : Fun K "are_of_text" "are_of_text" s_are_of_text (ad_are_of_text K) fd) : FnOk Pg w K mg base CX0 (2 * (k + 1)) (ad_are_of_text K) fd ["numbers"] (spEv K (cls K) pr n (k + 1) 19) := by
  refine fnOk_step D sc_are_of_text rfl (fldOk T) (fun cdv A outer s H E hr => ?_)
  have hr0 := hr.mono (j := 2 * k) (Nat.le_succ _)
  exact (S_cons (S_set 1 sc_are_of_text.nd (Q_ifx (QT_cmp oIn_ok (Q_gint T.i_END) (Q_var 0)) (Q_bm mIndexL PySem.F.plainAttrs_list PySem.F.slot_list_index PySem.F.type_list_index mt_index (Q_var 0) (Q_cons (Q_gint T.i_END) Q_nil)) (Q_len T.n_len (Q_var 0)))) (S_one (S_ret (Q_and (Q_all rfl T.n_all (Q_lc false (own := [("number", 2)]) rfl sc_are_of_text.nd (I_list (Q_sl false (Q_var 0) Q_pno (Q_pso (Q_var 1)))) (blkOk_by (by kernel_rfl)) (fun _ _ _ _ _ => (G_nm 2 sc_are_of_text.nd)) (fun _ _ _ _ _ => Q_tyes) (fun _ _ _ _ _ => (Q_chain oLt_ok oLe_ok Q_int (Q_var 2) (Q_len T.n_len (Q_gstr T.i_SIGNS)))))) (Q_one (Q_not (Q_any rfl T.n_any (Q_sl false (Q_var 0) (Q_pso (Q_bin (oAdd_ok (bx := false)) (Q_var 1) Q_int)) Q_pno))))))))
theorem ok_are_of_text (T : Tx K mg) (O : AllOk Pg w K mg base n k) : Good Pg w K mg base (2 * (k + 1)) (ad_are_of_text K) ["numbers"] (spEv K (cls K) pr n (k + 1) 19) := by
  obtain ⟨fd, D⟩ := T.fu_are_of_text
  exact ⟨fd, okf_are_of_text T O D, D.binds (fun _ _ _ _ _ _ us hl => match us, hl with | [_], _ => rfl)⟩
theorem okf_text_of {fd : FuncData} (T : Tx K mg) (O : AllOk Pg w K mg base n k) (D : Fun K "text_of" "text_of" s_text_of (ad_text_of K) fd) : FnOk Pg w K mg base CX0 (2 * (k + 1)) (ad_text_of K) fd ["lines"] (spEv K (cls K) pr n (k + 1) 20) := by
  refine fnOk_step D sc_text_of rfl (fldOk T) (fun cdv A outer s H E hr => ?_)
  have hr0 := hr.mono (j := 2 * k) (Nat.le_succ _)
  exact (S_cons (S_set 1 sc_text_of.nd (Q_disp false Q_nil)) (S_cons (S_for PassesOwn.never rfl (I_enum T.n_enumerate (Q_var 0)) (G_tup rfl (G_cons (G_nm 2 sc_text_of.nd) (G_cons (G_nm 3 sc_text_of.nd) G_nil))) (S_cons (S_set 4 sc_text_of.nd (Q_call O.o_signs_in hr0 T.g_signs_in T.k_signs_in (Q_cons (Q_var 3) (Q_cons (Q_bin (oAdd_ok (bx := false)) (Q_var 2) Q_int) Q_nil)))) (S_cons (S_if (PW.pt (QW_or (QT_cmp oIs_ok (Q_var 4) Q_non) (QW_or (QT_cmp oIn_ok (Q_gint T.i_END) (Q_var 1)) (QW_or1 (QT_not (QT_tr (Q_call O.o_are_of_text hr0 T.g_are_of_text T.k_are_of_text (Q_cons (Q_var 4) Q_nil)))))))) (S_one (S_ret (Q_tup (Q_cons Q_str (Q_cons (Q_bin (oAdd_ok (bx := false)) (Q_var 2) Q_int) Q_nil))))) S_nil) (S_one (S_set 1 sc_text_of.nd (Q_bin (oAdd_ok (bx := false)) (Q_var 1) (Q_var 4))))))) (S_cons (S_if (QT_cmp oNotIn_ok (Q_gint T.i_END) (Q_var 1)) (S_one (S_ret (Q_tup (Q_cons Q_str (Q_cons (Q_bin (oAdd_ok (bx := false)) (Q_len T.n_len (Q_var 0)) Q_int) Q_nil))))) S_nil) (S_cons (S_set 5 sc_text_of.nd (Q_bm mIndexL PySem.F.plainAttrs_list PySem.F.slot_list_index PySem.F.type_list_index mt_index (Q_var 1) (Q_cons (Q_gint T.i_END) Q_nil))) (S_one (S_ret (Q_tup (Q_cons Q_str (Q_cons (Q_bm mJoin PySem.F.plainAttrs_str PySem.F.slot_str_join PySem.F.type_str_join mt_join Q_str (Q_cons (Q_lc false (own := [("number", 6)]) rfl sc_text_of.nd (I_list (Q_sl false (Q_var 1) Q_pno (Q_pso (Q_var 5)))) (blkOk_by (by kernel_rfl)) (fun _ _ _ _ _ => (G_nm 6 sc_text_of.nd)) (fun _ _ _ _ _ => Q_tyes) (fun _ _ _ _ _ => (Q_ix (Q_gstr T.i_SIGNS) (Q_bin oSub_ok (Q_var 6) Q_int)))) Q_nil)) Q_nil)))))))))
theorem ok_text_of (T : Tx K mg) (O : AllOk Pg w K mg base n k) : Good Pg w K mg base (2 * (k + 1)) (ad_text_of K) ["lines"] (spEv K (cls K) pr n (k + 1) 20) := by
  obtain ⟨fd, D⟩ := T.fu_text_of
  exact ⟨fd, okf_text_of T O D, D.binds (fun _ _ _ _ _ _ us hl => match us, hl with | [_], _ => rfl)⟩
theorem okf__law_mixed {fd : FuncData} (T : Tx K mg) (O : AllOk Pg w K mg base n k) (D : Fun K "_law_mixed" "_law_mixed" s__law_mixed (ad__law_mixed K) fd) : FnOk Pg w K mg base CX0 (2 * (k + 1)) (ad__law_mixed K) fd ["number", "place"] (spEv K (cls K) pr n (k + 1) 21) := by
  refine fnOk_step D sc__law_mixed rfl (fldOk T) (fun cdv A outer s H E hr => ?_)
  have hr0 := hr.mono (j := 2 * k) (Nat.le_succ _)
  exact (S_cons (S_set 2 sc__law_mixed.nd (Q_bin oMod_ok (Q_int1 T.n_int (Q_bin (oAdd_ok (bx := false)) (Q_bin (oAdd_ok (bx := false)) (Q_bin (oMul_ok (bx := false)) (Q_var 0) Q_int) (Q_bin (oMul_ok (bx := false)) (Q_var 1) Q_int)) Q_int)) Q_int)) (S_cons (S_set 3 sc__law_mixed.nd (Q_bin oMod_ok (Q_int1 T.n_int (Q_bin (oAdd_ok (bx := false)) (Q_bin (oAdd_ok (bx := false)) (Q_bin (oMul_ok (bx := false)) (Q_var 2) (Q_var 2)) (Q_bin (oMul_ok (bx := false)) Q_int (Q_var 2))) (Q_var 1))) Q_int)) (S_cons (S_set 4 sc__law_mixed.nd (Q_bin oMod_ok (Q_int1 T.n_int (Q_bin (oAdd_ok (bx := false)) (Q_bin (oMul_ok (bx := false)) (Q_var 3) (Q_var 3)) (Q_var 2))) Q_int)) (S_one (S_ret (Q_bin (oAdd_ok (bx := false)) (Q_bin (oMul_ok (bx := false)) (Q_var 3) Q_int) (Q_var 4)))))))
theorem ok__law_mixed (T : Tx K mg) (O : AllOk Pg w K mg base n k) : Good Pg w K mg base (2 * (k + 1)) (ad__law_mixed K) ["number", "place"] (spEv K (cls K) pr n (k + 1) 21) := by
  obtain ⟨fd, D⟩ := T.fu__law_mixed
  exact ⟨fd, okf__law_mixed T O D, D.binds (fun _ _ _ _ _ _ us hl => match us, hl with | [_, _], _ => rfl)⟩
theorem okf__law_rest {fd : FuncData} (T : Tx K mg) (O : AllOk Pg w K mg base n k) (D : Fun K "_law_rest" "_law_rest" s__law_rest (ad__law_rest K) fd) : FnOk Pg w K mg base CX0 (2 * (k + 1)) (ad__law_rest K) fd ["script", "place", "fills"] (spEv K (cls K) pr n (k + 1) 22) := by
  refine fnOk_step D sc__law_rest rfl (fldOk T) (fun cdv A outer s H E hr => ?_)
  have hr0 := hr.mono (j := 2 * k) (Nat.le_succ _)
  exact (S_cons (S_set 3 sc__law_rest.nd Q_int) (S_cons (S_if (QT_cmp oGt_ok (Q_len T.n_len (Q_var 0)) Q_int) (S_one (S_set 3 sc__law_rest.nd (Q_int1 T.n_int (Q_ix (Q_var 0) (Q_bin oMod_ok (Q_int1 T.n_int (Q_var 1)) (Q_len T.n_len (Q_var 0))))))) S_nil) (S_cons (S_if (QT_cmp oLt_ok (Q_var 3) Q_int) (S_one (S_set 3 sc__law_rest.nd (Q_bin oSub_ok Q_int (Q_bin (oMul_ok (bx := false)) Q_int (Q_var 3))))) S_nil) (S_cons (S_if (PW.pt (QW_and (QT_cmp (oEq_ok hr.units) (Q_var 2) Q_int) (QW_and (QT_cmp oLt_ok (Q_var 1) (Q_len T.n_len (Q_var 0))) (QW_and1 (QT_cmp oGe_ok (Q_var 3) (Q_bin oPow_ok Q_int Q_int)))))) (S_one (S_ret (Q_bin oSub_ok (Q_var 3) (Q_bin oPow_ok Q_int Q_int)))) S_nil) (S_one (S_ret (Q_call O.o__law_mixed hr0 T.g__law_mixed T.k__law_mixed (Q_cons (Q_bin (oAdd_ok (bx := false)) (Q_var 3) (Q_bin (oMul_ok (bx := false)) (Q_var 2) Q_int)) (Q_cons (Q_var 1) Q_nil)))))))))
theorem ok__law_rest (T : Tx K mg) (O : AllOk Pg w K mg base n k) : Good Pg w K mg base (2 * (k + 1)) (ad__law_rest K) ["script", "place", "fills"] (spEv K (cls K) pr n (k + 1) 22) := by
  obtain ⟨fd, D⟩ := T.fu__law_rest
  exact ⟨fd, okf__law_rest T O D, D.binds (fun _ _ _ _ _ _ us hl => match us, hl with | [_, _, _], _ => rfl)⟩
theorem okf__law_pool {fd : FuncData} (T : Tx K mg) (O : AllOk Pg w K mg base n k) (D : Fun K "_law_pool" "_law_pool" s__law_pool (ad__law_pool K) fd) : FnOk Pg w K mg base CX0 (2 * (k + 1)) (ad__law_pool K) fd ["script"] (spEv K (cls K) pr n (k + 1) 23) := by
  refine fnOk_step D sc__law_pool rfl (fldOk T) (fun cdv A outer s H E hr => ?_)
  have hr0 := hr.mono (j := 2 * k) (Nat.le_succ _)
  exact (S_one (S_ret (Q_disp true (Q_cons (Q_var 0) (Q_cons Q_int (Q_cons (Q_call O.o__law_rest hr0 T.g__law_rest T.k__law_rest (Q_cons (Q_var 0) (Q_cons Q_int (Q_cons Q_int Q_nil)))) (Q_cons Q_int Q_nil)))))))
theorem ok__law_pool (T : Tx K mg) (O : AllOk Pg w K mg base n k) : Good Pg w K mg base (2 * (k + 1)) (ad__law_pool K) ["script"] (spEv K (cls K) pr n (k + 1) 23) := by
  obtain ⟨fd, D⟩ := T.fu__law_pool
  exact ⟨fd, okf__law_pool T O D, D.binds (fun _ _ _ _ _ _ us hl => match us, hl with | [_], _ => rfl)⟩
theorem okf__law_next {fd : FuncData} (T : Tx K mg) (O : AllOk Pg w K mg base n k) (D : Fun K "_law_next" "_law_next" s__law_next (ad__law_next K) fd) : FnOk Pg w K mg base CX0 (2 * (k + 1)) (ad__law_next K) fd ["pool"] (spEv K (cls K) pr n (k + 1) 24) := by
  refine fnOk_step D sc__law_next rfl (fldOk T) (fun cdv A outer s H E hr => ?_)
  have hr0 := hr.mono (j := 2 * k) (Nat.le_succ _)
  exact (S_cons (S_setI (Q_bin (oAdd_ok (bx := false)) (Q_ix (Q_var 0) Q_int) Q_int) (Q_var 0) Q_int) (S_cons (S_setI (Q_call O.o__law_rest hr0 T.g__law_rest T.k__law_rest (Q_cons (Q_ix (Q_var 0) Q_int) (Q_cons (Q_ix (Q_var 0) Q_int) (Q_cons Q_int Q_nil)))) (Q_var 0) Q_int) (S_one (S_setI Q_int (Q_var 0) Q_int))))
theorem ok__law_next (T : Tx K mg) (O : AllOk Pg w K mg base n k) : Good Pg w K mg base (2 * (k + 1)) (ad__law_next K) ["pool"] (spEv K (cls K) pr n (k + 1) 24) := by
  obtain ⟨fd, D⟩ := T.fu__law_next
  exact ⟨fd, okf__law_next T O D, D.binds (fun _ _ _ _ _ _ us hl => match us, hl with | [_], _ => rfl)⟩
theorem okf__law_draw {fd : FuncData} (T : Tx K mg) (O : AllOk Pg w K mg base n k) (D : Fun K "_law_draw" "_law_draw" s__law_draw (ad__law_draw K) fd) : FnOk Pg w K mg base CX0 (2 * (k + 1)) (ad__law_draw K) fd ["pool", "limit"] (spEv K (cls K) pr n (k + 1) 25) := by
  refine fnOk_step D sc__law_draw rfl (fldOk T) (fun cdv A outer s H E hr => ?_)
  have hr0 := hr.mono (j := 2 * k) (Nat.le_succ _)
  exact (S_cons (S_if (QT_cmp oLe_ok (Q_ix (Q_var 0) Q_int) Q_int) (S_cons (S_setI (Q_bin (oAdd_ok (bx := false)) (Q_ix (Q_var 0) Q_int) Q_int) (Q_var 0) Q_int) (S_one (S_setI (Q_call O.o__law_rest hr0 T.g__law_rest T.k__law_rest (Q_cons (Q_ix (Q_var 0) Q_int) (Q_cons (Q_ix (Q_var 0) Q_int) (Q_cons (Q_ix (Q_var 0) Q_int) Q_nil)))) (Q_var 0) Q_int))) S_nil) (S_cons (S_set 2 sc__law_draw.nd (Q_bin oMod_ok (Q_int1 T.n_int (Q_ix (Q_var 0) Q_int)) (Q_var 1))) (S_cons (S_setI (Q_bin oDiv_ok (Q_int1 T.n_int (Q_ix (Q_var 0) Q_int)) (Q_var 1)) (Q_var 0) Q_int) (S_one (S_ret (Q_var 2))))))
theorem ok__law_draw (T : Tx K mg) (O : AllOk Pg w K mg base n k) : Good Pg w K mg base (2 * (k + 1)) (ad__law_draw K) ["pool", "limit"] (spEv K (cls K) pr n (k + 1) 25) := by
  obtain ⟨fd, D⟩ := T.fu__law_draw
  exact ⟨fd, okf__law_draw T O D, D.binds (fun _ _ _ _ _ _ us hl => match us, hl with | [_, _], _ => rfl)⟩
theorem okf__law_pick {fd : FuncData} (T : Tx K mg) (O : AllOk Pg w K mg base n k) (D : Fun K "_law_pick" "_law_pick" s__law_pick (ad__law_pick K) fd) : FnOk Pg w K mg base CX0 (2 * (k + 1)) (ad__law_pick K) fd ["pool", "options"] (spEv K (cls K) pr n (k + 1) 26) := by
  refine fnOk_step D sc__law_pick rfl (fldOk T) (fun cdv A outer s H E hr => ?_)
  have hr0 := hr.mono (j := 2 * k) (Nat.le_succ _)
  exact (S_one (S_ret (Q_ix (Q_var 1) (Q_call O.o__law_draw hr0 T.g__law_draw T.k__law_draw (Q_cons (Q_var 0) (Q_cons (Q_len T.n_len (Q_var 1)) Q_nil))))))
theorem ok__law_pick (T : Tx K mg) (O : AllOk Pg w K mg base n k) : Good Pg w K mg base (2 * (k + 1)) (ad__law_pick K) ["pool", "options"] (spEv K (cls K) pr n (k + 1) 26) := by
  obtain ⟨fd, D⟩ := T.fu__law_pick
  exact ⟨fd, okf__law_pick T O D, D.binds (fun _ _ _ _ _ _ us hl => match us, hl with | [_, _], _ => rfl)⟩
theorem okf__law_same {fd : FuncData} (T : Tx K mg) (O : AllOk Pg w K mg base n k) (D : Fun K "_law_same" "_law_same" s__law_same (ad__law_same K) fd) : FnOk Pg w K mg base CX0 (2 * (k + 1)) (ad__law_same K) fd ["answer", "due"] (spEv K (cls K) pr n (k + 1) 27) := by
  refine fnOk_step D sc__law_same rfl (fldOk T) (fun cdv A outer s H E hr => ?_)
  have hr0 := hr.mono (j := 2 * k) (Nat.le_succ _)
  exact (S_cons (S_if (QT_tr (Q_isi "dict" T.n_isinstance T.n_dict bt_dict (Q_var 1))) S_never S_nil) (S_cons (S_if (PW.pt (QW_or (QT_tr (Q_isi "list" T.n_isinstance T.n_list bt_list (Q_var 1))) (QW_or1 (QT_tr (Q_isi "tuple" T.n_isinstance T.n_tuple bt_tuple (Q_var 1)))))) (S_cons (S_if (PW.pt (QW_or (QT_cmp (oNe_ok hr.units) (Q_isi "list" T.n_isinstance T.n_list bt_list (Q_var 1)) (Q_isi "list" T.n_isinstance T.n_list bt_list (Q_var 0))) (QW_or1 (QT_cmp (oNe_ok hr.units) (Q_isi "tuple" T.n_isinstance T.n_tuple bt_tuple (Q_var 1)) (Q_isi "tuple" T.n_isinstance T.n_tuple bt_tuple (Q_var 0)))))) (S_one (S_ret Q_bl)) S_nil) (S_one (S_ret (Q_and (Q_cmp (oEq_ok hr.units) (Q_len T.n_len (Q_var 0)) (Q_len T.n_len (Q_var 1))) (Q_one (Q_all rfl T.n_all (Q_lc false (own := [("k", 3)]) rfl sc__law_same.nd (I_r1 T.n_range (Q_len T.n_len (Q_var 1))) (blkOk_by (by kernel_rfl)) (fun _ _ _ _ _ => (G_nm 3 sc__law_same.nd)) (fun _ _ _ _ _ => Q_tyes) (fun _ _ _ _ _ => (Q_call O.o__law_same hr0 T.g__law_same T.k__law_same (Q_cons (Q_ix (Q_var 0) (Q_var 3)) (Q_cons (Q_ix (Q_var 1) (Q_var 3)) Q_nil))))))))))) S_nil) (S_cons (S_if (QT_tr (Q_isi "str" T.n_isinstance T.n_str bt_str (Q_var 1))) (S_one (S_ret (Q_and (Q_isi "str" T.n_isinstance T.n_str bt_str (Q_var 0)) (Q_one (Q_cmp (oEq_ok hr.units) (Q_var 0) (Q_var 1)))))) S_nil) (S_cons (S_if (PW.pt (QW_or (QT_cmp oIs_ok (Q_var 1) Q_non) (QW_or (QT_cmp oIs_ok (Q_var 1) Q_bl) (QW_or1 (QT_cmp oIs_ok (Q_var 1) Q_bl))))) (S_one (S_ret (Q_or (Q_and (Q_cmp oIs_ok (Q_var 1) Q_non) (Q_one (Q_cmp oIs_ok (Q_var 0) Q_non))) (Q_or (Q_and (Q_cmp oIs_ok (Q_var 1) Q_bl) (Q_one (Q_cmp oIs_ok (Q_var 0) Q_bl))) (Q_one (Q_and (Q_cmp oIs_ok (Q_var 1) Q_bl) (Q_one (Q_cmp oIs_ok (Q_var 0) Q_bl)))))))) S_nil) (S_one (S_ret (Q_and (Q_isi "int" T.n_isinstance T.n_int bt_int (Q_var 0)) (Q_and (Q_not (Q_isi "bool" T.n_isinstance T.n_bool bt_bool (Q_var 0))) (Q_one (Q_cmp (oEq_ok hr.units) (Q_var 0) (Q_var 1)))))))))))
theorem ok__law_same (T : Tx K mg) (O : AllOk Pg w K mg base n k) : Good Pg w K mg base (2 * (k + 1)) (ad__law_same K) ["answer", "due"] (spEv K (cls K) pr n (k + 1) 27) := by
  obtain ⟨fd, D⟩ := T.fu__law_same
  exact ⟨fd, okf__law_same T O D, D.binds (fun _ _ _ _ _ _ us hl => match us, hl with | [_, _], _ => rfl)⟩
theorem okf__law_different {fd : FuncData} (T : Tx K mg) (O : AllOk Pg w K mg base n k) (D : Fun K "_law_different" "_law_different" s__law_different (ad__law_different K) fd) : FnOk Pg w K mg base CX0 (2 * (k + 1)) (ad__law_different K) fd ["items"] (spEv K (cls K) pr n (k + 1) 28) := by
  refine fnOk_step D sc__law_different rfl (fldOk T) (fun cdv A outer s H E hr => ?_)
  have hr0 := hr.mono (j := 2 * k) (Nat.le_succ _)
  exact (S_cons (S_set 1 sc__law_different.nd (Q_disp true Q_nil)) (S_cons (S_for PassesOwn.never rfl (I_list (Q_var 0)) (G_nm 2 sc__law_different.nd) (S_one (S_if (QT_cmp oNotIn_ok (Q_var 2) (Q_var 1)) (S_one (S_expr (Q_bm mAppend PySem.F.plainAttrs_list PySem.F.slot_list_append PySem.F.type_list_append mt_append (Q_var 1) (Q_cons (Q_var 2) Q_nil)))) S_nil))) (S_one (S_ret (Q_frz (Q_var 1))))))
theorem ok__law_different (T : Tx K mg) (O : AllOk Pg w K mg base n k) : Good Pg w K mg base (2 * (k + 1)) (ad__law_different K) ["items"] (spEv K (cls K) pr n (k + 1) 28) := by
  obtain ⟨fd, D⟩ := T.fu__law_different
  exact ⟨fd, okf__law_different T O D, D.binds (fun _ _ _ _ _ _ us hl => match us, hl with | [_], _ => rfl)⟩
theorem okf__law_value_drawn {fd : FuncData} (T : Tx K mg) (O : AllOk Pg w K mg base n k) (D : Fun K "_law_value_drawn" "_law_value_drawn" s__law_value_drawn (ad__law_value_drawn K) fd) : FnOk Pg w K mg base CX0 (2 * (k + 1)) (ad__law_value_drawn K) fd ["pool", "deep"] (spEv K (cls K) pr n (k + 1) 29) := by
  refine fnOk_step D sc__law_value_drawn rfl (fldOk T) (fun cdv A outer s H E hr => ?_)
  have hr0 := hr.mono (j := 2 * k) (Nat.le_succ _)
  exact (S_cons (S_set 2 sc__law_value_drawn.nd (Q_call O.o__law_draw hr0 T.g__law_draw T.k__law_draw (Q_cons (Q_var 0) (Q_cons (Q_ifx (QT_cmp oLt_ok (Q_var 1) Q_int) Q_int Q_int) Q_nil)))) (S_cons (S_if (QT_cmp (oEq_ok hr.units) (Q_var 2) Q_int) (S_one (S_ret (Q_call O.o__law_pick hr0 T.g__law_pick T.k__law_pick (Q_cons (Q_var 0) (Q_cons (Q_disp false (Q_cons Q_int (Q_cons Q_int (Q_cons (Q_neg Q_int) (Q_cons Q_int (Q_cons (Q_neg Q_int) (Q_cons Q_int (Q_cons (Q_bin oPow_ok Q_int Q_int) Q_nil)))))))) Q_nil))))) S_nil) (S_cons (S_if (QT_cmp (oEq_ok hr.units) (Q_var 2) Q_int) (S_one (S_ret (Q_bin oSub_ok (Q_call O.o__law_draw hr0 T.g__law_draw T.k__law_draw (Q_cons (Q_var 0) (Q_cons Q_int Q_nil))) Q_int))) S_nil) (S_cons (S_if (QT_cmp oLt_ok (Q_var 2) Q_int) (S_one (S_ret (Q_bm mJoin PySem.F.plainAttrs_str PySem.F.slot_str_join PySem.F.type_str_join mt_join Q_str (Q_cons (Q_lc false (own := [("k", 3)]) rfl sc__law_value_drawn.nd (I_r1 T.n_range (Q_call O.o__law_draw hr0 T.g__law_draw T.k__law_draw (Q_cons (Q_var 0) (Q_cons Q_int Q_nil)))) (blkOk_by (by kernel_rfl)) (fun _ _ _ _ _ => (G_nm 3 sc__law_value_drawn.nd)) (fun _ _ _ _ _ => Q_tyes) (fun _ _ _ _ _ => (Q_call O.o__law_pick hr0 T.g__law_pick T.k__law_pick (Q_cons (Q_var 0) (Q_cons (Q_disp false (Q_cons Q_str (Q_cons Q_str (Q_cons Q_str (Q_cons Q_str (Q_cons Q_str (Q_cons Q_str (Q_cons Q_str (Q_cons Q_str (Q_cons Q_str Q_nil)))))))))) Q_nil))))) Q_nil)))) S_nil) (S_cons (S_expr (Q_call O.o__law_next hr0 T.g__law_next T.k__law_next (Q_cons (Q_var 0) Q_nil))) (S_one (S_ret (Q_tuple1 T.n_tuple (Q_lc false (own := [("k", 3)]) rfl sc__law_value_drawn.nd (I_r1 T.n_range (Q_call O.o__law_draw hr0 T.g__law_draw T.k__law_draw (Q_cons (Q_var 0) (Q_cons Q_int Q_nil)))) (blkOk_by (by kernel_rfl)) (fun _ _ _ _ _ => (G_nm 3 sc__law_value_drawn.nd)) (fun _ _ _ _ _ => Q_tyes) (fun _ _ _ _ _ => (Q_call O.o__law_value_drawn hr0 T.g__law_value_drawn T.k__law_value_drawn (Q_cons (Q_var 0) (Q_cons (Q_bin (oAdd_ok (bx := false)) (Q_var 1) Q_int) Q_nil)))))))))))))
theorem ok__law_value_drawn (T : Tx K mg) (O : AllOk Pg w K mg base n k) : Good Pg w K mg base (2 * (k + 1)) (ad__law_value_drawn K) ["pool", "deep"] (spEv K (cls K) pr n (k + 1) 29) := by
  obtain ⟨fd, D⟩ := T.fu__law_value_drawn
  exact ⟨fd, okf__law_value_drawn T O D, D.binds (fun _ _ _ _ _ _ us hl => match us, hl with | [_, _], _ => rfl)⟩
theorem okf__law_signs {fd : FuncData} (T : Tx K mg) (O : AllOk Pg w K mg base n k) (D : Fun K "_law_signs" "_law_signs" s__law_signs (ad__law_signs K) fd) : FnOk Pg w K mg base CX0 (2 * (k + 1)) (ad__law_signs K) fd ["value"] (spEv K (cls K) pr n (k + 1) 30) := by
  refine fnOk_step D sc__law_signs rfl (fldOk T) (fun cdv A outer s H E hr => ?_)
  have hr0 := hr.mono (j := 2 * k) (Nat.le_succ _)
  exact (S_cons (S_if (QT_tr (Q_isi "str" T.n_isinstance T.n_str bt_str (Q_var 0))) (S_one (S_ret (Q_bin (oAdd_ok (bx := false)) (Q_bin (oAdd_ok (bx := false)) Q_str (Q_var 0)) Q_str))) S_nil) (S_cons (S_if (QT_tr (Q_isi "int" T.n_isinstance T.n_int bt_int (Q_var 0))) (S_one (S_ret (Q_str1 T.n_str (Q_var 0)))) S_nil) (S_one (S_ret (Q_bin (oAdd_ok (bx := false)) (Q_bin (oAdd_ok (bx := false)) Q_str (Q_bm mJoin PySem.F.plainAttrs_str PySem.F.slot_str_join PySem.F.type_str_join mt_join Q_str (Q_cons (Q_lc false (own := [("one", 1)]) rfl sc__law_signs.nd (I_tup (Q_var 0)) (blkOk_by (by kernel_rfl)) (fun _ _ _ _ _ => (G_nm 1 sc__law_signs.nd)) (fun _ _ _ _ _ => Q_tyes) (fun _ _ _ _ _ => (Q_call O.o__law_signs hr0 T.g__law_signs T.k__law_signs (Q_cons (Q_var 1) Q_nil)))) Q_nil))) (Q_ifx (QT_cmp (oEq_ok hr.units) (Q_len T.n_len (Q_var 0)) Q_int) Q_str Q_str))))))
theorem ok__law_signs (T : Tx K mg) (O : AllOk Pg w K mg base n k) : Good Pg w K mg base (2 * (k + 1)) (ad__law_signs K) ["value"] (spEv K (cls K) pr n (k + 1) 30) := by
  obtain ⟨fd, D⟩ := T.fu__law_signs
  exact ⟨fd, okf__law_signs T O D, D.binds (fun _ _ _ _ _ _ us hl => match us, hl with | [_], _ => rfl)⟩
theorem okf__law_numbers {fd : FuncData} (T : Tx K mg) (O : AllOk Pg w K mg base n k) (D : Fun K "_law_numbers" "_law_numbers" s__law_numbers (ad__law_numbers K) fd) : FnOk Pg w K mg base CX0 (2 * (k + 1)) (ad__law_numbers K) fd ["line"] (spEv K (cls K) pr n (k + 1) 31) := by
  refine fnOk_step D sc__law_numbers rfl (fldOk T) (fun cdv A outer s H E hr => ?_)
  have hr0 := hr.mono (j := 2 * k) (Nat.le_succ _)
  exact (S_one (S_ret (Q_lc true (own := [("at", 1)]) rfl sc__law_numbers.nd (I_r3 T.n_range Q_int (Q_len T.n_len (Q_var 0)) Q_int) (blkOk_by (by kernel_rfl)) (fun _ _ _ _ _ => (G_nm 1 sc__law_numbers.nd)) (fun _ _ _ _ _ => Q_tyes) (fun _ _ _ _ _ => (Q_int1 T.n_int (Q_sl false (Q_var 0) (Q_pso (Q_var 1)) (Q_pso (Q_bin (oAdd_ok (bx := false)) (Q_var 1) Q_int))))))))
theorem ok__law_numbers (T : Tx K mg) (O : AllOk Pg w K mg base n k) : Good Pg w K mg base (2 * (k + 1)) (ad__law_numbers K) ["line"] (spEv K (cls K) pr n (k + 1) 31) := by
  obtain ⟨fd, D⟩ := T.fu__law_numbers
  exact ⟨fd, okf__law_numbers T O D, D.binds (fun _ _ _ _ _ _ us hl => match us, hl with | [_], _ => rfl)⟩
theorem okf__law_sums {fd : FuncData} (T : Tx K mg) (O : AllOk Pg w K mg base n k) (D : Fun K "_law_sums" "_law_sums" s__law_sums (ad__law_sums K) fd) : FnOk Pg w K mg base CX0 (2 * (k + 1)) (ad__law_sums K) fd ["numbers"] (spEv K (cls K) pr n (k + 1) 32) := by
  refine fnOk_step D sc__law_sums rfl (fldOk T) (fun cdv A outer s H E hr => ?_)
  have hr0 := hr.mono (j := 2 * k) (Nat.le_succ _)
  exact (S_cons (S_set 1 sc__law_sums.nd (Q_disp true Q_nil)) (S_cons (S_for PassesOwn.never rfl (I_r1 T.n_range Q_int) (G_nm 2 sc__law_sums.nd) (S_cons (S_set 3 sc__law_sums.nd Q_int) (S_cons (S_for PassesOwn.never rfl (I_r1 T.n_range (Q_len T.n_len (Q_var 0))) (G_nm 4 sc__law_sums.nd) (S_one (S_set 3 sc__law_sums.nd (Q_bin (oAdd_ok (bx := false)) (Q_var 3) (Q_bin (oMul_ok (bx := false)) (Q_ifx (QT_cmp (oEq_ok hr.units) (Q_var 2) Q_int) Q_int (Q_ifx (QT_cmp (oEq_ok hr.units) (Q_var 2) Q_int) (Q_bin (oAdd_ok (bx := false)) (Q_var 4) Q_int) (Q_bin (oMul_ok (bx := false)) (Q_bin (oAdd_ok (bx := false)) (Q_var 4) Q_int) (Q_bin (oAdd_ok (bx := false)) (Q_var 4) Q_int)))) (Q_ix (Q_var 0) (Q_var 4))))))) (S_one (S_expr (Q_bm mAppend PySem.F.plainAttrs_list PySem.F.slot_list_append PySem.F.type_list_append mt_append (Q_var 1) (Q_cons (Q_bin oMod_ok (Q_int1 T.n_int (Q_var 3)) Q_int) Q_nil))))))) (S_one (S_ret (Q_frz (Q_var 1))))))
theorem ok__law_sums (T : Tx K mg) (O : AllOk Pg w K mg base n k) : Good Pg w K mg base (2 * (k + 1)) (ad__law_sums K) ["numbers"] (spEv K (cls K) pr n (k + 1) 32) := by
  obtain ⟨fd, D⟩ := T.fu__law_sums
  exact ⟨fd, okf__law_sums T O D, D.binds (fun _ _ _ _ _ _ us hl => match us, hl with | [_], _ => rfl)⟩
theorem okf__law_line {fd : FuncData} (T : Tx K mg) (O : AllOk Pg w K mg base n k) (D : Fun K "_law_line" "_law_line" s__law_line (ad__law_line K) fd) : FnOk Pg w K mg base CX0 (2 * (k + 1)) (ad__law_line K) fd ["numbers"] (spEv K (cls K) pr n (k + 1) 33) := by
  refine fnOk_step D sc__law_line rfl (fldOk T) (fun cdv A outer s H E hr => ?_)
  have hr0 := hr.mono (j := 2 * k) (Nat.le_succ _)
  exact (S_one (S_ret (Q_bm mJoin PySem.F.plainAttrs_str PySem.F.slot_str_join PySem.F.type_str_join mt_join Q_str (Q_cons (Q_lc false (own := [("number", 1)]) rfl sc__law_line.nd (I_list (Q_var 0)) (blkOk_by (by kernel_rfl)) (fun _ _ _ _ _ => (G_nm 1 sc__law_line.nd)) (fun _ _ _ _ _ => Q_tyes) (fun _ _ _ _ _ => (Q_bin (oAdd_ok (bx := false)) (Q_str1 T.n_str (Q_bin oDiv_ok (Q_var 1) Q_int)) (Q_str1 T.n_str (Q_bin oMod_ok (Q_int1 T.n_int (Q_var 1)) Q_int))))) Q_nil))))
theorem ok__law_line (T : Tx K mg) (O : AllOk Pg w K mg base n k) : Good Pg w K mg base (2 * (k + 1)) (ad__law_line K) ["numbers"] (spEv K (cls K) pr n (k + 1) 33) := by
  obtain ⟨fd, D⟩ := T.fu__law_line
  exact ⟨fd, okf__law_line T O D, D.binds (fun _ _ _ _ _ _ us hl => match us, hl with | [_], _ => rfl)⟩
theorem okf_law {fd : FuncData} (T : Tx K mg) (O : AllOk Pg w K mg base n k) (D : Fun K "law" "law" s_law (ad_law K) fd) : FnOk Pg w K mg base CX0 (2 * (k + 1)) (ad_law K) fd ["script"] (spEv K (cls K) pr n (k + 1) 34) := by
  refine fnOk_step D sc_law rfl (fldOk T) (fun cdv A outer s H E hr => ?_)
  have hr0 := hr.mono (j := 2 * k) (Nat.le_succ _)
  exact (S_cons (S_set 1 sc_law.nd (Q_call O.o__law_pool hr0 T.g__law_pool T.k__law_pool (Q_cons (Q_var 0) Q_nil))) (S_cons (S_set 2 sc_law.nd (Q_tuple1 T.n_tuple (Q_lc false (own := [("k", 3)]) rfl sc_law.nd (I_r1 T.n_range (Q_bin (oAdd_ok (bx := false)) Q_int (Q_call O.o__law_draw hr0 T.g__law_draw T.k__law_draw (Q_cons (Q_var 1) (Q_cons Q_int Q_nil))))) (blkOk_by (by kernel_rfl)) (fun _ _ _ _ _ => (G_nm 3 sc_law.nd)) (fun _ _ _ _ _ => Q_tyes) (fun _ _ _ _ _ => (Q_call O.o__law_value_drawn hr0 T.g__law_value_drawn T.k__law_value_drawn (Q_cons (Q_var 1) (Q_cons Q_int Q_nil))))))) (S_cons (S_set 4 sc_law.nd (Q_call O.o__law_signs hr0 T.g__law_signs T.k__law_signs (Q_cons (Q_var 2) Q_nil))) (S_cons (S_if (PW.pt (QW_or (QT_cmp oIsNot_ok (Q_call O.o_is_plain hr0 T.g_is_plain T.k_is_plain (Q_cons (Q_var 2) Q_nil)) Q_bl) (QW_or1 (QT_not (QT_tr (Q_call O.o__law_same hr0 T.g__law_same T.k__law_same (Q_cons (Q_disp false (Q_cons (Q_call O.o_signs_of hr0 T.g_signs_of T.k_signs_of (Q_cons (Q_var 2) Q_nil)) (Q_cons (Q_call O.o_value_of hr0 T.g_value_of T.k_value_of (Q_cons (Q_var 4) Q_nil)) Q_nil))) (Q_cons (Q_disp false (Q_cons (Q_var 4) (Q_cons (Q_var 2) Q_nil))) Q_nil)))))))) (S_one (S_ret Q_bl)) S_nil) (S_cons (S_for PassesOwn.never rfl (I_r1 T.n_range Q_int) (G_nm 5 sc_law.nd) (S_cons (S_expr (Q_call O.o__law_next hr0 T.g__law_next T.k__law_next (Q_cons (Q_var 1) Q_nil))) (S_cons (S_set 6 sc_law.nd (Q_call O.o__law_draw hr0 T.g__law_draw T.k__law_draw (Q_cons (Q_var 1) (Q_cons (Q_len T.n_len (Q_var 4)) Q_nil)))) (S_cons (S_set 7 sc_law.nd (Q_call O.o__law_pick hr0 T.g__law_pick T.k__law_pick (Q_cons (Q_var 1) (Q_cons (Q_disp false (Q_cons (Q_sl false (Q_var 4) Q_pno (Q_pso (Q_var 6))) (Q_cons (Q_bin (oAdd_ok (bx := false)) (Q_bin (oAdd_ok (bx := false)) (Q_sl false (Q_var 4) Q_pno (Q_pso (Q_var 6))) (Q_call O.o__law_pick hr0 T.g__law_pick T.k__law_pick (Q_cons (Q_var 1) (Q_cons (Q_disp false (Q_cons Q_str (Q_cons Q_str (Q_cons Q_str (Q_cons Q_str (Q_cons Q_str (Q_cons Q_str (Q_cons Q_str Q_nil)))))))) Q_nil)))) (Q_sl false (Q_var 4) (Q_pso (Q_var 6)) Q_pno)) (Q_cons (Q_bin (oAdd_ok (bx := false)) (Q_sl false (Q_var 4) Q_pno (Q_pso (Q_var 6))) (Q_sl false (Q_var 4) (Q_pso (Q_bin (oAdd_ok (bx := false)) (Q_var 6) Q_int)) Q_pno)) (Q_cons (Q_bin (oAdd_ok (bx := false)) (Q_var 4) Q_str) Q_nil))))) Q_nil)))) (S_cons (S_set 8 sc_law.nd (Q_call O.o_value_of hr0 T.g_value_of T.k_value_of (Q_cons (Q_var 7) Q_nil))) (S_cons (S_if (PW.pt (QW_and (QT_cmp oIsNot_ok (Q_var 8) Q_non) (QW_and1 (PW.pt (QW_or (QT_cmp (oNe_ok hr.units) (Q_call O.o__law_signs hr0 T.g__law_signs T.k__law_signs (Q_cons (Q_var 8) Q_nil)) (Q_var 7)) (QW_or1 (QT_cmp oIsNot_ok (Q_call O.o_is_plain hr0 T.g_is_plain T.k_is_plain (Q_cons (Q_var 8) Q_nil)) Q_bl))))))) (S_one (S_ret Q_bl)) S_nil) (S_one (S_if (PW.pt (QW_and (QT_cmp oIs_ok (Q_var 8) Q_non) (QW_and1 (QT_cmp (oEq_ok hr.units) (Q_var 7) (Q_var 4))))) (S_one (S_ret Q_bl)) S_nil)))))))) (S_cons (S_set 9 sc_law.nd Q_str) (S_cons (S_set 10 sc_law.nd (Q_bin (oAdd_ok (bx := false)) (Q_lc false (own := [("sign", 11)]) rfl sc_law.nd (I_str (Q_var 4)) (blkOk_by (by kernel_rfl)) (fun _ _ _ _ _ => (G_nm 11 sc_law.nd)) (fun _ _ _ _ _ => Q_tyes) (fun _ _ _ _ _ => (Q_bin (oAdd_ok (bx := false)) (Q_bm mIndexS PySem.F.plainAttrs_str PySem.F.slot_str_index PySem.F.type_str_index (mt_indexS rfl) (Q_var 9) (Q_cons (Q_var 11) Q_nil)) Q_int))) (Q_disp false (Q_cons Q_int Q_nil)))) (S_cons (S_set 12 sc_law.nd (Q_call O.o_lines_of hr0 T.g_lines_of T.k_lines_of (Q_cons (Q_var 4) Q_nil))) (S_cons (S_set 13 sc_law.nd (Q_disp false Q_nil)) (S_cons (S_for PassesOwn.never rfl (I_r1 T.n_range (Q_len T.n_len (Q_var 12))) (G_nm 3 sc_law.nd) (S_cons (S_set 14 sc_law.nd (Q_call O.o__law_numbers hr0 T.g__law_numbers T.k__law_numbers (Q_cons (Q_ix (Q_var 12) (Q_var 3)) Q_nil))) (S_gz 14 (S_cons (S_if (PW.pt (QW_or (QT_cmp (oNe_ok hr.units) (Q_len T.n_len (Q_ix (Q_var 12) (Q_var 3))) Q_int) (QW_or (QT_cmp (oNe_ok hr.units) (Q_call O.o__law_sums hr0 T.g__law_sums T.k__law_sums (Q_cons (Q_var 14) Q_nil)) (Q_disp false (Q_cons Q_int (Q_cons Q_int (Q_cons Q_int Q_nil))))) (QW_or (QT_cmp (oNe_ok hr.units) (Q_sl false (Q_var 14) Q_pno (Q_pso Q_int)) (Q_disp false (Q_cons (Q_bin oDiv_ok (Q_bin (oAdd_ok (bx := false)) (Q_var 3) Q_int) Q_int) (Q_cons (Q_bin oMod_ok (Q_int1 T.n_int (Q_bin (oAdd_ok (bx := false)) (Q_var 3) Q_int)) Q_int) Q_nil)))) (QW_or1 (QT_cmp oGt_ok (Q_max rfl T.n_max (Q_var 14)) Q_int)))))) (S_one (S_ret Q_bl)) S_nil) (S_cons (S_if (QT_not (QT_tr (Q_call O.o__law_same hr0 T.g__law_same T.k__law_same (Q_cons (Q_disp false (Q_cons (Q_call O.o_line_of hr0 T.g_line_of T.k_line_of (Q_cons (Q_bin (oAdd_ok (bx := false)) (Q_var 3) Q_int) (Q_cons (Q_sl false (Q_var 14) (Q_pso Q_int) (Q_pso Q_int)) Q_nil))) (Q_cons (Q_call O.o_righted hr0 T.g_righted T.k_righted (Q_cons (Q_var 14) Q_nil)) Q_nil))) (Q_cons (Q_disp false (Q_cons (Q_var 14) (Q_cons (Q_var 14) Q_nil))) Q_nil))))) (S_one (S_ret Q_bl)) S_nil) (S_one (S_set 13 sc_law.nd (Q_bin (oAdd_ok (bx := false)) (Q_var 13) (Q_sl false (Q_var 14) (Q_pso Q_int) (Q_pso Q_int)))))))))) (S_cons (S_if (PW.pt (QW_or (QT_cmp (oNe_ok hr.units) (Q_var 13) (Q_bin (oAdd_ok (bx := false)) (Q_var 10) (Q_bin (oMul_ok (bx := false)) (Q_disp false (Q_cons Q_int Q_nil)) (Q_bin oSub_ok (Q_len T.n_len (Q_var 13)) (Q_len T.n_len (Q_var 10)))))) (QW_or (QT_cmp oGe_ok (Q_len T.n_len (Q_var 13)) (Q_bin (oAdd_ok (bx := false)) (Q_len T.n_len (Q_var 10)) Q_int)) (QW_or1 (QT_not (QT_tr (Q_call O.o__law_same hr0 T.g__law_same T.k__law_same (Q_cons (Q_call O.o_text_of hr0 T.g_text_of T.k_text_of (Q_cons (Q_list1 false T.n_list (Q_var 12)) Q_nil)) (Q_cons (Q_tup (Q_cons Q_str (Q_cons (Q_var 4) Q_nil))) Q_nil))))))))) (S_one (S_ret Q_bl)) S_nil) (S_cons (S_for PassesOwn.never rfl (I_r1 T.n_range Q_int) (G_nm 5 sc_law.nd) (S_cons (S_expr (Q_call O.o__law_next hr0 T.g__law_next T.k__law_next (Q_cons (Q_var 1) Q_nil))) (S_cons (S_set 7 sc_law.nd (Q_disp true Q_nil)) (S_cons (S_set 15 sc_law.nd (Q_disp true Q_nil)) (S_cons (S_for PassesOwn.never rfl (I_r1 T.n_range (Q_len T.n_len (Q_var 12))) (G_nm 3 sc_law.nd) (S_cons (S_set 14 sc_law.nd (Q_call O.o__law_numbers hr0 T.g__law_numbers T.k__law_numbers (Q_cons (Q_ix (Q_var 12) (Q_var 3)) Q_nil))) (S_cons (S_set 16 sc_law.nd (Q_ifx (QT_cmp oLt_ok (Q_var 5) Q_int) (Q_call O.o__law_draw hr0 T.g__law_draw T.k__law_draw (Q_cons (Q_var 1) (Q_cons Q_int Q_nil))) Q_int)) (S_cons (S_set 17 sc_law.nd (Q_call O.o__law_different hr0 T.g__law_different T.k__law_different (Q_cons (Q_lc false (own := [("j", 18)]) rfl sc_law.nd (I_r1 T.n_range (Q_ifx (QT_cmp oLt_ok (Q_var 16) Q_int) (Q_var 16) Q_int)) (blkOk_by (by kernel_rfl)) (fun _ _ _ _ _ => (G_nm 18 sc_law.nd)) (fun _ _ _ _ _ => Q_tyes) (fun _ _ _ _ _ => (Q_call O.o__law_draw hr0 T.g__law_draw T.k__law_draw (Q_cons (Q_var 1) (Q_cons Q_int Q_nil))))) Q_nil))) (S_cons (S_for PassesOwn.never rfl (I_list (Q_var 17)) (G_nm 19 sc_law.nd) (S_one (S_setI (Q_bin oMod_ok (Q_int1 T.n_int (Q_bin (oAdd_ok (bx := false)) (Q_bin (oAdd_ok (bx := false)) (Q_ix (Q_var 14) (Q_var 19)) Q_int) (Q_call O.o__law_draw hr0 T.g__law_draw T.k__law_draw (Q_cons (Q_var 1) (Q_cons Q_int Q_nil))))) Q_int) (Q_var 14) (Q_var 19)))) (S_cons (S_if (QT_cmp (oEq_ok hr.units) (Q_len T.n_len (Q_var 17)) Q_int) (S_one (S_expr (Q_bm mAppend PySem.F.plainAttrs_list PySem.F.slot_list_append PySem.F.type_list_append mt_append (Q_var 15) (Q_cons (Q_bin (oAdd_ok (bx := false)) (Q_var 3) Q_int) Q_nil)))) S_nil) (S_cons (S_if (QT_not (QT_tr (Q_call O.o__law_same hr0 T.g__law_same T.k__law_same (Q_cons (Q_call O.o_righted hr0 T.g_righted T.k_righted (Q_cons (Q_list1 false T.n_list (Q_var 14)) Q_nil)) (Q_cons (Q_ifx (QT_cmp oLt_ok (Q_len T.n_len (Q_var 17)) Q_int) (Q_call O.o__law_numbers hr0 T.g__law_numbers T.k__law_numbers (Q_cons (Q_ix (Q_var 12) (Q_var 3)) Q_nil)) Q_non) Q_nil))))) (S_one (S_ret Q_bl)) S_nil) (S_one (S_expr (Q_bm mAppend PySem.F.plainAttrs_list PySem.F.slot_list_append PySem.F.type_list_append mt_append (Q_var 7) (Q_cons (Q_call O.o__law_line hr0 T.g__law_line T.k__law_line (Q_cons (Q_var 14) Q_nil)) Q_nil))))))))))) (S_one (S_if (QT_not (QT_tr (Q_call O.o__law_same hr0 T.g__law_same T.k__law_same (Q_cons (Q_call O.o_text_of hr0 T.g_text_of T.k_text_of (Q_cons (Q_list1 false T.n_list (Q_var 7)) Q_nil)) (Q_cons (Q_ifx (QT_cmp (oNe_ok hr.units) (Q_var 15) (Q_disp false Q_nil)) (Q_tup (Q_cons Q_str (Q_cons (Q_ix (Q_var 15) Q_int) Q_nil))) (Q_tup (Q_cons Q_str (Q_cons (Q_var 4) Q_nil)))) Q_nil))))) (S_one (S_ret Q_bl)) S_nil))))))) (S_cons (S_set 6 sc_law.nd (Q_call O.o__law_draw hr0 T.g__law_draw T.k__law_draw (Q_cons (Q_var 1) (Q_cons (Q_len T.n_len (Q_var 12)) Q_nil)))) (S_cons (S_set 14 sc_law.nd (Q_sl true (Q_call O.o__law_numbers hr0 T.g__law_numbers T.k__law_numbers (Q_cons (Q_ix (Q_var 12) (Q_var 6)) Q_nil)) (Q_pso Q_int) (Q_pso Q_int))) (S_cons (S_setI (Q_call O.o__law_pick hr0 T.g__law_pick T.k__law_pick (Q_cons (Q_var 1) (Q_cons (Q_disp false (Q_cons Q_int (Q_cons Q_int (Q_cons Q_int Q_nil)))) Q_nil))) (Q_var 14) (Q_call O.o__law_draw hr0 T.g__law_draw T.k__law_draw (Q_cons (Q_var 1) (Q_cons (Q_ifx (PW.pt (QW_and (QT_cmp oIn_ok Q_int (Q_var 14)) (QW_and1 (QT_cmp oGt_ok (Q_bm mIndexL PySem.F.plainAttrs_list PySem.F.slot_list_index PySem.F.type_list_index mt_index (Q_var 14) (Q_cons Q_int Q_nil)) Q_int)))) (Q_bm mIndexL PySem.F.plainAttrs_list PySem.F.slot_list_index PySem.F.type_list_index mt_index (Q_var 14) (Q_cons Q_int Q_nil)) Q_int) Q_nil)))) (S_cons (S_if (PW.pt (QW_or (QT_cmp oIn_ok Q_int (Q_var 14)) (QW_or1 (QT_cmp oLt_ok (Q_var 6) (Q_bin oSub_ok (Q_len T.n_len (Q_var 12)) Q_int))))) (S_cons (S_set 20 sc_law.nd (Q_bin (oAdd_ok (bx := false)) (Q_bin (oAdd_ok (bx := false)) (Q_sl false (Q_var 12) Q_pno (Q_pso (Q_var 6))) (Q_disp false (Q_cons (Q_call O.o__law_line hr0 T.g__law_line T.k__law_line (Q_cons (Q_call O.o_line_of hr0 T.g_line_of T.k_line_of (Q_cons (Q_bin (oAdd_ok (bx := false)) (Q_var 6) Q_int) (Q_cons (Q_var 14) Q_nil))) Q_nil)) Q_nil))) (Q_sl false (Q_var 12) (Q_pso (Q_bin (oAdd_ok (bx := false)) (Q_var 6) Q_int)) Q_pno))) (S_one (S_if (QT_not (QT_tr (Q_call O.o__law_same hr0 T.g__law_same T.k__law_same (Q_cons (Q_call O.o_text_of hr0 T.g_text_of T.k_text_of (Q_cons (Q_var 20) Q_nil)) (Q_cons (Q_tup (Q_cons Q_str (Q_cons (Q_bin (oAdd_ok (bx := false)) (Q_var 6) Q_int) Q_nil))) Q_nil))))) (S_one (S_ret Q_bl)) S_nil))) S_nil) (S_cons (S_set 21 sc_law.nd (Q_call O.o__law_draw hr0 T.g__law_draw T.k__law_draw (Q_cons (Q_var 1) (Q_cons (Q_len T.n_len (Q_var 12)) Q_nil)))) (S_cons (S_if (QT_not (QT_tr (Q_call O.o__law_same hr0 T.g__law_same T.k__law_same (Q_cons (Q_disp false (Q_cons (Q_call O.o_text_of hr0 T.g_text_of T.k_text_of (Q_cons (Q_sl false (Q_var 12) Q_pno (Q_pso (Q_var 21))) Q_nil)) (Q_cons (Q_call O.o_text_of hr0 T.g_text_of T.k_text_of (Q_cons (Q_bin (oAdd_ok (bx := false)) (Q_sl false (Q_var 12) Q_pno (Q_pso (Q_var 21))) (Q_sl false (Q_var 12) (Q_pso (Q_bin (oAdd_ok (bx := false)) (Q_var 21) Q_int)) Q_pno)) Q_nil)) Q_nil))) (Q_cons (Q_disp false (Q_cons (Q_tup (Q_cons Q_str (Q_cons (Q_bin (oAdd_ok (bx := false)) (Q_var 21) Q_int) Q_nil))) (Q_cons (Q_tup (Q_cons Q_str (Q_cons (Q_bin (oAdd_ok (bx := false)) (Q_var 21) Q_int) Q_nil))) Q_nil))) Q_nil))))) (S_one (S_ret Q_bl)) S_nil) (S_cons (S_if (PW.pt (QW_or (QT_cmp (oNe_ok hr.units) (Q_call O.o_text_of hr0 T.g_text_of T.k_text_of (Q_cons (Q_bin (oAdd_ok (bx := false)) (Q_var 12) (Q_disp false (Q_cons (Q_ix (Q_var 12) (Q_neg Q_int)) Q_nil))) Q_nil)) (Q_tup (Q_cons Q_str (Q_cons (Q_bin (oAdd_ok (bx := false)) (Q_len T.n_len (Q_var 12)) Q_int) Q_nil)))) (QW_or (QT_cmp (oNe_ok hr.units) (Q_call O.o_text_of hr0 T.g_text_of T.k_text_of (Q_cons (Q_disp false Q_nil) Q_nil)) (Q_tup (Q_cons Q_str (Q_cons Q_int Q_nil)))) (QW_or1 (QT_cmp (oNe_ok hr.units) (Q_call O.o_text_of hr0 T.g_text_of T.k_text_of (Q_cons (Q_disp false (Q_cons (Q_sl false (Q_ix (Q_var 12) Q_int) Q_pno (Q_pso (Q_neg Q_int))) Q_nil)) Q_nil)) (Q_tup (Q_cons Q_str (Q_cons Q_int Q_nil)))))))) (S_one (S_ret Q_bl)) S_nil) (S_one (S_ret (Q_and (Q_not (Q_any rfl T.n_any (Q_lc false (own := [("one", 22)]) rfl sc_law.nd (I_list (Q_disp false (Q_cons Q_non (Q_cons Q_bl (Q_cons (Q_disp false (Q_cons Q_int Q_nil)) (Q_cons (Q_tup (Q_cons Q_str (Q_cons Q_non Q_nil))) (Q_cons Q_str (Q_cons Q_str (Q_cons (Q_tup (Q_cons Q_int (Q_cons (Q_disp false (Q_cons Q_int Q_nil)) Q_nil))) Q_nil))))))))) (blkOk_by (by kernel_rfl)) (fun _ _ _ _ _ => (G_nm 22 sc_law.nd)) (fun _ _ _ _ _ => Q_tyes) (fun _ _ _ _ _ => (Q_call O.o_is_plain hr0 T.g_is_plain T.k_is_plain (Q_cons (Q_var 22) Q_nil)))))) (Q_one (Q_cmp oIs_ok (Q_call O.o_value_of hr0 T.g_value_of T.k_value_of (Q_cons Q_str Q_nil)) Q_non))))))))))))))))))))))))
theorem ok_law (T : Tx K mg) (O : AllOk Pg w K mg base n k) : Good Pg w K mg base (2 * (k + 1)) (ad_law K) ["script"] (spEv K (cls K) pr n (k + 1) 34) := by
  obtain ⟨fd, D⟩ := T.fu_law
  exact ⟨fd, okf_law T O D, D.binds (fun _ _ _ _ _ _ us hl => match us, hl with | [_], _ => rfl)⟩
theorem all_zero (T : Tx K mg) : AllOk Pg w K mg base n 0 := by
  refine ⟨?_, ?_, ?_, ?_, ?_, ?_, ?_, ?_, ?_, ?_, ?_, ?_, ?_, ?_, ?_, ?_, ?_, ?_, ?_, ?_, ?_, ?_, ?_, ?_, ?_, ?_, ?_, ?_, ?_, ?_, ?_, ?_, ?_, ?_, ?_⟩
  · obtain ⟨fd, D⟩ := T.fu_signs_of
    exact ⟨fd, fnOk_zero (F := ⟨R_signs_of, 3, 1⟩) rfl rfl, D.binds (fun _ _ _ _ _ _ us hl => match us, hl with | [_], _ => rfl)⟩
  · obtain ⟨fd, D⟩ := T.fu_is_plain
    exact ⟨fd, fnOk_zero (F := ⟨R_is_plain, 3, 1⟩) rfl rfl, D.binds (fun _ _ _ _ _ _ us hl => match us, hl with | [_], _ => rfl)⟩
  · obtain ⟨fd, D⟩ := T.fu_Readeru__initu_
    exact ⟨fd, fnOk_zero (F := ⟨R_Readeru__initu_, 2, 2⟩) rfl rfl, D.binds (fun _ _ _ _ _ _ us hl => match us, hl with | [_, _], _ => rfl)⟩
  · obtain ⟨fd, D⟩ := T.fu_Reader_next_sign
    exact ⟨fd, fnOk_zero (F := ⟨R_Reader_next_sign, 1, 1⟩) rfl rfl, D.binds (fun _ _ _ _ _ _ us hl => match us, hl with | [_], _ => rfl)⟩
  · obtain ⟨fd, D⟩ := T.fu_Reader_integer
    exact ⟨fd, fnOk_zero (F := ⟨R_Reader_integer, 4, 1⟩) rfl rfl, D.binds (fun _ _ _ _ _ _ us hl => match us, hl with | [_], _ => rfl)⟩
  · obtain ⟨fd, D⟩ := T.fu_Reader_string
    exact ⟨fd, fnOk_zero (F := ⟨R_Reader_string, 4, 1⟩) rfl rfl, D.binds (fun _ _ _ _ _ _ us hl => match us, hl with | [_], _ => rfl)⟩
  · obtain ⟨fd, D⟩ := T.fu_Reader_single
    exact ⟨fd, fnOk_zero (F := ⟨R_Reader_single, 1, 1⟩) rfl rfl, D.binds (fun _ _ _ _ _ _ us hl => match us, hl with | [_], _ => rfl)⟩
  · obtain ⟨fd, D⟩ := T.fu_Reader_closed
    exact ⟨fd, fnOk_zero (F := ⟨R_Reader_closed, 2, 2⟩) rfl rfl, D.binds (fun _ _ _ _ _ _ us hl => match us, hl with | [_, _], _ => rfl)⟩
  · obtain ⟨fd, D⟩ := T.fu_Reader_ended
    exact ⟨fd, fnOk_zero (F := ⟨R_Reader_ended, 3, 3⟩) rfl rfl, D.binds (fun _ _ _ _ _ _ us hl => match us, hl with | [_, _, _], _ => rfl)⟩
  · obtain ⟨fd, D⟩ := T.fu_Reader_value
    exact ⟨fd, fnOk_zero (F := ⟨R_Reader_value, 3, 1⟩) rfl rfl, D.binds (fun _ _ _ _ _ _ us hl => match us, hl with | [_], _ => rfl)⟩
  · obtain ⟨fd, D⟩ := T.fu_value_of
    exact ⟨fd, fnOk_zero (F := ⟨R_value_of, 3, 1⟩) rfl rfl, D.binds (fun _ _ _ _ _ _ us hl => match us, hl with | [_], _ => rfl)⟩
  · obtain ⟨fd, D⟩ := T.fu_sums
    exact ⟨fd, fnOk_zero (F := ⟨R_sums, 5, 1⟩) rfl rfl, D.binds (fun _ _ _ _ _ _ us hl => match us, hl with | [_], _ => rfl)⟩
  · obtain ⟨fd, D⟩ := T.fu_inverse
    exact ⟨fd, fnOk_zero (F := ⟨R_inverse, 2, 1⟩) rfl rfl, D.binds (fun _ _ _ _ _ _ us hl => match us, hl with | [_], _ => rfl)⟩
  · obtain ⟨fd, D⟩ := T.fu_line_of
    exact ⟨fd, fnOk_zero (F := ⟨R_line_of, 11, 2⟩) rfl rfl, D.binds (fun _ _ _ _ _ _ us hl => match us, hl with | [_, _], _ => rfl)⟩
  · obtain ⟨fd, D⟩ := T.fu_righted
    exact ⟨fd, fnOk_zero (F := ⟨R_righted, 6, 1⟩) rfl rfl, D.binds (fun _ _ _ _ _ _ us hl => match us, hl with | [_], _ => rfl)⟩
  · obtain ⟨fd, D⟩ := T.fu_written
    exact ⟨fd, fnOk_zero (F := ⟨R_written, 2, 1⟩) rfl rfl, D.binds (fun _ _ _ _ _ _ us hl => match us, hl with | [_], _ => rfl)⟩
  · obtain ⟨fd, D⟩ := T.fu_numbers_in
    exact ⟨fd, fnOk_zero (F := ⟨R_numbers_in, 4, 1⟩) rfl rfl, D.binds (fun _ _ _ _ _ _ us hl => match us, hl with | [_], _ => rfl)⟩
  · obtain ⟨fd, D⟩ := T.fu_lines_of
    exact ⟨fd, fnOk_zero (F := ⟨R_lines_of, 5, 1⟩) rfl rfl, D.binds (fun _ _ _ _ _ _ us hl => match us, hl with | [_], _ => rfl)⟩
  · obtain ⟨fd, D⟩ := T.fu_signs_in
    exact ⟨fd, fnOk_zero (F := ⟨R_signs_in, 4, 2⟩) rfl rfl, D.binds (fun _ _ _ _ _ _ us hl => match us, hl with | [_, _], _ => rfl)⟩
  · obtain ⟨fd, D⟩ := T.fu_are_of_text
    exact ⟨fd, fnOk_zero (F := ⟨R_are_of_text, 3, 1⟩) rfl rfl, D.binds (fun _ _ _ _ _ _ us hl => match us, hl with | [_], _ => rfl)⟩
  · obtain ⟨fd, D⟩ := T.fu_text_of
    exact ⟨fd, fnOk_zero (F := ⟨R_text_of, 7, 1⟩) rfl rfl, D.binds (fun _ _ _ _ _ _ us hl => match us, hl with | [_], _ => rfl)⟩
  · obtain ⟨fd, D⟩ := T.fu__law_mixed
    exact ⟨fd, fnOk_zero (F := ⟨R__law_mixed, 5, 2⟩) rfl rfl, D.binds (fun _ _ _ _ _ _ us hl => match us, hl with | [_, _], _ => rfl)⟩
  · obtain ⟨fd, D⟩ := T.fu__law_rest
    exact ⟨fd, fnOk_zero (F := ⟨R__law_rest, 4, 3⟩) rfl rfl, D.binds (fun _ _ _ _ _ _ us hl => match us, hl with | [_, _, _], _ => rfl)⟩
  · obtain ⟨fd, D⟩ := T.fu__law_pool
    exact ⟨fd, fnOk_zero (F := ⟨R__law_pool, 1, 1⟩) rfl rfl, D.binds (fun _ _ _ _ _ _ us hl => match us, hl with | [_], _ => rfl)⟩
  · obtain ⟨fd, D⟩ := T.fu__law_next
    exact ⟨fd, fnOk_zero (F := ⟨R__law_next, 1, 1⟩) rfl rfl, D.binds (fun _ _ _ _ _ _ us hl => match us, hl with | [_], _ => rfl)⟩
  · obtain ⟨fd, D⟩ := T.fu__law_draw
    exact ⟨fd, fnOk_zero (F := ⟨R__law_draw, 3, 2⟩) rfl rfl, D.binds (fun _ _ _ _ _ _ us hl => match us, hl with | [_, _], _ => rfl)⟩
  · obtain ⟨fd, D⟩ := T.fu__law_pick
    exact ⟨fd, fnOk_zero (F := ⟨R__law_pick, 2, 2⟩) rfl rfl, D.binds (fun _ _ _ _ _ _ us hl => match us, hl with | [_, _], _ => rfl)⟩
  · obtain ⟨fd, D⟩ := T.fu__law_same
    exact ⟨fd, fnOk_zero (F := ⟨R__law_same, 4, 2⟩) rfl rfl, D.binds (fun _ _ _ _ _ _ us hl => match us, hl with | [_, _], _ => rfl)⟩
  · obtain ⟨fd, D⟩ := T.fu__law_different
    exact ⟨fd, fnOk_zero (F := ⟨R__law_different, 3, 1⟩) rfl rfl, D.binds (fun _ _ _ _ _ _ us hl => match us, hl with | [_], _ => rfl)⟩
  · obtain ⟨fd, D⟩ := T.fu__law_value_drawn
    exact ⟨fd, fnOk_zero (F := ⟨R__law_value_drawn, 4, 2⟩) rfl rfl, D.binds (fun _ _ _ _ _ _ us hl => match us, hl with | [_, _], _ => rfl)⟩
  · obtain ⟨fd, D⟩ := T.fu__law_signs
    exact ⟨fd, fnOk_zero (F := ⟨R__law_signs, 2, 1⟩) rfl rfl, D.binds (fun _ _ _ _ _ _ us hl => match us, hl with | [_], _ => rfl)⟩
  · obtain ⟨fd, D⟩ := T.fu__law_numbers
    exact ⟨fd, fnOk_zero (F := ⟨R__law_numbers, 2, 1⟩) rfl rfl, D.binds (fun _ _ _ _ _ _ us hl => match us, hl with | [_], _ => rfl)⟩
  · obtain ⟨fd, D⟩ := T.fu__law_sums
    exact ⟨fd, fnOk_zero (F := ⟨R__law_sums, 5, 1⟩) rfl rfl, D.binds (fun _ _ _ _ _ _ us hl => match us, hl with | [_], _ => rfl)⟩
  · obtain ⟨fd, D⟩ := T.fu__law_line
    exact ⟨fd, fnOk_zero (F := ⟨R__law_line, 2, 1⟩) rfl rfl, D.binds (fun _ _ _ _ _ _ us hl => match us, hl with | [_], _ => rfl)⟩
  · obtain ⟨fd, D⟩ := T.fu_law
    exact ⟨fd, fnOk_zero (F := ⟨R_law, 23, 1⟩) rfl rfl, D.binds (fun _ _ _ _ _ _ us hl => match us, hl with | [_], _ => rfl)⟩
theorem all_ok (T : Tx K mg) : ∀ k, AllOk Pg w K mg base n k
  | 0 => all_zero T
  | k + 1 => ⟨ok_signs_of T (all_ok T k), ok_is_plain T (all_ok T k), ok_Readeru__initu_ T (all_ok T k), ok_Reader_next_sign T (all_ok T k), ok_Reader_integer T (all_ok T k), ok_Reader_string T (all_ok T k), ok_Reader_single T (all_ok T k), ok_Reader_closed T (all_ok T k), ok_Reader_ended T (all_ok T k), ok_Reader_value T (all_ok T k), ok_value_of T (all_ok T k), ok_sums T (all_ok T k), ok_inverse T (all_ok T k), ok_line_of T (all_ok T k), ok_righted T (all_ok T k), ok_written T (all_ok T k), ok_numbers_in T (all_ok T k), ok_lines_of T (all_ok T k), ok_signs_in T (all_ok T k), ok_are_of_text T (all_ok T k), ok_text_of T (all_ok T k), ok__law_mixed T (all_ok T k), ok__law_rest T (all_ok T k), ok__law_pool T (all_ok T k), ok__law_next T (all_ok T k), ok__law_draw T (all_ok T k), ok__law_pick T (all_ok T k), ok__law_same T (all_ok T k), ok__law_different T (all_ok T k), ok__law_value_drawn T (all_ok T k), ok__law_signs T (all_ok T k), ok__law_numbers T (all_ok T k), ok__law_sums T (all_ok T k), ok__law_line T (all_ok T k), ok_law T (all_ok T k)⟩
end
def d_signs_of : He.FnD := ⟨("signs_of", none), "signs_of", "signs_of", defArgs s_signs_of, defBody s_signs_of, defScope s_signs_of⟩
def d_is_plain : He.FnD := ⟨("is_plain", none), "is_plain", "is_plain", defArgs s_is_plain, defBody s_is_plain, defScope s_is_plain⟩
def d_Readeru__initu_ : He.FnD := ⟨("Reader", some "__init__"), "__init__", "Reader.__init__", defArgs s_Readeru__initu_, defBody s_Readeru__initu_, defScope s_Readeru__initu_⟩
def d_Reader_next_sign : He.FnD := ⟨("Reader", some "next_sign"), "next_sign", "Reader.next_sign", defArgs s_Reader_next_sign, defBody s_Reader_next_sign, defScope s_Reader_next_sign⟩
def d_Reader_integer : He.FnD := ⟨("Reader", some "integer"), "integer", "Reader.integer", defArgs s_Reader_integer, defBody s_Reader_integer, defScope s_Reader_integer⟩
def d_Reader_string : He.FnD := ⟨("Reader", some "string"), "string", "Reader.string", defArgs s_Reader_string, defBody s_Reader_string, defScope s_Reader_string⟩
def d_Reader_single : He.FnD := ⟨("Reader", some "single"), "single", "Reader.single", defArgs s_Reader_single, defBody s_Reader_single, defScope s_Reader_single⟩
def d_Reader_closed : He.FnD := ⟨("Reader", some "closed"), "closed", "Reader.closed", defArgs s_Reader_closed, defBody s_Reader_closed, defScope s_Reader_closed⟩
def d_Reader_ended : He.FnD := ⟨("Reader", some "ended"), "ended", "Reader.ended", defArgs s_Reader_ended, defBody s_Reader_ended, defScope s_Reader_ended⟩
def d_Reader_value : He.FnD := ⟨("Reader", some "value"), "value", "Reader.value", defArgs s_Reader_value, defBody s_Reader_value, defScope s_Reader_value⟩
def d_value_of : He.FnD := ⟨("value_of", none), "value_of", "value_of", defArgs s_value_of, defBody s_value_of, defScope s_value_of⟩
def d_sums : He.FnD := ⟨("sums", none), "sums", "sums", defArgs s_sums, defBody s_sums, defScope s_sums⟩
def d_inverse : He.FnD := ⟨("inverse", none), "inverse", "inverse", defArgs s_inverse, defBody s_inverse, defScope s_inverse⟩
def d_line_of : He.FnD := ⟨("line_of", none), "line_of", "line_of", defArgs s_line_of, defBody s_line_of, defScope s_line_of⟩
def d_righted : He.FnD := ⟨("righted", none), "righted", "righted", defArgs s_righted, defBody s_righted, defScope s_righted⟩
def d_written : He.FnD := ⟨("written", none), "written", "written", defArgs s_written, defBody s_written, defScope s_written⟩
def d_numbers_in : He.FnD := ⟨("numbers_in", none), "numbers_in", "numbers_in", defArgs s_numbers_in, defBody s_numbers_in, defScope s_numbers_in⟩
def d_lines_of : He.FnD := ⟨("lines_of", none), "lines_of", "lines_of", defArgs s_lines_of, defBody s_lines_of, defScope s_lines_of⟩
def d_signs_in : He.FnD := ⟨("signs_in", none), "signs_in", "signs_in", defArgs s_signs_in, defBody s_signs_in, defScope s_signs_in⟩
def d_are_of_text : He.FnD := ⟨("are_of_text", none), "are_of_text", "are_of_text", defArgs s_are_of_text, defBody s_are_of_text, defScope s_are_of_text⟩
def d_text_of : He.FnD := ⟨("text_of", none), "text_of", "text_of", defArgs s_text_of, defBody s_text_of, defScope s_text_of⟩
def d__law_mixed : He.FnD := ⟨("_law_mixed", none), "_law_mixed", "_law_mixed", defArgs s__law_mixed, defBody s__law_mixed, defScope s__law_mixed⟩
def d__law_rest : He.FnD := ⟨("_law_rest", none), "_law_rest", "_law_rest", defArgs s__law_rest, defBody s__law_rest, defScope s__law_rest⟩
def d__law_pool : He.FnD := ⟨("_law_pool", none), "_law_pool", "_law_pool", defArgs s__law_pool, defBody s__law_pool, defScope s__law_pool⟩
def d__law_next : He.FnD := ⟨("_law_next", none), "_law_next", "_law_next", defArgs s__law_next, defBody s__law_next, defScope s__law_next⟩
def d__law_draw : He.FnD := ⟨("_law_draw", none), "_law_draw", "_law_draw", defArgs s__law_draw, defBody s__law_draw, defScope s__law_draw⟩
def d__law_pick : He.FnD := ⟨("_law_pick", none), "_law_pick", "_law_pick", defArgs s__law_pick, defBody s__law_pick, defScope s__law_pick⟩
def d__law_same : He.FnD := ⟨("_law_same", none), "_law_same", "_law_same", defArgs s__law_same, defBody s__law_same, defScope s__law_same⟩
def d__law_different : He.FnD := ⟨("_law_different", none), "_law_different", "_law_different", defArgs s__law_different, defBody s__law_different, defScope s__law_different⟩
def d__law_value_drawn : He.FnD := ⟨("_law_value_drawn", none), "_law_value_drawn", "_law_value_drawn", defArgs s__law_value_drawn, defBody s__law_value_drawn, defScope s__law_value_drawn⟩
def d__law_signs : He.FnD := ⟨("_law_signs", none), "_law_signs", "_law_signs", defArgs s__law_signs, defBody s__law_signs, defScope s__law_signs⟩
def d__law_numbers : He.FnD := ⟨("_law_numbers", none), "_law_numbers", "_law_numbers", defArgs s__law_numbers, defBody s__law_numbers, defScope s__law_numbers⟩
def d__law_sums : He.FnD := ⟨("_law_sums", none), "_law_sums", "_law_sums", defArgs s__law_sums, defBody s__law_sums, defScope s__law_sums⟩
def d__law_line : He.FnD := ⟨("_law_line", none), "_law_line", "_law_line", defArgs s__law_line, defBody s__law_line, defScope s__law_line⟩
def d_law : He.FnD := ⟨("law", none), "law", "law", defArgs s_law, defBody s_law, defScope s_law⟩
def fnL : List He.FnD := [d_signs_of, d_is_plain, d_Readeru__initu_, d_Reader_next_sign, d_Reader_integer, d_Reader_string, d_Reader_single, d_Reader_closed, d_Reader_ended, d_Reader_value, d_value_of, d_sums, d_inverse, d_line_of, d_righted, d_written, d_numbers_in, d_lines_of, d_signs_in, d_are_of_text, d_text_of, d__law_mixed, d__law_rest, d__law_pool, d__law_next, d__law_draw, d__law_pick, d__law_same, d__law_different, d__law_value_drawn, d__law_signs, d__law_numbers, d__law_sums, d__law_line, d_law]
def faL : List He.Fa := [.glo "signs_of", .keep "signs_of", .glo "is_plain", .keep "is_plain", .glo "value_of", .keep "value_of", .glo "sums", .keep "sums", .glo "inverse", .keep "inverse", .glo "line_of", .keep "line_of", .glo "righted", .keep "righted", .glo "written", .keep "written", .glo "numbers_in", .keep "numbers_in", .glo "lines_of", .keep "lines_of", .glo "signs_in", .keep "signs_in", .glo "are_of_text", .keep "are_of_text", .glo "text_of", .keep "text_of", .glo "_law_mixed", .keep "_law_mixed", .glo "_law_rest", .keep "_law_rest", .glo "_law_pool", .keep "_law_pool", .glo "_law_next", .keep "_law_next", .glo "_law_draw", .keep "_law_draw", .glo "_law_pick", .keep "_law_pick", .glo "_law_same", .keep "_law_same", .glo "_law_different", .keep "_law_different", .glo "_law_value_drawn", .keep "_law_value_drawn", .glo "_law_signs", .keep "_law_signs", .glo "_law_numbers", .keep "_law_numbers", .glo "_law_sums", .keep "_law_sums", .glo "_law_line", .keep "_law_line", .glo "law", .keep "law", .free "all", .free "any", .free "bool", .free "dict", .free "enumerate", .free "int", .free "isinstance", .free "len", .free "list", .free "max", .free "range", .free "str", .free "tuple", .int "DATA" 55, .str "DIGITS" c_DIGITS, .int "END" 74, .int "PRIME" 97, .str "SIGNS" c_SIGNS, .int "WIDE" 60, .glo "Reader", .cls "Reader", .mkr "Reader", .noat "Reader" "text", .noat "Reader" "at", .meth "Reader" "__init__", .meth "Reader" "next_sign", .meth "Reader" "integer", .meth "Reader" "string", .meth "Reader" "single", .meth "Reader" "closed", .meth "Reader" "ended", .meth "Reader" "value"]
theorem tx_of {K : PySem.W.Frag} {h0 : Heap} {mg : Str → Option Value} (X0 : K.In h0) (G0 : h0.Ns mainGlobals mg) (c : He.SaysE faL fnL K) : Tx K mg where
  g_signs_of := (He.glo_ok X0 G0 (c.fact 0 (f := .glo "signs_of") rfl))
  k_signs_of := (He.keep_ok (c.fact 1 (f := .keep "signs_of") rfl))
  g_is_plain := (He.glo_ok X0 G0 (c.fact 2 (f := .glo "is_plain") rfl))
  k_is_plain := (He.keep_ok (c.fact 3 (f := .keep "is_plain") rfl))
  g_value_of := (He.glo_ok X0 G0 (c.fact 4 (f := .glo "value_of") rfl))
  k_value_of := (He.keep_ok (c.fact 5 (f := .keep "value_of") rfl))
  g_sums := (He.glo_ok X0 G0 (c.fact 6 (f := .glo "sums") rfl))
  k_sums := (He.keep_ok (c.fact 7 (f := .keep "sums") rfl))
  g_inverse := (He.glo_ok X0 G0 (c.fact 8 (f := .glo "inverse") rfl))
  k_inverse := (He.keep_ok (c.fact 9 (f := .keep "inverse") rfl))
  g_line_of := (He.glo_ok X0 G0 (c.fact 10 (f := .glo "line_of") rfl))
  k_line_of := (He.keep_ok (c.fact 11 (f := .keep "line_of") rfl))
  g_righted := (He.glo_ok X0 G0 (c.fact 12 (f := .glo "righted") rfl))
  k_righted := (He.keep_ok (c.fact 13 (f := .keep "righted") rfl))
  g_written := (He.glo_ok X0 G0 (c.fact 14 (f := .glo "written") rfl))
  k_written := (He.keep_ok (c.fact 15 (f := .keep "written") rfl))
  g_numbers_in := (He.glo_ok X0 G0 (c.fact 16 (f := .glo "numbers_in") rfl))
  k_numbers_in := (He.keep_ok (c.fact 17 (f := .keep "numbers_in") rfl))
  g_lines_of := (He.glo_ok X0 G0 (c.fact 18 (f := .glo "lines_of") rfl))
  k_lines_of := (He.keep_ok (c.fact 19 (f := .keep "lines_of") rfl))
  g_signs_in := (He.glo_ok X0 G0 (c.fact 20 (f := .glo "signs_in") rfl))
  k_signs_in := (He.keep_ok (c.fact 21 (f := .keep "signs_in") rfl))
  g_are_of_text := (He.glo_ok X0 G0 (c.fact 22 (f := .glo "are_of_text") rfl))
  k_are_of_text := (He.keep_ok (c.fact 23 (f := .keep "are_of_text") rfl))
  g_text_of := (He.glo_ok X0 G0 (c.fact 24 (f := .glo "text_of") rfl))
  k_text_of := (He.keep_ok (c.fact 25 (f := .keep "text_of") rfl))
  g__law_mixed := (He.glo_ok X0 G0 (c.fact 26 (f := .glo "_law_mixed") rfl))
  k__law_mixed := (He.keep_ok (c.fact 27 (f := .keep "_law_mixed") rfl))
  g__law_rest := (He.glo_ok X0 G0 (c.fact 28 (f := .glo "_law_rest") rfl))
  k__law_rest := (He.keep_ok (c.fact 29 (f := .keep "_law_rest") rfl))
  g__law_pool := (He.glo_ok X0 G0 (c.fact 30 (f := .glo "_law_pool") rfl))
  k__law_pool := (He.keep_ok (c.fact 31 (f := .keep "_law_pool") rfl))
  g__law_next := (He.glo_ok X0 G0 (c.fact 32 (f := .glo "_law_next") rfl))
  k__law_next := (He.keep_ok (c.fact 33 (f := .keep "_law_next") rfl))
  g__law_draw := (He.glo_ok X0 G0 (c.fact 34 (f := .glo "_law_draw") rfl))
  k__law_draw := (He.keep_ok (c.fact 35 (f := .keep "_law_draw") rfl))
  g__law_pick := (He.glo_ok X0 G0 (c.fact 36 (f := .glo "_law_pick") rfl))
  k__law_pick := (He.keep_ok (c.fact 37 (f := .keep "_law_pick") rfl))
  g__law_same := (He.glo_ok X0 G0 (c.fact 38 (f := .glo "_law_same") rfl))
  k__law_same := (He.keep_ok (c.fact 39 (f := .keep "_law_same") rfl))
  g__law_different := (He.glo_ok X0 G0 (c.fact 40 (f := .glo "_law_different") rfl))
  k__law_different := (He.keep_ok (c.fact 41 (f := .keep "_law_different") rfl))
  g__law_value_drawn := (He.glo_ok X0 G0 (c.fact 42 (f := .glo "_law_value_drawn") rfl))
  k__law_value_drawn := (He.keep_ok (c.fact 43 (f := .keep "_law_value_drawn") rfl))
  g__law_signs := (He.glo_ok X0 G0 (c.fact 44 (f := .glo "_law_signs") rfl))
  k__law_signs := (He.keep_ok (c.fact 45 (f := .keep "_law_signs") rfl))
  g__law_numbers := (He.glo_ok X0 G0 (c.fact 46 (f := .glo "_law_numbers") rfl))
  k__law_numbers := (He.keep_ok (c.fact 47 (f := .keep "_law_numbers") rfl))
  g__law_sums := (He.glo_ok X0 G0 (c.fact 48 (f := .glo "_law_sums") rfl))
  k__law_sums := (He.keep_ok (c.fact 49 (f := .keep "_law_sums") rfl))
  g__law_line := (He.glo_ok X0 G0 (c.fact 50 (f := .glo "_law_line") rfl))
  k__law_line := (He.keep_ok (c.fact 51 (f := .keep "_law_line") rfl))
  g_law := (He.glo_ok X0 G0 (c.fact 52 (f := .glo "law") rfl))
  k_law := (He.keep_ok (c.fact 53 (f := .keep "law") rfl))
  n_all := (He.free_ok X0 G0 (c.fact 54 (f := .free "all") rfl))
  n_any := (He.free_ok X0 G0 (c.fact 55 (f := .free "any") rfl))
  n_bool := (He.free_ok X0 G0 (c.fact 56 (f := .free "bool") rfl))
  n_dict := (He.free_ok X0 G0 (c.fact 57 (f := .free "dict") rfl))
  n_enumerate := (He.free_ok X0 G0 (c.fact 58 (f := .free "enumerate") rfl))
  n_int := (He.free_ok X0 G0 (c.fact 59 (f := .free "int") rfl))
  n_isinstance := (He.free_ok X0 G0 (c.fact 60 (f := .free "isinstance") rfl))
  n_len := (He.free_ok X0 G0 (c.fact 61 (f := .free "len") rfl))
  n_list := (He.free_ok X0 G0 (c.fact 62 (f := .free "list") rfl))
  n_max := (He.free_ok X0 G0 (c.fact 63 (f := .free "max") rfl))
  n_range := (He.free_ok X0 G0 (c.fact 64 (f := .free "range") rfl))
  n_str := (He.free_ok X0 G0 (c.fact 65 (f := .free "str") rfl))
  n_tuple := (He.free_ok X0 G0 (c.fact 66 (f := .free "tuple") rfl))
  i_DATA := (He.int_ok X0 G0 (c.fact 67 (f := .int "DATA" 55) rfl))
  i_DIGITS := (He.str_ok X0 G0 (c.fact 68 (f := .str "DIGITS" c_DIGITS) rfl))
  i_END := (He.int_ok X0 G0 (c.fact 69 (f := .int "END" 74) rfl))
  i_PRIME := (He.int_ok X0 G0 (c.fact 70 (f := .int "PRIME" 97) rfl))
  i_SIGNS := (He.str_ok X0 G0 (c.fact 71 (f := .str "SIGNS" c_SIGNS) rfl))
  i_WIDE := (He.int_ok X0 G0 (c.fact 72 (f := .int "WIDE" 60) rfl))
  gc_Reader := (He.glo_ok X0 G0 (c.fact 73 (f := .glo "Reader") rfl))
  cl_Reader := (He.cls_ok (c.fact 74 (f := .cls "Reader") rfl))
  mk_Reader := (He.mkr_ok (c.fact 75 (f := .mkr "Reader") rfl))
  na_Reader_text := (He.noat_ok (c.fact 76 (f := .noat "Reader" "text") rfl))
  na_Reader_at := (He.noat_ok (c.fact 77 (f := .noat "Reader" "at") rfl))
  mi_Reader := (He.meth_ok (c.fact 78 (f := .meth "Reader" "__init__") rfl))
  me_Reader_next_sign := (He.meth_ok (c.fact 79 (f := .meth "Reader" "next_sign") rfl))
  me_Reader_integer := (He.meth_ok (c.fact 80 (f := .meth "Reader" "integer") rfl))
  me_Reader_string := (He.meth_ok (c.fact 81 (f := .meth "Reader" "string") rfl))
  me_Reader_single := (He.meth_ok (c.fact 82 (f := .meth "Reader" "single") rfl))
  me_Reader_closed := (He.meth_ok (c.fact 83 (f := .meth "Reader" "closed") rfl))
  me_Reader_ended := (He.meth_ok (c.fact 84 (f := .meth "Reader" "ended") rfl))
  me_Reader_value := (He.meth_ok (c.fact 85 (f := .meth "Reader" "value") rfl))
  fu_signs_of := by
    obtain ⟨oc, od, osl, kV, doc, pm, an, cdv, ct, l, e⟩ := c.def_ 0 (d := d_signs_of) rfl
    exact ⟨_, fun_mk (st := s_signs_of) l e (He.keep_ok (c.fact 1 (f := .keep "signs_of") rfl))⟩
  fu_is_plain := by
    obtain ⟨oc, od, osl, kV, doc, pm, an, cdv, ct, l, e⟩ := c.def_ 1 (d := d_is_plain) rfl
    exact ⟨_, fun_mk (st := s_is_plain) l e (He.keep_ok (c.fact 3 (f := .keep "is_plain") rfl))⟩
  fu_Readeru__initu_ := by
    obtain ⟨oc, od, osl, kV, doc, pm, an, cdv, ct, l, e⟩ := c.def_ 2 (d := d_Readeru__initu_) rfl
    exact ⟨_, fun_mk (st := s_Readeru__initu_) l e ((He.meth_ok (c.fact 78 (f := .meth "Reader" "__init__") rfl)).kp)⟩
  fu_Reader_next_sign := by
    obtain ⟨oc, od, osl, kV, doc, pm, an, cdv, ct, l, e⟩ := c.def_ 3 (d := d_Reader_next_sign) rfl
    exact ⟨_, fun_mk (st := s_Reader_next_sign) l e ((He.meth_ok (c.fact 79 (f := .meth "Reader" "next_sign") rfl)).kp)⟩
  fu_Reader_integer := by
    obtain ⟨oc, od, osl, kV, doc, pm, an, cdv, ct, l, e⟩ := c.def_ 4 (d := d_Reader_integer) rfl
    exact ⟨_, fun_mk (st := s_Reader_integer) l e ((He.meth_ok (c.fact 80 (f := .meth "Reader" "integer") rfl)).kp)⟩
  fu_Reader_string := by
    obtain ⟨oc, od, osl, kV, doc, pm, an, cdv, ct, l, e⟩ := c.def_ 5 (d := d_Reader_string) rfl
    exact ⟨_, fun_mk (st := s_Reader_string) l e ((He.meth_ok (c.fact 81 (f := .meth "Reader" "string") rfl)).kp)⟩
  fu_Reader_single := by
    obtain ⟨oc, od, osl, kV, doc, pm, an, cdv, ct, l, e⟩ := c.def_ 6 (d := d_Reader_single) rfl
    exact ⟨_, fun_mk (st := s_Reader_single) l e ((He.meth_ok (c.fact 82 (f := .meth "Reader" "single") rfl)).kp)⟩
  fu_Reader_closed := by
    obtain ⟨oc, od, osl, kV, doc, pm, an, cdv, ct, l, e⟩ := c.def_ 7 (d := d_Reader_closed) rfl
    exact ⟨_, fun_mk (st := s_Reader_closed) l e ((He.meth_ok (c.fact 83 (f := .meth "Reader" "closed") rfl)).kp)⟩
  fu_Reader_ended := by
    obtain ⟨oc, od, osl, kV, doc, pm, an, cdv, ct, l, e⟩ := c.def_ 8 (d := d_Reader_ended) rfl
    exact ⟨_, fun_mk (st := s_Reader_ended) l e ((He.meth_ok (c.fact 84 (f := .meth "Reader" "ended") rfl)).kp)⟩
  fu_Reader_value := by
    obtain ⟨oc, od, osl, kV, doc, pm, an, cdv, ct, l, e⟩ := c.def_ 9 (d := d_Reader_value) rfl
    exact ⟨_, fun_mk (st := s_Reader_value) l e ((He.meth_ok (c.fact 85 (f := .meth "Reader" "value") rfl)).kp)⟩
  fu_value_of := by
    obtain ⟨oc, od, osl, kV, doc, pm, an, cdv, ct, l, e⟩ := c.def_ 10 (d := d_value_of) rfl
    exact ⟨_, fun_mk (st := s_value_of) l e (He.keep_ok (c.fact 5 (f := .keep "value_of") rfl))⟩
  fu_sums := by
    obtain ⟨oc, od, osl, kV, doc, pm, an, cdv, ct, l, e⟩ := c.def_ 11 (d := d_sums) rfl
    exact ⟨_, fun_mk (st := s_sums) l e (He.keep_ok (c.fact 7 (f := .keep "sums") rfl))⟩
  fu_inverse := by
    obtain ⟨oc, od, osl, kV, doc, pm, an, cdv, ct, l, e⟩ := c.def_ 12 (d := d_inverse) rfl
    exact ⟨_, fun_mk (st := s_inverse) l e (He.keep_ok (c.fact 9 (f := .keep "inverse") rfl))⟩
  fu_line_of := by
    obtain ⟨oc, od, osl, kV, doc, pm, an, cdv, ct, l, e⟩ := c.def_ 13 (d := d_line_of) rfl
    exact ⟨_, fun_mk (st := s_line_of) l e (He.keep_ok (c.fact 11 (f := .keep "line_of") rfl))⟩
  fu_righted := by
    obtain ⟨oc, od, osl, kV, doc, pm, an, cdv, ct, l, e⟩ := c.def_ 14 (d := d_righted) rfl
    exact ⟨_, fun_mk (st := s_righted) l e (He.keep_ok (c.fact 13 (f := .keep "righted") rfl))⟩
  fu_written := by
    obtain ⟨oc, od, osl, kV, doc, pm, an, cdv, ct, l, e⟩ := c.def_ 15 (d := d_written) rfl
    exact ⟨_, fun_mk (st := s_written) l e (He.keep_ok (c.fact 15 (f := .keep "written") rfl))⟩
  fu_numbers_in := by
    obtain ⟨oc, od, osl, kV, doc, pm, an, cdv, ct, l, e⟩ := c.def_ 16 (d := d_numbers_in) rfl
    exact ⟨_, fun_mk (st := s_numbers_in) l e (He.keep_ok (c.fact 17 (f := .keep "numbers_in") rfl))⟩
  fu_lines_of := by
    obtain ⟨oc, od, osl, kV, doc, pm, an, cdv, ct, l, e⟩ := c.def_ 17 (d := d_lines_of) rfl
    exact ⟨_, fun_mk (st := s_lines_of) l e (He.keep_ok (c.fact 19 (f := .keep "lines_of") rfl))⟩
  fu_signs_in := by
    obtain ⟨oc, od, osl, kV, doc, pm, an, cdv, ct, l, e⟩ := c.def_ 18 (d := d_signs_in) rfl
    exact ⟨_, fun_mk (st := s_signs_in) l e (He.keep_ok (c.fact 21 (f := .keep "signs_in") rfl))⟩
  fu_are_of_text := by
    obtain ⟨oc, od, osl, kV, doc, pm, an, cdv, ct, l, e⟩ := c.def_ 19 (d := d_are_of_text) rfl
    exact ⟨_, fun_mk (st := s_are_of_text) l e (He.keep_ok (c.fact 23 (f := .keep "are_of_text") rfl))⟩
  fu_text_of := by
    obtain ⟨oc, od, osl, kV, doc, pm, an, cdv, ct, l, e⟩ := c.def_ 20 (d := d_text_of) rfl
    exact ⟨_, fun_mk (st := s_text_of) l e (He.keep_ok (c.fact 25 (f := .keep "text_of") rfl))⟩
  fu__law_mixed := by
    obtain ⟨oc, od, osl, kV, doc, pm, an, cdv, ct, l, e⟩ := c.def_ 21 (d := d__law_mixed) rfl
    exact ⟨_, fun_mk (st := s__law_mixed) l e (He.keep_ok (c.fact 27 (f := .keep "_law_mixed") rfl))⟩
  fu__law_rest := by
    obtain ⟨oc, od, osl, kV, doc, pm, an, cdv, ct, l, e⟩ := c.def_ 22 (d := d__law_rest) rfl
    exact ⟨_, fun_mk (st := s__law_rest) l e (He.keep_ok (c.fact 29 (f := .keep "_law_rest") rfl))⟩
  fu__law_pool := by
    obtain ⟨oc, od, osl, kV, doc, pm, an, cdv, ct, l, e⟩ := c.def_ 23 (d := d__law_pool) rfl
    exact ⟨_, fun_mk (st := s__law_pool) l e (He.keep_ok (c.fact 31 (f := .keep "_law_pool") rfl))⟩
  fu__law_next := by
    obtain ⟨oc, od, osl, kV, doc, pm, an, cdv, ct, l, e⟩ := c.def_ 24 (d := d__law_next) rfl
    exact ⟨_, fun_mk (st := s__law_next) l e (He.keep_ok (c.fact 33 (f := .keep "_law_next") rfl))⟩
  fu__law_draw := by
    obtain ⟨oc, od, osl, kV, doc, pm, an, cdv, ct, l, e⟩ := c.def_ 25 (d := d__law_draw) rfl
    exact ⟨_, fun_mk (st := s__law_draw) l e (He.keep_ok (c.fact 35 (f := .keep "_law_draw") rfl))⟩
  fu__law_pick := by
    obtain ⟨oc, od, osl, kV, doc, pm, an, cdv, ct, l, e⟩ := c.def_ 26 (d := d__law_pick) rfl
    exact ⟨_, fun_mk (st := s__law_pick) l e (He.keep_ok (c.fact 37 (f := .keep "_law_pick") rfl))⟩
  fu__law_same := by
    obtain ⟨oc, od, osl, kV, doc, pm, an, cdv, ct, l, e⟩ := c.def_ 27 (d := d__law_same) rfl
    exact ⟨_, fun_mk (st := s__law_same) l e (He.keep_ok (c.fact 39 (f := .keep "_law_same") rfl))⟩
  fu__law_different := by
    obtain ⟨oc, od, osl, kV, doc, pm, an, cdv, ct, l, e⟩ := c.def_ 28 (d := d__law_different) rfl
    exact ⟨_, fun_mk (st := s__law_different) l e (He.keep_ok (c.fact 41 (f := .keep "_law_different") rfl))⟩
  fu__law_value_drawn := by
    obtain ⟨oc, od, osl, kV, doc, pm, an, cdv, ct, l, e⟩ := c.def_ 29 (d := d__law_value_drawn) rfl
    exact ⟨_, fun_mk (st := s__law_value_drawn) l e (He.keep_ok (c.fact 43 (f := .keep "_law_value_drawn") rfl))⟩
  fu__law_signs := by
    obtain ⟨oc, od, osl, kV, doc, pm, an, cdv, ct, l, e⟩ := c.def_ 30 (d := d__law_signs) rfl
    exact ⟨_, fun_mk (st := s__law_signs) l e (He.keep_ok (c.fact 45 (f := .keep "_law_signs") rfl))⟩
  fu__law_numbers := by
    obtain ⟨oc, od, osl, kV, doc, pm, an, cdv, ct, l, e⟩ := c.def_ 31 (d := d__law_numbers) rfl
    exact ⟨_, fun_mk (st := s__law_numbers) l e (He.keep_ok (c.fact 47 (f := .keep "_law_numbers") rfl))⟩
  fu__law_sums := by
    obtain ⟨oc, od, osl, kV, doc, pm, an, cdv, ct, l, e⟩ := c.def_ 32 (d := d__law_sums) rfl
    exact ⟨_, fun_mk (st := s__law_sums) l e (He.keep_ok (c.fact 49 (f := .keep "_law_sums") rfl))⟩
  fu__law_line := by
    obtain ⟨oc, od, osl, kV, doc, pm, an, cdv, ct, l, e⟩ := c.def_ 33 (d := d__law_line) rfl
    exact ⟨_, fun_mk (st := s__law_line) l e (He.keep_ok (c.fact 51 (f := .keep "_law_line") rfl))⟩
  fu_law := by
    obtain ⟨oc, od, osl, kV, doc, pm, an, cdv, ct, l, e⟩ := c.def_ 34 (d := d_law) rfl
    exact ⟨_, fun_mk (st := s_law) l e (He.keep_ok (c.fact 53 (f := .keep "law") rfl))⟩
theorem facts {lw : PySem.W.OpenLaw} {w : World} {K : PySem.W.Frag} {h : Heap} {mg : Str → Option Value} {f : Addr} (k : Nat) (hrun : ∀ ns : List Int, ns.length ≤ 63 → ∃ n μ', evCall pr n (k + 1) 34 [.dat (.scr ns)] [] = some (.dat (.bl true), μ'))
    (X : K.In h) (G : h.Ns mainGlobals mg) (hfa : mg ("law" : Str) = some (.ref f)) (c : He.SaysE faL fnL K) :
    ∃ fd : FuncData, (∀ (s : Shared) (v : Value), BindsTo s fd ⟨[v], []⟩ [("script", v)]) ∧ ∀ base : Heap, K.In base → base.Ns mainGlobals mg → FnOk lw.prog w K mg base CX0 (2 * (k + 1)) f fd ["script"] (EV.spLaw K) := by
  have T := tx_of X G c
  have e := hfa.symm.trans T.g_law
  cases e
  obtain ⟨fd0, D0⟩ := T.fu_law
  have b : ∀ (s : Shared) (v : Value), BindsTo s fd0 ⟨[v], []⟩ [("script", v)] := by
    obtain ⟨oc, od, kV, doc, pm, an, cdv, ct, osl, rfl, lk, hcd⟩ := D0.ex
    exact fun s v => .of_eq rfl
  exact ⟨fd0, b, fun base _ _ => fnOk_law (fun n => okf_law T (all_ok (n := n) T k) D0) (F := ⟨R_law, 23, 1⟩) rfl rfl hrun⟩
end K54

/-! EvW: what must hold so that a run ends so (rules for the evaluator). -/
namespace EV
open PySem PySem.Spec PyProof.Rows L2

abbrev KE := Val → Store → Prop
def wE (c : Ev) (e : RE) (ρ : Rho) (μ : Store) (Q : KE) : Prop := ∃ v μ', evE c e ρ μ = some (v, μ') ∧ Q v μ'
def wL (c : Ev) (e : RL) (ρ : Rho) (μ : Store) (Q : List Val → Store → Prop) : Prop := ∃ v μ', evL c e ρ μ = some (v, μ') ∧ Q v μ'
def wO (c : Ev) (e : RO) (ρ : Rho) (μ : Store) (Q : Option Int → Store → Prop) : Prop := ∃ v μ', evO c e ρ μ = some (v, μ') ∧ Q v μ'
def wT (c : Ev) (e : RT) (ρ : Rho) (μ : Store) (Q : Bool → Store → Prop) : Prop := ∃ v μ', evT c e ρ μ = some (v, μ') ∧ Q v μ'
abbrev KS := Out → Rho → Store → Prop
def wS (c : Ev) (s : RS) (ρ : Rho) (μ : Store) (Q : KS) : Prop := ∃ o ρ' μ', evS c s ρ μ = some (o, ρ', μ') ∧ Q o ρ' μ'
/-- an operation, a call -/
def wM (r : Option (Val × Store)) (Q : KE) : Prop := ∃ v μ', r = some (v, μ') ∧ Q v μ'
def wB (r : Option Bool) (Q : Bool → Prop) : Prop := ∃ b, r = some b ∧ Q b
theorem wM_of {r : Option (Val × Store)} {v : Val} {μ' : Store} {Q : KE} (h : r = some (v, μ')) (q : Q v μ') : wM r Q := ⟨v, μ', h, q⟩
theorem wB_of {r : Option Bool} {b : Bool} {Q : Bool → Prop} (h : r = some b) (q : Q b) : wB r Q := ⟨b, h, q⟩
section
variable {c : Ev} {ρ : Rho} {μ : Store}
theorem wE_var {i : Nat} {v : Val} {Q : KE} (h : ρ[i]? = some (some v)) (q : Q v μ) : wE c (.var i) ρ μ Q := ⟨v, μ, by simp only [evE, h], q⟩
theorem wE_cst {s : Sc} {Q : KE} (q : Q (.dat s.d) μ) : wE c (.cst s) ρ μ Q := ⟨_, μ, rfl, q⟩
theorem wE_int {s : Int} {Q : KE} (q : Q (.dat (.int s)) μ) : wE c (.cst (.int s)) ρ μ Q := ⟨_, μ, rfl, q⟩
theorem wE_str {s : Str} {Q : KE} (q : Q (.dat (.str s)) μ) : wE c (.cst (.str s)) ρ μ Q := ⟨_, μ, rfl, q⟩
theorem wE_bl {s : Bool} {Q : KE} (q : Q (.dat (.bl s)) μ) : wE c (.cst (.bl s)) ρ μ Q := ⟨_, μ, rfl, q⟩
theorem wE_non {Q : KE} (q : Q (.dat .non) μ) : wE c (.cst .non) ρ μ Q := ⟨_, μ, rfl, q⟩
theorem wE_app {o : Op} {a : RL} {Q : KE} (h : wL c a ρ μ fun vs μ1 => wM (o.sem vs μ1) Q) : wE c (.app o a) ρ μ Q := by
  obtain ⟨vs, μ1, e, v, μ2, e2, q⟩ := h
  exact ⟨v, μ2, by simp only [evE, e, e2], q⟩
theorem wE_call {f : Nat} {a : RL} {Q : KE} (h : wL c a ρ μ fun vs μ1 => wM (c.call f vs μ1) Q) : wE c (.call f a) ρ μ Q := by
  obtain ⟨vs, μ1, e, v, μ2, e2, q⟩ := h
  exact ⟨v, μ2, by simp only [evE, e, e2], q⟩
theorem wE_mth {k f : Nat} {nm : Str} {o : RE} {a : RL} {Q : KE} (h : wE c o ρ μ fun x μ1 => ∃ j fs, x = .box j ∧ μ1[j]? = some (.ins k fs) ∧ lookF nm fs = none ∧ wL c a ρ μ1 fun vs μ2 => wM (c.call f (.box j :: vs) μ2) Q) : wE c (.mth k nm f o a) ρ μ Q := by
  obtain ⟨x, μ1, e, j, fs, rfl, hj, hn, vs, μ2, e2, v, μ3, e3, q⟩ := h
  exact ⟨v, μ3, by simp only [evE, e, hj, hn, and_self, if_true, e2, e3], q⟩
theorem wE_new {k f : Nat} {a : RL} {Q : KE} (h : wL c a ρ μ fun vs μ1 => wM (c.call f (.box μ1.length :: vs) (μ1 ++ [.ins k []])) fun v μ2 => v = .dat .non ∧ Q (.box μ1.length) μ2) : wE c (.new k f a) ρ μ Q := by
  obtain ⟨vs, μ1, e, v, μ2, e2, rfl, q⟩ := h
  exact ⟨_, μ2, by simp only [evE, e, e2], q⟩
theorem wE_fld {k : Nat} {o : RE} {f : Str} {Q : KE} (h : wE c o ρ μ fun x μ1 => ∃ j fs v, x = .box j ∧ μ1[j]? = some (.ins k fs) ∧ (c.fs k).contains f = true ∧ lookF f fs = some v ∧ Q v μ1) : wE c (.fld k o f) ρ μ Q := by
  obtain ⟨x, μ1, e, j, fs, v, rfl, hj, hc, hl, q⟩ := h
  exact ⟨v, μ1, by simp only [evE, e, hj, hc, and_self, if_true, hl], q⟩
theorem wE_bm {o : Mt} {r : RE} {a : RL} {Q : KE} (h : wE c r ρ μ fun x μ1 => o.is x μ1 = true ∧ wL c a ρ μ1 fun vs μ2 => wM (o.sem x vs μ2) Q) : wE c (.bm o r a) ρ μ Q := by
  obtain ⟨x, μ1, e, hi, vs, μ2, e2, v, μ3, e3, q⟩ := h
  exact ⟨v, μ3, by simp only [evE, e, hi, if_true, e2, e3], q⟩
theorem wE_sl {o : Sl} {e : RE} {lo hi : RO} {Q : KE} (h : wE c e ρ μ fun x μ1 => wO c lo ρ μ1 fun l μ2 => wO c hi ρ μ2 fun u μ3 => wM (o.sem x l u μ3) Q) : wE c (.sl o e lo hi) ρ μ Q := by
  obtain ⟨x, μ1, e1, l, μ2, e2, u, μ3, e3, v, μ4, e4, q⟩ := h
  exact ⟨v, μ4, by simp only [evE, e1, e2, e3, e4], q⟩
theorem wE_ifx {t : RT} {a b : RE} {Q : KE} (h : wT c t ρ μ fun k μ1 => if k = true then wE c a ρ μ1 Q else wE c b ρ μ1 Q) : wE c (.ifx t a b) ρ μ Q := by
  obtain ⟨k, μ1, e, h⟩ := h
  cases k with
  | true =>
    obtain ⟨v, μ2, e2, q⟩ := h
    exact ⟨v, μ2, by simp only [evE, e, e2], q⟩
  | false =>
    obtain ⟨v, μ2, e2, q⟩ := h
    exact ⟨v, μ2, by simp only [evE, e, e2], q⟩
theorem wE_and {a b : RE} {Q : KE} (h : wE c a ρ μ fun x μ1 => ∃ k, x = .dat (.bl k) ∧ if k = true then wE c b ρ μ1 Q else Q (.dat (.bl false)) μ1) : wE c (.andV a b) ρ μ Q := by
  obtain ⟨x, μ1, e, k, rfl, h⟩ := h
  cases k with
  | true =>
    obtain ⟨v, μ2, e2, q⟩ := h
    exact ⟨v, μ2, by simp only [evE, e, e2], q⟩
  | false => exact ⟨_, μ1, by simp only [evE, e], h⟩
theorem wE_or {a b : RE} {Q : KE} (h : wE c a ρ μ fun x μ1 => ∃ k, x = .dat (.bl k) ∧ if k = true then Q (.dat (.bl true)) μ1 else wE c b ρ μ1 Q) : wE c (.orV a b) ρ μ Q := by
  obtain ⟨x, μ1, e, k, rfl, h⟩ := h
  cases k with
  | true => exact ⟨_, μ1, by simp only [evE, e], h⟩
  | false =>
    obtain ⟨v, μ2, e2, q⟩ := h
    exact ⟨v, μ2, by simp only [evE, e, e2], q⟩
theorem wE_chain {o1 o2 : Op} {a b d : RE} {Q : KE} (h : wE c a ρ μ fun x μ1 => wE c b ρ μ1 fun y μ2 => wM (o1.sem [x, y] μ2) fun z μ3 => ∃ k, z = .dat (.bl k) ∧ if k = true then wE c d ρ μ3 fun u μ4 => wM (o2.sem [y, u] μ4) Q else Q (.dat (.bl false)) μ3) :
    wE c (.chain o1 o2 a b d) ρ μ Q := by
  obtain ⟨x, μ1, e1, y, μ2, e2, z, μ3, e3, k, rfl, h⟩ := h
  cases k with
  | true =>
    obtain ⟨u, μ4, e4, v, μ5, e5, q⟩ := h
    exact ⟨v, μ5, by simp only [evE, e1, e2, e3, e4, e5], q⟩
  | false => exact ⟨_, μ3, by simp only [evE, e1, e2, e3], h⟩
theorem wE_frz {e : RE} {Q : KE} (h : wE c e ρ μ fun x μ1 => wM (frzV x μ1) Q) : wE c (.frz e) ρ μ Q := by
  obtain ⟨x, μ1, e1, v, μ2, e2, q⟩ := h
  exact ⟨v, μ2, by simp only [evE, e1, e2], q⟩
/-- a turn of a comprehension -/
def lcStep (c : Ev) (vs : List Nat) (g : RG) (t : RT) (e : RE) (ρ : Rho) : Val → Store → Option (Option Val × Store) := fun v μ => match asgG g v (wipeE ρ vs) μ with
  | some ρ2 => match evT c t ρ2 μ with
    | some (true, μ) => match evE c e ρ2 μ with
      | some (y, μ) => some (some y, μ)
      | none => none
    | some (false, μ) => some (none, μ)
    | none => none
  | none => none
theorem wE_lc {bx : Bool} {vs : List Nat} {it : Ito} {ia : RL} {g : RG} {t : RT} {e : RE} {Q : KE}
    (h : wL c ia ρ μ fun xs μ1 => ∃ nx, it.sem xs μ1 = some nx ∧ (slotsG g).all vs.contains = true ∧ ∃ acc μ2, lcLoop nx (lcStep c vs g t e ρ) c.n 0 [] μ1 = some (acc, μ2) ∧ wM (mkL bx acc μ2) Q) : wE c (.lc bx vs it ia g t e) ρ μ Q := by
  obtain ⟨xs, μ1, e1, nx, e2, hs, acc, μ2, e3, v, μ3, e4, q⟩ := h
  refine ⟨v, μ3, ?_, q⟩
  simp only [evE, e1, e2, hs, if_true]
  have this : ∀ r : Option (List Val × Store), r = some (acc, μ2) → (match r with | some (acc, μ) => mkL bx acc μ | none => none) = some (v, μ3) := by
    rintro _ rfl
    exact e4
  exact this _ e3
theorem wL_nil {Q : List Val → Store → Prop} (q : Q [] μ) : wL c .nil ρ μ Q := ⟨[], μ, rfl, q⟩
theorem wL_cons {e : RE} {r : RL} {Q : List Val → Store → Prop} (h : wE c e ρ μ fun v μ1 => wL c r ρ μ1 fun vs μ2 => Q (v :: vs) μ2) : wL c (.cons e r) ρ μ Q := by
  obtain ⟨v, μ1, e1, vs, μ2, e2, q⟩ := h
  exact ⟨v :: vs, μ2, by simp only [evL, e1, e2], q⟩
theorem wO_no {Q : Option Int → Store → Prop} (q : Q none μ) : wO c .no ρ μ Q := ⟨none, μ, rfl, q⟩
theorem wO_so {e : RE} {Q : Option Int → Store → Prop} (h : wE c e ρ μ fun v μ1 => ∃ i, v = .dat (.int i) ∧ Q (some i) μ1) : wO c (.so e) ρ μ Q := by
  obtain ⟨v, μ1, e1, i, rfl, q⟩ := h
  exact ⟨some i, μ1, by simp only [evO, e1], q⟩
theorem wT_yes {Q : Bool → Store → Prop} (q : Q true μ) : wT c .yes ρ μ Q := ⟨true, μ, rfl, q⟩
theorem wT_tr {o : Tr} {e : RE} {Q : Bool → Store → Prop} (h : wE c e ρ μ fun v μ1 => wB (o.sem v μ1) fun b => Q b μ1) : wT c (.tr o e) ρ μ Q := by
  obtain ⟨v, μ1, e1, b, e2, q⟩ := h
  exact ⟨b, μ1, by simp only [evT, e1, e2], q⟩
theorem wT_bv {e : RE} {Q : Bool → Store → Prop} (h : wE c e ρ μ fun v μ1 => ∃ b, v = .dat (.bl b) ∧ Q b μ1) : wT c (.bv e) ρ μ Q := by
  obtain ⟨v, μ1, e1, b, rfl, q⟩ := h
  exact ⟨b, μ1, by simp only [evT, e1], q⟩
theorem wT_and {a b : RT} {Q : Bool → Store → Prop} (h : wT c a ρ μ fun k μ1 => if k = true then wT c b ρ μ1 Q else Q false μ1) : wT c (.and a b) ρ μ Q := by
  obtain ⟨k, μ1, e1, h⟩ := h
  cases k with
  | true =>
    obtain ⟨v, μ2, e2, q⟩ := h
    exact ⟨v, μ2, by simp only [evT, e1, e2], q⟩
  | false => exact ⟨false, μ1, by simp only [evT, e1], h⟩
theorem wT_or {a b : RT} {Q : Bool → Store → Prop} (h : wT c a ρ μ fun k μ1 => if k = true then Q true μ1 else wT c b ρ μ1 Q) : wT c (.or a b) ρ μ Q := by
  obtain ⟨k, μ1, e1, h⟩ := h
  cases k with
  | true => exact ⟨true, μ1, by simp only [evT, e1], h⟩
  | false =>
    obtain ⟨v, μ2, e2, q⟩ := h
    exact ⟨v, μ2, by simp only [evT, e1, e2], q⟩
theorem wT_not {a : RT} {Q : Bool → Store → Prop} (h : wT c a ρ μ fun k μ1 => Q (!k) μ1) : wT c (.not a) ρ μ Q := by
  obtain ⟨k, μ1, e1, q⟩ := h
  exact ⟨!k, μ1, by simp only [evT, e1], q⟩
/-! statements -/
theorem wS_nx {Q : KS} (q : Q .nx ρ μ) : wS c .nx ρ μ Q := ⟨_, _, _, rfl, q⟩
theorem wS_brk {Q : KS} (q : Q .bk ρ μ) : wS c .brk ρ μ Q := ⟨_, _, _, rfl, q⟩
theorem wS_cnt {Q : KS} (q : Q .ct ρ μ) : wS c .cnt ρ μ Q := ⟨_, _, _, rfl, q⟩
theorem wS_retN {Q : KS} (q : Q (.rt (.dat .non)) ρ μ) : wS c .retN ρ μ Q := ⟨_, _, _, rfl, q⟩
/-- what is wanted behind the first of two -/
def kSeq (c : Ev) (b : RS) (Q : KS) : KS := fun o ρ μ => match o with
  | .nx => wS c b ρ μ Q
  | o => Q o ρ μ
theorem wS_seq {a b : RS} {Q : KS} (h : wS c a ρ μ (kSeq c b Q)) : wS c (.seq a b) ρ μ Q := by
  obtain ⟨o, ρ1, μ1, e1, h⟩ := h
  cases o with
  | nx =>
    obtain ⟨o2, ρ2, μ2, e2, q⟩ := h
    exact ⟨o2, ρ2, μ2, by simp only [evS, e1, e2], q⟩
  | bk => exact ⟨_, _, _, by simp only [evS, e1], h⟩
  | ct => exact ⟨_, _, _, by simp only [evS, e1], h⟩
  | rt v => exact ⟨_, _, _, by simp only [evS, e1], h⟩
theorem wS_asg {g : RG} {e : RE} {Q : KS} (h : wE c e ρ μ fun v μ1 => ∃ ρ1, asgG g v ρ μ1 = some ρ1 ∧ Q .nx ρ1 μ1) : wS c (.asg g e) ρ μ Q := by
  obtain ⟨v, μ1, e1, ρ1, e2, q⟩ := h
  exact ⟨_, _, _, by simp only [evS, e1, e2], q⟩
theorem wS_set {i : Nat} {e : RE} {Q : KS} (h : wE c e ρ μ fun v μ1 => Q .nx (ρ.set i (some v)) μ1) : wS c (.asg (.nm i) e) ρ μ Q := by
  obtain ⟨v, μ1, e1, q⟩ := h
  exact ⟨_, _, _, by simp only [evS, e1, asgG], q⟩
theorem wS_setI {o i e : RE} {Q : KS} (h : wE c e ρ μ fun v μ1 => wE c o ρ μ1 fun x μ2 => wE c i ρ μ2 fun y μ3 => ∃ k j vs m, x = .box k ∧ y = .dat (.int j) ∧ μ3[k]? = some (.lst vs) ∧ ixN vs.length j = some m ∧ Q .nx ρ (μ3.set k (.lst (vs.set m v)))) : wS c (.setI o i e) ρ μ Q := by
  obtain ⟨v, μ1, e1, x, μ2, e2, y, μ3, e3, k, j, vs, m, rfl, rfl, e4, e5, q⟩ := h
  exact ⟨_, _, _, by simp only [evS, e1, e2, e3, e4, e5], q⟩
theorem wS_setF {k : Nat} {o : RE} {f : Str} {e : RE} {Q : KS} (h : wE c e ρ μ fun v μ1 => wE c o ρ μ1 fun x μ2 => ∃ j fs, x = .box j ∧ μ2[j]? = some (.ins k fs) ∧ (c.fs k).contains f = true ∧ fs.length < 1000 ∧ Q .nx ρ (μ2.set j (.ins k (putG f v fs)))) : wS c (.setF k o f e) ρ μ Q := by
  obtain ⟨v, μ1, e1, x, μ2, e2, j, fs, rfl, e3, e4, e5, q⟩ := h
  exact ⟨_, _, _, by simp only [evS, e1, e2, e3, e4, e5, and_self, if_true], q⟩
theorem wS_drop {e : RE} {Q : KS} (h : wE c e ρ μ fun _ μ1 => Q .nx ρ μ1) : wS c (.drop e) ρ μ Q := by
  obtain ⟨v, μ1, e1, q⟩ := h
  exact ⟨_, _, _, by simp only [evS, e1], q⟩
theorem wS_ret {e : RE} {Q : KS} (h : wE c e ρ μ fun v μ1 => Q (.rt v) ρ μ1) : wS c (.ret e) ρ μ Q := by
  obtain ⟨v, μ1, e1, q⟩ := h
  exact ⟨_, _, _, by simp only [evS, e1], q⟩
theorem wS_ifs {t : RT} {a b : RS} {Q : KS} (h : wT c t ρ μ fun k μ1 => if k = true then wS c a ρ μ1 Q else wS c b ρ μ1 Q) : wS c (.ifs t a b) ρ μ Q := by
  obtain ⟨k, μ1, e, h⟩ := h
  cases k with
  | true =>
    obtain ⟨o, ρ2, μ2, e2, q⟩ := h
    exact ⟨o, ρ2, μ2, by simp only [evS, e, e2], q⟩
  | false =>
    obtain ⟨o, ρ2, μ2, e2, q⟩ := h
    exact ⟨o, ρ2, μ2, by simp only [evS, e, e2], q⟩
theorem wS_gz {i : Nat} {s : RS} {v : Val} {Q : KS} (h : ρ[i]? = some (some v)) (q : wM (frzV v μ) fun v' μ1 => wS c s (ρ.set i (some v')) μ1 Q) : wS c (.gz i s) ρ μ Q := by
  obtain ⟨v', μ1, e1, o, ρ2, μ2, e2, q⟩ := q
  exact ⟨o, ρ2, μ2, by simp only [evS, h, e1, e2], q⟩
/-! loops -/
def wR (r : Res) (Q : KS) : Prop := ∃ o ρ' μ', r = some (o, ρ', μ') ∧ Q o ρ' μ'
/-- a turn of a for -/
def forStep (c : Ev) (g : RG) (b : RS) : Val → Rho → Store → Res := fun v ρ μ => match asgG g v ρ μ with
  | some ρ => evS c b ρ μ
  | none => none
theorem wS_for {it : Ito} {ia : RL} {g : RG} {b : RS} {Q : KS} (h : wL c ia ρ μ fun xs μ1 => ∃ nx, it.sem xs μ1 = some nx ∧ wR (forLoop nx (forStep c g b) c.n 0 ρ μ1) Q) : wS c (.forr it ia g b) ρ μ Q := by
  obtain ⟨xs, μ1, e1, nx, e2, o, ρ2, μ2, e3, q⟩ := h
  exact ⟨o, ρ2, μ2, by simp only [evS, e1, e2]; exact e3, q⟩
theorem wS_while {t : RT} {b : RS} {Q : KS} (h : wR (whLoop (evT c t) (evS c b) c.n ρ μ) Q) : wS c (.whil t b) ρ μ Q := by
  obtain ⟨o, ρ2, μ2, e3, q⟩ := h
  exact ⟨o, ρ2, μ2, by simp only [evS]; exact e3, q⟩
/-- a for by an invariant over the turns -/
theorem for_inv {nx : Nxt} {body : Val → Rho → Store → Res} {Q : KS} (P : Nat → Rho → Store → Prop)
    (hs : ∀ i ρ μ, P i ρ μ → ∃ x, nx i μ = some x ∧ match x with
      | none => Q .nx ρ μ
      | some v => wR (body v ρ μ) fun o ρ' μ' => match o with
        | .nx => P (i + 1) ρ' μ'
        | .ct => P (i + 1) ρ' μ'
        | .bk => Q .nx ρ' μ'
        | .rt v => Q (.rt v) ρ' μ')
    (m : Nat) (hm : ∀ i ρ μ, P i ρ μ → i ≤ m) : ∀ (n i : Nat) (ρ : Rho) (μ : Store), P i ρ μ → m < n + i → wR (forLoop nx body n i ρ μ) Q
  | 0, i, ρ, μ, p, hn => by have := hm i ρ μ p; omega
  | n + 1, i, ρ, μ, p, hn => by
    obtain ⟨x, e, h⟩ := hs i ρ μ p
    unfold forLoop
    rw [e]
    cases x with
    | none => exact ⟨.nx, ρ, μ, rfl, h⟩
    | some v =>
      obtain ⟨o, ρ', μ', e2, h⟩ := h
      simp only
      rw [e2]
      cases o with
      | nx => exact for_inv P hs m hm n (i + 1) ρ' μ' h (by omega)
      | ct => exact for_inv P hs m hm n (i + 1) ρ' μ' h (by omega)
      | bk => exact ⟨_, _, _, rfl, h⟩
      | rt v => exact ⟨_, _, _, rfl, h⟩
/-- a while by an invariant and a measure -/
theorem wh_inv {test : Rho → Store → Option (Bool × Store)} {body : Rho → Store → Res} {Q : KS} (P : Nat → Rho → Store → Prop)
    (hs : ∀ m ρ μ, P m ρ μ → ∃ b μ1, test ρ μ = some (b, μ1) ∧ if b = true then wR (body ρ μ1) fun o ρ' μ' => match o with
        | .nx => ∃ m', m' < m ∧ P m' ρ' μ'
        | .ct => ∃ m', m' < m ∧ P m' ρ' μ'
        | .bk => Q .nx ρ' μ'
        | .rt v => Q (.rt v) ρ' μ' else Q .nx ρ μ1) : ∀ (n m : Nat) (ρ : Rho) (μ : Store), P m ρ μ → m < n → wR (whLoop test body n ρ μ) Q
  | 0, m, ρ, μ, p, hn => by omega
  | n + 1, m, ρ, μ, p, hn => by
    obtain ⟨b, μ1, e, h⟩ := hs m ρ μ p
    unfold whLoop
    rw [e]
    cases b with
    | false => exact ⟨.nx, ρ, μ1, rfl, h⟩
    | true =>
      obtain ⟨o, ρ', μ', e2, h⟩ := h
      simp only
      rw [e2]
      cases o with
      | nx => obtain ⟨m', hm', p'⟩ := h; exact wh_inv P hs n m' ρ' μ' p' (by omega)
      | ct => obtain ⟨m', hm', p'⟩ := h; exact wh_inv P hs n m' ρ' μ' p' (by omega)
      | bk => exact ⟨_, _, _, rfl, h⟩
      | rt v => exact ⟨_, _, _, rfl, h⟩
/-- a comprehension whose turns leave the store as it is -/
theorem lc_pure {nx : Nxt} {step : Val → Store → Option (Option Val × Store)} {xs : List Val} {r : Val → Option Val} (h : ∀ i, nx i μ = some xs[i]?) (hs : ∀ v ∈ xs, step v μ = some (r v, μ)) :
    ∀ (n i : Nat) (acc : List Val), i ≤ xs.length → xs.length < n + i → acc.length + xs.length ≤ sizeLine + i → lcLoop nx step n i acc μ = some (acc ++ (xs.drop i).filterMap r, μ)
  | 0, i, acc, hi, hn, _ => by omega
  | n + 1, i, acc, hi, hn, hz => by
    unfold lcLoop
    rw [h i]
    cases e : xs[i]? with
    | none =>
      have : xs.drop i = [] := List.drop_eq_nil_of_le (List.getElem?_eq_none_iff.mp e)
      rw [this]
      simp
    | some x =>
      have hi := (List.getElem?_eq_some_iff.mp e).1
      have hx := (List.getElem?_eq_some_iff.mp e).2
      have : xs.drop i = x :: xs.drop (i + 1) := by
        rw [List.drop_eq_getElem_cons hi, hx]
      rw [this]
      simp only
      rw [hs x (by rw [← hx]; exact List.getElem_mem hi)]
      cases er : r x with
      | none =>
        simp only
        rw [lc_pure h hs n (i + 1) acc (by omega) (by omega) (by omega), List.filterMap_cons_none er]
      | some y =>
        simp only
        rw [if_pos (by omega), lc_pure h hs n (i + 1) (acc ++ [y]) (by omega) (by omega) (by rw [List.length_append, List.length_singleton]; omega), List.filterMap_cons_some er]
        simp
/-- without tests -/
theorem lc_map {nx : Nxt} {step : Val → Store → Option (Option Val × Store)} {xs : List Val} {r : Val → Val} {n : Nat} (h : ∀ i, nx i μ = some xs[i]?) (hs : ∀ v ∈ xs, step v μ = some (some (r v), μ)) (hn : xs.length < n) (hz : xs.length ≤ sizeLine) :
    lcLoop nx step n 0 [] μ = some (xs.map r, μ) := by
  rw [lc_pure (r := fun v => some (r v)) h hs n 0 [] (Nat.zero_le _) hn (by simp; omega)]
  simp [List.filterMap_eq_map']
theorem lcStep_map {vs : List Nat} {g : RG} {e : RE} {v y : Val} {ρ2 : Rho} (h : asgG g v (wipeE ρ vs) μ = some ρ2) (he : wE c e ρ2 μ fun u μ1 => u = y ∧ μ1 = μ) : lcStep c vs g .yes e ρ v μ = some (some y, μ) := by
  obtain ⟨u, μ1, e1, rfl, rfl⟩ := he
  unfold lcStep
  simp only [h, evT, e1]
theorem lcStep_if {vs : List Nat} {g : RG} {t : RT} {e : RE} {v : Val} {y : Option Val} {ρ2 : Rho} (h : asgG g v (wipeE ρ vs) μ = some ρ2) (he : wT c t ρ2 μ fun b μ1 => if b = true then wE c e ρ2 μ1 fun u μ2 => y = some u ∧ μ2 = μ else y = none ∧ μ1 = μ) : lcStep c vs g t e ρ v μ = some (y, μ) := by
  obtain ⟨b, μ1, e1, h2⟩ := he
  unfold lcStep
  cases b with
  | true =>
    obtain ⟨u, μ2, e2, rfl, rfl⟩ := h2
    simp only [h, e1, e2]
  | false =>
    obtain ⟨rfl, rfl⟩ := h2
    simp only [h, e1]
end
theorem wS_mid {c : Ev} {ρ : Rho} {μ : Store} {a b : RS} {Q : KS} (P : Rho → Store → Prop) (h : wS c a ρ μ fun o ρ' μ' => o = .nx ∧ P ρ' μ') (k : ∀ ρ' μ', P ρ' μ' → wS c b ρ' μ' Q) : wS c a ρ μ (kSeq c b Q) := by
  obtain ⟨o, ρ', μ', e, rfl, p⟩ := h
  exact ⟨_, ρ', μ', e, k ρ' μ' p⟩
/-! a def's run -/
abbrev cfg (P : Pr) (n k : Nat) : Ev := ⟨evCall P n k, n, P.fs⟩
def kFn (n : Nat) (r : Val) (μ' : Store) : KS := fun o _ μ2 => match o with
  | .nx => fin n (.dat .non) μ2 = some (r, μ')
  | .rt v => fin n v μ2 = some (r, μ')
  | _ => False
theorem run_of {P : Pr} {n k f : Nat} {F : Fn} {args : List Val} {μ μ' : Store} {r : Val} (hF : P.fns f = some F) (hl : args.length = F.pars) (h : wS ⟨evCall P n k, n, P.fs⟩ F.body (args.map some ++ List.replicate (F.slots - args.length) none) μ (kFn μ.length r μ')) :
    evCall P n (k + 1) f args μ = some (r, μ') := by
  obtain ⟨o, ρ2, μ2, e, q⟩ := h
  simp only [evCall, hF, hl, if_true]
  unfold evFn
  rw [e]
  cases o with
  | nx => exact q
  | bk => exact q.elim
  | ct => exact q.elim
  | rt v => exact q
theorem run_of2 {P : Pr} {n k f : Nat} {body : RS} {N p : Nat} {args : List Val} {μ μ' : Store} {r : Val} (ρ0 : Rho) (hF : P.fns f = some ⟨body, N, p⟩) (hl : args.length = p) (hρ : args.map some ++ List.replicate (N - args.length) none = ρ0)
    (h : wS ⟨evCall P n k, n, P.fs⟩ body ρ0 μ (kFn μ.length r μ')) : evCall P n (k + 1) f args μ = some (r, μ') := by
  subst hρ
  exact run_of hF hl h
/-- the same, the answer told later -/
theorem run_ex {P : Pr} {n k f : Nat} {body : RS} {N p : Nat} {args : List Val} {μ : Store} {G : Val → Store → Prop} (ρ0 : Rho) (hF : P.fns f = some ⟨body, N, p⟩) (hl : args.length = p) (hρ : args.map some ++ List.replicate (N - args.length) none = ρ0)
    (h : wS ⟨evCall P n k, n, P.fs⟩ body ρ0 μ fun o _ μ2 => match o with
      | .nx => ∃ r μ', fin μ.length (.dat .non) μ2 = some (r, μ') ∧ G r μ'
      | .rt v => ∃ r μ', fin μ.length v μ2 = some (r, μ') ∧ G r μ'
      | _ => False) : ∃ r μ', evCall P n (k + 1) f args μ = some (r, μ') ∧ G r μ' := by
  obtain ⟨o, ρ2, μ2, e, q⟩ := h
  cases o with
  | nx =>
    obtain ⟨r, μ', e2, g⟩ := q
    exact ⟨r, μ', run_of2 ρ0 hF hl hρ ⟨_, _, _, e, e2⟩, g⟩
  | rt v =>
    obtain ⟨r, μ', e2, g⟩ := q
    exact ⟨r, μ', run_of2 ρ0 hF hl hρ ⟨_, _, _, e, e2⟩, g⟩
  | bk => exact q.elim
  | ct => exact q.elim
theorem fin_dat {n : Nat} {d : D} {μ : Store} (h : (μ.take n).all (soOk n) = true) (hl : n ≤ μ.length) : fin n (.dat d) μ = some (.dat d, μ.take n) := by
  unfold fin
  rw [if_pos (by rw [Bool.and_eq_true, decide_eq_true_iff]; exact ⟨h, hl⟩)]
/-- a store that speaks of no box above n -/
def Shut (μ : Store) : Prop := μ.all (soOk μ.length) = true
theorem fin_same {d : D} {μ : Store} (h : Shut μ) : fin μ.length (.dat d) μ = some (.dat d, μ) := by
  rw [fin_dat (by rw [List.take_length]; exact h) (Nat.le_refl _), List.take_length]
theorem fin_junk {d : D} {μ j : Store} (h : Shut μ) : fin μ.length (.dat d) (μ ++ j) = some (.dat d, μ) := by
  rw [fin_dat (by rw [List.take_left]; exact h) (by simp), List.take_left]
theorem iteB {A B : Prop} {b : Bool} (h1 : b = true → A) (h2 : b = false → B) : if b = true then A else B := by
  cases b with
  | true => exact h1 rfl
  | false => exact h2 rfl

section
variable {c : Ev} {ρ : Rho} {μ : Store}
theorem kSeq_nx {b : RS} {Q : KS} (h : wS c b ρ μ Q) : kSeq c b Q .nx ρ μ := h
theorem kSeq_rt {b : RS} {Q : KS} {v : Val} (h : Q (.rt v) ρ μ) : kSeq c b Q (.rt v) ρ μ := h
theorem kSeq_bk {b : RS} {Q : KS} (h : Q .bk ρ μ) : kSeq c b Q .bk ρ μ := h
theorem kSeq_ct {b : RS} {Q : KS} (h : Q .ct ρ μ) : kSeq c b Q .ct ρ μ := h
theorem wM_mul {bx : Bool} {i j : Int} {Q : KE} (h : (-(2 ^ 64) < i ∧ i < 2 ^ 64) ∨ (-(2 ^ 64) < j ∧ j < 2 ^ 64)) (q : Q (.dat (.int (i * j))) μ) : wM ((oMul bx).sem [.dat (.int i), .dat (.int j)] μ) Q := by
  refine ⟨_, _, ?_, q⟩
  show (if cMul i j = true then some (Val.dat (.int (i * j)), μ) else none) = _
  rw [if_pos]
  unfold cMul
  simp only [Bool.or_eq_true, Bool.and_eq_true, decide_eq_true_iff]
  exact .inl h
theorem wM_mulW {bx : Bool} {i j : Int} {Q : KE} (h : i.natAbs.log2 + j.natAbs.log2 < 1000000) (q : Q (.dat (.int (i * j))) μ) : wM ((oMul bx).sem [.dat (.int i), .dat (.int j)] μ) Q := by
  refine ⟨_, _, ?_, q⟩
  show (if cMul i j = true then some (Val.dat (.int (i * j)), μ) else none) = _
  rw [if_pos]
  unfold cMul
  simp only [Bool.or_eq_true, Bool.and_eq_true, decide_eq_true_iff]
  exact .inr h
theorem wM_mod {i j : Int} {Q : KE} (h : 0 < j) (q : Q (.dat (.int (i % j))) μ) : wM (oMod.sem [.dat (.int i), .dat (.int j)] μ) Q := by
  refine ⟨_, _, ?_, q⟩
  show (if decide (0 < j) = true then some (Val.dat (.int (i % j)), μ) else none) = _
  rw [if_pos (decide_eq_true h)]
theorem wM_div {i j : Int} {Q : KE} (h : 0 < j ∧ j < 2 ^ 64) (q : Q (.dat (.int (i / j))) μ) : wM (oDiv.sem [.dat (.int i), .dat (.int j)] μ) Q := by
  refine ⟨_, _, ?_, q⟩
  show (if cDiv i j = true then some (Val.dat (.int (i / j)), μ) else none) = _
  rw [if_pos]
  unfold cDiv
  have : j.natAbs.log2 < 64 := by
    rw [Nat.log2_lt (by omega)]
    omega
  simp only [Bool.and_eq_true, decide_eq_true_iff]
  exact ⟨h.1, by omega⟩
theorem seqOf_box {k : Nat} {vs : List Val} (h : μ[k]? = some (.lst vs)) : seqOf (.box k) μ = some vs := by
  show lstOf (.box k) μ = some vs
  unfold lstOf
  simp only [h]
theorem lstOf_box {k : Nat} {vs : List Val} (h : μ[k]? = some (.lst vs)) : lstOf (.box k) μ = some vs := seqOf_box h
theorem rdL_box {k : Nat} {vs : List Val} (h : μ[k]? = some (.lst vs)) : rdL (.box k) μ = some vs := seqOf_box h
/-- an item of what is read -/
theorem wM_ix {v : Val} {i : Int} {us : List Val} {u : Val} {Q : KE} (hv : ∀ z, v ≠ .dat (.str z)) (h : seqOf v μ = some us) (hi : atI us i = some u) (q : Q u μ) : wM (oIx.sem [v, .dat (.int i)] μ) Q := by
  refine ⟨u, μ, ?_, q⟩
  show ixS [v, .dat (.int i)] μ = _
  unfold ixS
  split
  · rename_i z i e
    cases e
    exact absurd rfl (hv z)
  · rename_i a i _ e
    cases e
    rw [h]
    simp only [hi]
  · rename_i h1 h2
    exact absurd rfl (h2 v i)
theorem wM_ixB {k : Nat} {i : Int} {us : List Val} {u : Val} {Q : KE} (h : μ[k]? = some (.lst us)) (hi : atI us i = some u) (q : Q u μ) : wM (oIx.sem [.box k, .dat (.int i)] μ) Q := wM_ix (fun _ z => nomatch z) (seqOf_box h) hi q
theorem set_get {p : Nat} {x s : SO} (h : μ[p]? = some x) : (μ.set p s)[p]? = some s := List.getElem?_set_self (List.getElem?_eq_some_iff.mp h).1
theorem set_ne {p q : Nat} {s : SO} (h : p ≠ q) : (μ.set p s)[q]? = μ[q]? := List.getElem?_set_ne h
theorem shut_set {p : Nat} {s : SO} (h : Shut μ) (hs : soOk μ.length s = true) : Shut (μ.set p s) := by
  unfold Shut at h ⊢
  rw [List.length_set]
  rw [List.all_eq_true] at h ⊢
  intro x hx
  rcases List.mem_or_eq_of_mem_set hx with h1 | h1
  · exact h x h1
  · rw [h1]; exact hs
theorem fin_len {d : D} {n : Nat} (h : Shut μ) (hn : n = μ.length) : fin n (.dat d) μ = some (.dat d, μ) := by subst hn; exact fin_same h
/-- the store, a box more -/
theorem shut_app {s : SO} (h : Shut μ) (hs : soOk (μ.length + 1) s = true) : Shut (μ ++ [s]) := by
  unfold Shut at h ⊢
  rw [List.length_append, List.length_singleton, List.all_append, Bool.and_eq_true]
  refine ⟨?_, by simpa using hs⟩
  rw [List.all_eq_true] at h ⊢
  intro x hx
  have := h x hx
  have mono : ∀ v : Val, valOk μ.length v = true → valOk (μ.length + 1) v = true := fun v hv => by
    cases v with
    | dat d => rfl
    | box k => simp only [valOk, decide_eq_true_iff] at hv ⊢; omega
  cases x with
  | dead => rfl
  | lst vs =>
    simp only [soOk, List.all_eq_true] at this ⊢
    exact fun v hv => mono v (this v hv)
  | ins k fs =>
    simp only [soOk, List.all_eq_true] at this ⊢
    exact fun v hv => mono _ (this v hv)
theorem soOk_dats (n : Nat) (ds : List D) : soOk n (.lst (ds.map .dat)) = true := by
  simp [soOk, valOk]
end
theorem atI_some {α : Type} {xs : List α} {i : Int} (h0 : 0 ≤ i) (h : i < xs.length) : ∃ v, atI xs i = some v := by
  unfold atI ixN
  rw [if_pos h0, if_pos h]
  have : i.toNat < xs.length := by omega
  exact ⟨xs[i.toNat], by simp [this]⟩
theorem ix_scr {ns : List Int} {i : Int} {μ : Store} (h0 : 0 ≤ i) (h : i < ns.length) : ∃ x, oIx.sem [.dat (.scr ns), .dat (.int i)] μ = some (.dat (.int x), μ) := by
  obtain ⟨v, hv⟩ := atI_some (xs := ns.map fun n => Val.dat (.int n)) h0 (by rw [List.length_map]; exact h)
  have : ∃ x, v = .dat (.int x) := by
    unfold atI at hv
    cases e : ixN (ns.map fun n => Val.dat (.int n)).length i with
    | none => rw [e] at hv; cases hv
    | some j =>
      rw [e] at hv
      have hv : (ns.map fun n => Val.dat (.int n))[j]? = some v := hv
      rw [List.getElem?_map] at hv
      cases e2 : ns[j]? with
      | none => rw [e2] at hv; cases hv
      | some y => rw [e2] at hv; cases hv; exact ⟨y, rfl⟩
  obtain ⟨x, rfl⟩ := this
  refine ⟨x, ?_⟩
  show (match atI (ns.map fun n => Val.dat (.int n)) i with | some v => some (v, μ) | none => none) = _
  rw [hv]
theorem big_mul {i j : Int} (hi : 0 ≤ i ∧ i < 2 ^ 200) (hj : 0 ≤ j ∧ j < 2 ^ 200) : i.natAbs.log2 + j.natAbs.log2 < 1000000 := by
  have h : ∀ x : Int, 0 ≤ x ∧ x < 2 ^ 200 → x.natAbs.log2 < 201 := fun x hx => by
    by_cases e : x.natAbs = 0
    · rw [e]; decide
    · exact Nat.lt_succ_of_lt ((Nat.log2_lt e).mpr (by omega))
  have := h i hi
  have := h j hj
  omega

theorem fin_box {ds : List D} {μ : Store} (h : Shut μ) : fin μ.length (.box μ.length) (μ ++ [.lst (ds.map .dat)]) = some (.box μ.length, μ ++ [.lst (ds.map .dat)]) := by
  unfold fin
  rw [if_pos (by rw [Bool.and_eq_true, decide_eq_true_iff, List.take_left]; exact ⟨h, by simp⟩)]
  simp only [if_neg (Nat.lt_irrefl _), get_snoc_eq, datsOf_map, List.take_left]
theorem rdL_app {v : Val} {μ j : Store} {us : List Val} (h : rdL v μ = some us) : rdL v (μ ++ j) = some us := by
  unfold rdL at h ⊢
  split at h
  · exact h
  · rename_i v hv
    unfold lstOf at h ⊢
    split at h
    · exact h
    · rename_i k
      split at h
      · rename_i vs e
        simp only [List.getElem?_append_left (List.getElem?_eq_some_iff.mp e).1, e]
        exact h
      · cases h
    · cases h
theorem wR_for {c : Ev} {g : RG} {b : RS} {v : Val} {ρ ρ2 : Rho} {μ : Store} {Q : KS} (h : asgG g v ρ μ = some ρ2) (q : wS c b ρ2 μ Q) : wR (forStep c g b v ρ μ) Q := by
  obtain ⟨o, ρ3, μ3, e, q⟩ := q
  exact ⟨o, ρ3, μ3, by unfold forStep; rw [h]; exact e, q⟩
theorem wM_mk {bx : Bool} {vs : List Val} {μ : Store} {Q : KE} (ds : List D) (h : vs = ds.map .dat) (q : Q (.dat (.lst ds)) μ) (hb : bx = false) : wM (mkL bx vs μ) Q := by
  subst hb h
  exact ⟨_, _, by unfold mkL; rw [datsOf_map]; rfl, q⟩
theorem wM_mkB {vs : List Val} {μ : Store} {Q : KE} (q : Q (.box μ.length) (μ ++ [.lst vs])) : wM (mkL true vs μ) Q := ⟨_, _, rfl, q⟩
theorem app_get {μ j : Store} {s : SO} : (μ ++ s :: j)[μ.length]? = some s := by simp

def nxEn (v : Val) : Nxt := fun i μ1 => match rdL v μ1 with
  | some us => match us[i]? with
    | some (.dat d) => some (some (.dat (.tup [.int (i : Nat), d])))
    | some (.box _) => none
    | none => some none
  | none => none
def nxL (v : Val) : Nxt := fun i μ1 => match rdL v μ1 with
  | some us => some us[i]?
  | none => none
section
variable {v : Val} {μ : Store} {us : List Val} {i : Nat}
theorem en_sem (h : rdL v μ = some us) : itEn.sem [v] μ = some (nxEn v) := by
  show (if (rdL v μ).isSome then some (nxEn v) else none) = _
  rw [h]; rfl
theorem nxEn_some {d : D} (h : rdL v μ = some us) (e : us[i]? = some (.dat d)) : nxEn v i μ = some (some (.dat (.tup [.int (i : Nat), d]))) := by
  unfold nxEn
  simp only [h, e]
theorem nxEn_none (h : rdL v μ = some us) (e : us[i]? = none) : nxEn v i μ = some none := by
  unfold nxEn
  simp only [h, e]
theorem l_sem (h : rdL v μ = some us) : itL.sem [v] μ = some (nxL v) := by
  show (if (rdL v μ).isSome then some (nxL v) else none) = _
  rw [h]; rfl
theorem nxL_at (h : rdL v μ = some us) : nxL v i μ = some us[i]? := by
  unfold nxL
  simp only [h]
theorem r1_sem {n : Int} (h : 0 ≤ n ∧ n < 2 ^ 62) : itR1.sem [.dat (.int n)] μ = some (nxR 0 1 n.toNat) := by
  show (if -(2 ^ 62) ≤ n ∧ n < 2 ^ 62 then some (nxR 0 1 n.toNat) else none) = _
  rw [if_pos (by omega)]
/-- a range's ints -/
def rgL (lo step : Int) (n : Nat) : List Val := (List.range n).map fun (i : Nat) => Val.dat (.int (lo + (i : Nat) * step))
theorem nxR_at {lo step : Int} {n : Nat} : nxR lo step n i μ = some (rgL lo step n)[i]? := by
  unfold nxR rgL
  split
  · rename_i h
    rw [List.getElem?_map, List.getElem?_range h]
    rfl
  · rename_i h
    rw [List.getElem?_eq_none (by simp; omega)]
end

theorem set_snoc {α : Type} {l : List α} {a b : α} : (l ++ [a]).set l.length b = l ++ [b] := by simp
theorem wM_frzB {k : Nat} {vs : List Val} {μ : Store} {Q : KE} (ds : List D) (h : μ[k]? = some (.lst vs)) (e : vs = ds.map .dat) (q : Q (.dat (.lst ds)) (μ.set k .dead)) : wM (frzV (.box k) μ) Q := by
  subst e
  exact ⟨_, _, by unfold frzV; simp only [h, datsOf_map]; rfl, q⟩
theorem wM_frzD {d : D} {μ : Store} {Q : KE} (q : Q (.dat d) μ) : wM (frzV (.dat d) μ) Q := ⟨_, _, rfl, q⟩
theorem fin_set_junk {d : D} {μ j : Store} {q : Nat} {s : SO} (h : Shut μ) (hq : μ.length ≤ q) : fin μ.length (.dat d) ((μ ++ j).set q s) = some (.dat d, μ) := by
  rw [List.set_append_right _ _ hq]
  exact fin_junk h

section
variable {μ : Store} {Q : KE}
theorem wM_eqI {a b : Int} (q : Q (.dat (.bl (decide (a = b)))) μ) : wM ((oEq false).sem [.dat (.int a), .dat (.int b)] μ) Q := ⟨_, _, rfl, q⟩
theorem wM_neI {a b : Int} (q : Q (.dat (.bl (!decide (a = b)))) μ) : wM ((oEq true).sem [.dat (.int a), .dat (.int b)] μ) Q := ⟨_, _, rfl, q⟩
theorem shaped_str {a : Str} (h : PyData.strOk a = true) : SeqAt.shaped (.str a) = true := by
  unfold SeqAt.shaped
  rw [Bool.and_eq_true]
  exact ⟨h, decide_eq_true (Nat.zero_le _)⟩
theorem wM_eqS {a b : Str} (ha : PyData.strOk a = true) (hb : PyData.strOk b = true) (q : Q (.dat (.bl (decide (a = b)))) μ) : wM ((oEq false).sem [.dat (.str a), .dat (.str b)] μ) Q := by
  refine ⟨_, _, ?_, q⟩
  show (if (SeqAt.shaped (.str a) && SeqAt.shaped (.str b)) = true then some (Val.dat (.bl (PyData.eqv (.str a) (.str b))), μ) else none) = _
  rw [shaped_str ha, shaped_str hb]
  rfl
theorem wM_neS {a b : Str} (ha : PyData.strOk a = true) (hb : PyData.strOk b = true) (q : Q (.dat (.bl (!decide (a = b)))) μ) : wM ((oEq true).sem [.dat (.str a), .dat (.str b)] μ) Q := by
  refine ⟨_, _, ?_, q⟩
  show (if (SeqAt.shaped (.str a) && SeqAt.shaped (.str b)) = true then some (Val.dat (.bl (!PyData.eqv (.str a) (.str b))), μ) else none) = _
  rw [shaped_str ha, shaped_str hb]
  rfl
theorem toPs_ints : ∀ ns : List Int, toPs (ns.map D.int) = ns.map PyData.int
  | [] => rfl
  | n :: ns => by rw [List.map_cons, toPs, toPs_ints ns]; rfl
theorem eqvAll_ints : ∀ ns ms : List Int, PyData.eqvAll (ns.map .int) (ms.map .int) = decide (ns = ms)
  | [], [] => rfl
  | [], m :: ms => rfl
  | n :: ns, [] => rfl
  | n :: ns, m :: ms => by
    rw [List.map_cons, List.map_cons, PyData.eqvAll, eqvAll_ints ns ms]
    show ((n == m) && decide (ns = ms)) = decide (n :: ns = m :: ms)
    by_cases h : n = m
    · subst h; simp
    · simp [h]
theorem canLay_ints : ∀ ns : List Int, PyData.canLayAll0 (ns.map .int) = true
  | [] => rfl
  | n :: ns => by rw [List.map_cons, PyData.canLayAll0, canLay_ints ns]; rfl
theorem depth_ints : ∀ ns : List Int, PyData.depthAll (ns.map .int) = 0
  | [] => rfl
  | n :: ns => by rw [List.map_cons, PyData.depthAll, depth_ints ns]; rfl
theorem shaped_ints (ns : List Int) : SeqAt.shaped (.list (ns.map .int)) = true := by
  unfold SeqAt.shaped
  rw [Bool.and_eq_true, decide_eq_true_iff, PyData.canLay0, PyData.depth, canLay_ints, depth_ints]
  exact ⟨rfl, by decide⟩
/-- == of two lists of ints -/
theorem wM_eqL {a b : Val} {ns ms : List Int} (ha : valP a μ = some (.list (ns.map .int))) (hb : valP b μ = some (.list (ms.map .int))) (q : Q (.dat (.bl (decide (ns = ms)))) μ) : wM ((oEq false).sem [a, b] μ) Q := by
  refine ⟨_, _, ?_, q⟩
  show eqS false [a, b] μ = _
  unfold eqS
  simp only [ha, hb, shaped_ints, Bool.and_self, if_true]
  rw [PyData.eqv, eqvAll_ints]
  rfl
theorem wM_neL {a b : Val} {ns ms : List Int} (ha : valP a μ = some (.list (ns.map .int))) (hb : valP b μ = some (.list (ms.map .int))) (q : Q (.dat (.bl (!decide (ns = ms)))) μ) : wM ((oEq true).sem [a, b] μ) Q := by
  refine ⟨_, _, ?_, q⟩
  show eqS true [a, b] μ = _
  unfold eqS
  simp only [ha, hb, shaped_ints, Bool.and_self, if_true]
  rw [PyData.eqv, eqvAll_ints]
theorem valP_ints {ns : List Int} : valP (.dat (.lst (ns.map D.int))) μ = some (.list (ns.map .int)) := by
  show some (toP (.lst (ns.map D.int))) = _
  rw [toP, toPs_ints]
/-- list + list -/
theorem wM_addL {a b : List D} (h : a.length + b.length ≤ sizeLine) (q : Q (.dat (.lst (a ++ b))) μ) : wM ((oAdd false).sem [.dat (.lst a), .dat (.lst b)] μ) Q := by
  refine ⟨_, _, ?_, q⟩
  show (if (a.map Val.dat).length + (b.map Val.dat).length ≤ sizeLine then mkL false (a.map Val.dat ++ b.map Val.dat) μ else none) = _
  rw [List.length_map, List.length_map, if_pos h, ← List.map_append]
  unfold mkL
  rw [datsOf_map]
  rfl
theorem wM_addS {a b : Str} (h : a.length + b.length ≤ sizeLine) (q : Q (.dat (.str (a ++ b))) μ) : wM ((oAdd false).sem [.dat (.str a), .dat (.str b)] μ) Q := by
  refine ⟨_, _, ?_, q⟩
  show (if a.length + b.length ≤ sizeLine then some (Val.dat (.str (a ++ b)), μ) else none) = _
  rw [if_pos h]
theorem wM_ixD {ds : List D} {i : Int} {d : D} (h : atI ds i = some d) (q : Q (.dat d) μ) : wM (oIx.sem [.dat (.lst ds), .dat (.int i)] μ) Q := by
  refine wM_ix (us := ds.map .dat) (fun z e => by cases e) rfl ?_ q
  unfold atI at h ⊢
  rw [List.length_map]
  cases e : ixN ds.length i with
  | none => rw [e] at h; cases h
  | some j =>
    rw [e] at h
    have h : ds[j]? = some d := h
    show (ds.map Val.dat)[j]? = _
    rw [List.getElem?_map, h]; rfl
theorem wM_ixT {ds : List D} {i : Int} {d : D} (h : atI ds i = some d) (q : Q (.dat d) μ) : wM (oIx.sem [.dat (.tup ds), .dat (.int i)] μ) Q := by
  refine wM_ix (us := ds.map .dat) (fun z e => by cases e) rfl ?_ q
  unfold atI at h ⊢
  rw [List.length_map]
  cases e : ixN ds.length i with
  | none => rw [e] at h; cases h
  | some j =>
    rw [e] at h
    have h : ds[j]? = some d := h
    show (ds.map Val.dat)[j]? = _
    rw [List.getElem?_map, h]; rfl
theorem wM_lst {v : Val} {ds : List D} (h : seqOf v μ = some (ds.map .dat)) (q : Q (.dat (.lst ds)) μ) : wM ((oLst false).sem [v] μ) Q := by
  refine ⟨_, _, ?_, q⟩
  show (match seqOf v μ with | some us => mkL false us μ | none => none) = _
  rw [h]
  unfold mkL
  simp only [datsOf_map]
  rfl
theorem wM_slL {ds : List D} {lo hi : Option Int} (q : Q (.dat (.lst (cutG ds lo hi))) μ) : wM ((sSl false).sem (.dat (.lst ds)) lo hi μ) Q := by
  refine ⟨_, _, ?_, q⟩
  show mkL false (cutG (ds.map Val.dat) lo hi) μ = _
  unfold mkL
  rw [cutG_map, datsOf_map]
  rfl
theorem wM_slS {z : Str} {lo hi : Option Int} {bx : Bool} (h : z.length ≤ sizeLine) (q : Q (.dat (.str (cutS z lo hi))) μ) : wM ((sSl bx).sem (.dat (.str z)) lo hi μ) Q := by
  refine ⟨_, _, ?_, q⟩
  show (if z.length ≤ sizeLine then some (Val.dat (.str (cutS z lo hi)), μ) else none) = _
  rw [if_pos h]
theorem wM_lenS {z : Str} (h : z.length ≤ sizeLine) (q : Q (.dat (.int z.length)) μ) : wM (oLen.sem [.dat (.str z)] μ) Q := by
  refine ⟨_, _, ?_, q⟩
  show (if z.length ≤ sizeLine then some (Val.dat (.int z.length), μ) else none) = _
  rw [if_pos h]
theorem wM_lenL {v : Val} {us : List Val} (hv : ∀ z, v ≠ .dat (.str z)) (h : seqOf v μ = some us) (q : Q (.dat (.int us.length)) μ) : wM (oLen.sem [v] μ) Q := by
  refine ⟨_, _, ?_, q⟩
  show lenS [v] μ = _
  unfold lenS
  split
  · rename_i z e; cases e; exact absurd rfl (hv z)
  · rename_i u _ e; cases e; rw [h]
  · rename_i h1 h2; exact absurd rfl (h2 v)
end
end EV

/-! EvX: more rules. -/
namespace EV
open PySem PySem.Spec PyProof.Rows L2
theorem iteY {A B : Prop} {b : Bool} (hb : b = true) (h : A) : if b = true then A else B := by subst hb; exact h
theorem iteZ {A B : Prop} {b : Bool} (hb : b = false) (h : B) : if b = true then A else B := by subst hb; exact h
section
variable {c : Ev} {ρ : Rho} {μ : Store}
/-- a test that tells B and changes nothing -/
theorem wS_ifB (B : Prop) [Decidable B] {t : RT} {a b : RS} {Q : KS} (ht : wT c t ρ μ fun k μ1 => k = decide B ∧ μ1 = μ) (h1 : B → wS c a ρ μ Q) (h2 : ¬ B → wS c b ρ μ Q) : wS c (.ifs t a b) ρ μ Q := by
  obtain ⟨k, μ1, e, rfl, rfl⟩ := ht
  refine wS_ifs ⟨_, _, e, ?_⟩
  by_cases hB : B
  · rw [decide_eq_true hB]
    exact h1 hB
  · rw [decide_eq_false hB]
    exact h2 hB
theorem wE_ifB (B : Prop) [Decidable B] {t : RT} {a b : RE} {Q : KE} (ht : wT c t ρ μ fun k μ1 => k = decide B ∧ μ1 = μ) (h1 : B → wE c a ρ μ Q) (h2 : ¬ B → wE c b ρ μ Q) : wE c (.ifx t a b) ρ μ Q := by
  obtain ⟨k, μ1, e, rfl, rfl⟩ := ht
  refine wE_ifx ⟨_, _, e, ?_⟩
  by_cases hB : B
  · rw [decide_eq_true hB]
    exact h1 hB
  · rw [decide_eq_false hB]
    exact h2 hB
theorem wS_whileI {t : RT} {b : RS} {Q : KS} (P : Nat → Rho → Store → Prop) (hs : ∀ m ρ μ, P m ρ μ → wT c t ρ μ fun k μ1 => if k = true then wS c b ρ μ1 (fun o ρ' μ' => match o with
        | .nx => ∃ m', m' < m ∧ P m' ρ' μ'
        | .ct => ∃ m', m' < m ∧ P m' ρ' μ'
        | .bk => Q .nx ρ' μ'
        | .rt v => Q (.rt v) ρ' μ') else Q .nx ρ μ1) (m : Nat) (hP : P m ρ μ) (hm : m < c.n) : wS c (.whil t b) ρ μ Q :=
  wS_while (wh_inv P (fun m ρ μ p => by
    obtain ⟨k, μ1, e, h⟩ := hs m ρ μ p
    refine ⟨k, μ1, e, ?_⟩
    cases k with
    | true =>
      rw [if_pos rfl] at h ⊢
      obtain ⟨o, ρ', μ', e2, h⟩ := h
      exact ⟨o, ρ', μ', e2, h⟩
    | false => exact h) c.n m _ _ hP hm)
theorem wM_lenDL {ds : List D} {Q : KE} (q : Q (.dat (.int ds.length)) μ) : wM (oLen.sem [.dat (.lst ds)] μ) Q := wM_lenL (us := ds.map .dat) (fun z e => by cases e) rfl (by rw [List.length_map]; exact q)
theorem wM_lstB {v : Val} {us : List Val} {Q : KE} (h : seqOf v μ = some us) (q : Q (.box μ.length) (μ ++ [.lst us])) : wM ((oLst true).sem [v] μ) Q := by
  refine ⟨_, _, ?_, q⟩
  show (match seqOf v μ with | some us => mkL true us μ | none => none) = _
  rw [h]
  rfl
theorem lcM {nx : Nxt} {step : Val → Store → Option (Option Val × Store)} {n : Nat} {P : List Val → Store → Prop} (xs : List Val) (r : Val → Val) (h : ∀ i, nx i μ = some xs[i]?) (hn : xs.length < n) (hz : xs.length ≤ sizeLine) (hs : ∀ v ∈ xs, step v μ = some (some (r v), μ)) (q : P (xs.map r) μ) :
    ∃ acc μ2, lcLoop nx step n 0 [] μ = some (acc, μ2) ∧ P acc μ2 := ⟨_, _, lc_map h hs hn hz, q⟩
theorem lcF {nx : Nxt} {step : Val → Store → Option (Option Val × Store)} {n : Nat} {P : List Val → Store → Prop} (xs : List Val) (r : Val → Option Val) (h : ∀ i, nx i μ = some xs[i]?) (hn : xs.length < n) (hz : xs.length ≤ sizeLine) (hs : ∀ v ∈ xs, step v μ = some (r v, μ)) (q : P (xs.filterMap r) μ) :
    ∃ acc μ2, lcLoop nx step n 0 [] μ = some (acc, μ2) ∧ P acc μ2 := ⟨_, _, lc_pure h hs n 0 [] (Nat.zero_le _) hn (by simp; omega), q⟩
theorem lcML {v : Val} {us : List Val} {step : Val → Store → Option (Option Val × Store)} {n : Nat} {P : List Val → Store → Prop} (r : Val → Val) (h : rdL v μ = some us) (hn : us.length < n) (hz : us.length ≤ sizeLine) (hs : ∀ v ∈ us, step v μ = some (some (r v), μ)) (q : P (us.map r) μ) :
    ∃ acc μ2, lcLoop (nxL v) step n 0 [] μ = some (acc, μ2) ∧ P acc μ2 := lcM us r (fun i => nxL_at h) hn hz hs q
theorem lcMR {lo d : Int} {m : Nat} {step : Val → Store → Option (Option Val × Store)} {n : Nat} {P : List Val → Store → Prop} (r : Val → Val) (hn : m < n) (hz : m ≤ sizeLine) (hs : ∀ j, j < m → step (.dat (.int (lo + (j : Nat) * d))) μ = some (some (r (.dat (.int (lo + (j : Nat) * d)))), μ)) (q : P ((rgL lo d m).map r) μ) :
    ∃ acc μ2, lcLoop (nxR lo d m) step n 0 [] μ = some (acc, μ2) ∧ P acc μ2 := lcM (rgL lo d m) r (fun i => nxR_at) (by simpa [rgL] using hn) (by simpa [rgL] using hz) (fun v hv => by
      simp only [rgL, List.mem_map, List.mem_range] at hv
      obtain ⟨j, hj, rfl⟩ := hv
      exact hs j hj) q
/-- the signs of a text -/
def sgn (c : Nat) : Val := .dat (.str ⟨#[c]⟩)
def nxS (s : Str) : Nxt := fun i _ => some (s.cps[i]?.map fun c => Val.dat (.str ⟨#[c]⟩))
theorem lcMS {s : Str} {step : Val → Store → Option (Option Val × Store)} {n : Nat} {P : List Val → Store → Prop} (r : Nat → Val) (hn : s.cps.toList.length < n) (hz : s.cps.toList.length ≤ sizeLine) (hs : ∀ c ∈ s.cps.toList, step (sgn c) μ = some (some (r c), μ)) (q : P (s.cps.toList.map r) μ) :
    ∃ acc μ2, lcLoop (nxS s) step n 0 [] μ = some (acc, μ2) ∧ P acc μ2 := by
  refine lcM (s.cps.toList.map sgn) (fun v => match v with | .dat (.str ⟨a⟩) => r (a.toList.headD 0) | v => v) (fun i => ?_) (by simpa using hn) (by simpa using hz) (fun v hv => ?_) ?_
  · unfold nxS
    rw [List.getElem?_map, Array.getElem?_toList]
    rfl
  · obtain ⟨c, hc, rfl⟩ := List.mem_map.mp hv
    exact hs c hc
  · rw [List.map_map]
    exact q
theorem mk_dats {ds : List D} {vs : List Val} {Q : KE} (h : vs = ds.map .dat) (q : Q (.dat (.lst ds)) μ) : wM (mkL false vs μ) Q := wM_mk ds h q rfl
theorem ixN_nat {n j : Nat} (h : j < n) : ixN n (j : Int) = some j := by
  unfold ixN
  rw [if_pos (by omega), if_pos (by omega)]
  rfl
theorem atI_at {α : Type} {xs : List α} {j : Nat} {i : Int} {x : α} (hi : i = j) (h : xs[j]? = some x) : atI xs i = some x := by
  subst hi
  unfold atI
  rw [ixN_nat (List.getElem?_eq_some_iff.mp h).1]
  exact h
end
end EV

/-! EvY: texts as lists of signs. -/
namespace EV
open PySem PySem.Spec PyProof.Rows L2
def st (l : List Nat) : Str := ⟨l.toArray⟩
theorem st_toList (l : List Nat) : (st l).cps.toList = l := List.toList_toArray
theorem st_length (l : List Nat) : (st l).length = l.length := by
  show l.toArray.size = _
  simp
theorem st_inj {a b : List Nat} (h : st a = st b) : a = b := by rw [← st_toList a, h, st_toList]
theorem st_eq {a b : List Nat} : decide (st a = st b) = decide (a = b) := by
  by_cases h : a = b
  · subst h; simp
  · rw [decide_eq_false h, decide_eq_false (fun e => h (st_inj e))]
theorem st_app (a b : List Nat) : st a ++ st b = st (a ++ b) := by
  show (⟨a.toArray ++ b.toArray⟩ : Str) = ⟨(a ++ b).toArray⟩
  simp
theorem st_ok {l : List Nat} (h : ∀ c ∈ l, c < 1114112) : PyData.strOk (st l) = true := by
  show (l.toArray.all (· < 1114112)) = true
  simpa using h
theorem cut_st (l : List Nat) (i j : Nat) : cutS (st l) (some (i : Int)) (some (j : Int)) = st ((l.drop i).take (j - i)) := by
  unfold cutS
  rw [HT.sIx_nat, HT.sIx_nat, st_toList, st_length]
  show st _ = st _
  congr 1
  by_cases h : i ≤ l.length
  · rw [Nat.min_eq_left h]
    by_cases h2 : j ≤ l.length
    · rw [Nat.min_eq_left h2]
    · rw [Nat.min_eq_right (by omega), List.take_of_length_le (by simp), List.take_of_length_le (by simp; omega)]
  · rw [Nat.min_eq_right (show l.length ≤ i by omega), List.drop_eq_nil_of_le (Nat.le_refl _), List.drop_eq_nil_of_le (show l.length ≤ i by omega)]
    simp
theorem cut_st0 (l : List Nat) (j : Nat) : cutS (st l) none (some (j : Int)) = st (l.take j) := by
  have := cut_st l 0 j
  rw [List.drop_zero, Nat.sub_zero] at this
  rw [← this]
  rfl
theorem cut_st1 (l : List Nat) (i : Nat) : cutS (st l) (some (i : Int)) none = st (l.drop i) := by
  unfold cutS
  rw [HT.sIx_nat, HT.sIx_none, st_toList, st_length]
  show st _ = st _
  congr 1
  by_cases h : i ≤ l.length
  · rw [Nat.min_eq_left h, List.take_of_length_le (by simp)]
  · rw [Nat.min_eq_right (show l.length ≤ i by omega), List.drop_eq_nil_of_le (Nat.le_refl _), List.drop_eq_nil_of_le (show l.length ≤ i by omega)]
    simp
theorem cut_stm (l : List Nat) : cutS (st l) none (some (-1)) = st l.dropLast := by
  unfold cutS
  rw [st_toList, st_length]
  show st _ = st _
  congr 1
  show (l.drop 0).take ((-1 + (l.length : Int)).toNat - 0) = _
  rw [List.drop_zero, List.dropLast_eq_take]
  congr 1
  omega
theorem cutG_nat {α : Type} (l : List α) (i j : Nat) : cutG l (some (i : Int)) (some (j : Int)) = (l.drop i).take (j - i) := by
  unfold cutG
  rw [HT.sIx_nat, HT.sIx_nat]
  by_cases h : i ≤ l.length
  · rw [Nat.min_eq_left h]
    by_cases h2 : j ≤ l.length
    · rw [Nat.min_eq_left h2]
    · rw [Nat.min_eq_right (by omega), List.take_of_length_le (by simp), List.take_of_length_le (by simp; omega)]
  · rw [Nat.min_eq_right (show l.length ≤ i by omega), List.drop_eq_nil_of_le (Nat.le_refl _), List.drop_eq_nil_of_le (show l.length ≤ i by omega)]
    simp
theorem cutG_nat0 {α : Type} (l : List α) (j : Nat) : cutG l none (some (j : Int)) = l.take j := by
  have := cutG_nat l 0 j
  rw [List.drop_zero, Nat.sub_zero] at this
  rw [← this]
  rfl
theorem cutG_nat1 {α : Type} (l : List α) (i : Nat) : cutG l (some (i : Int)) none = l.drop i := by
  unfold cutG
  rw [HT.sIx_nat, HT.sIx_none]
  by_cases h : i ≤ l.length
  · rw [Nat.min_eq_left h, List.take_of_length_le (by simp)]
  · rw [Nat.min_eq_right (show l.length ≤ i by omega), List.drop_eq_nil_of_le (Nat.le_refl _), List.drop_eq_nil_of_le (show l.length ≤ i by omega)]
    simp
theorem join_st : ∀ ls : List (List Nat), Str.join (st []) (ls.map st) = st ls.flatten
  | [] => rfl
  | [x] => by simp [Str.join]
  | x :: y :: r => by
    have ih := join_st (y :: r)
    show st x ++ st [] ++ Str.join (st []) (st y :: r.map st) = _
    rw [st_app, List.append_nil]
    rw [List.map_cons] at ih
    rw [ih, st_app]
    rfl
theorem strsOf_map : ∀ ys : List Str, strsOf (ys.map fun s => .dat (.str s)) = some ys
  | [] => rfl
  | y :: ys => by rw [List.map_cons, strsOf, strsOf_map ys]
theorem blsOf_map : ∀ ys : List Bool, blsOf (ys.map fun s => .dat (.bl s)) = some ys
  | [] => rfl
  | y :: ys => by rw [List.map_cons, blsOf, blsOf_map ys]
theorem intsOf_map : ∀ ys : List Int, intsOf (ys.map fun s => .dat (.int s)) = some ys
  | [] => rfl
  | y :: ys => by rw [List.map_cons, intsOf, intsOf_map ys]
theorem sum_le {α : Type} {f : α → Nat} {c : Nat} : ∀ {l : List α}, (∀ x ∈ l, f x ≤ c) → (l.map f).sum ≤ l.length * c
  | [], _ => by simp
  | a :: l, h => by
    have h1 := sum_le (l := l) fun x hx => h x (List.mem_cons_of_mem _ hx)
    have h2 := h a (List.mem_cons_self ..)
    rw [List.map_cons, List.sum_cons, List.length_cons, Nat.succ_mul]
    omega
section
variable {μ : Store} {Q : KE}
theorem wM_addT {a b : List Nat} (h : a.length + b.length ≤ sizeLine) (q : Q (.dat (.str (st (a ++ b)))) μ) : wM ((oAdd false).sem [.dat (.str (st a)), .dat (.str (st b))] μ) Q := wM_addS (by rw [st_length, st_length]; exact h) (by rw [st_app]; exact q)
theorem wM_lenT {a : List Nat} (h : a.length ≤ sizeLine) (q : Q (.dat (.int a.length)) μ) : wM (oLen.sem [.dat (.str (st a))] μ) Q := wM_lenS (by rw [st_length]; exact h) (by rw [st_length]; exact q)
theorem wM_slT {l : List Nat} {lo hi : Option Int} {i j : Nat} (ei : lo = some (i : Int)) (ej : hi = some (j : Int)) (h : l.length ≤ sizeLine) (q : Q (.dat (.str (st ((l.drop i).take (j - i))))) μ) : wM ((sSl false).sem (.dat (.str (st l))) lo hi μ) Q := by
  subst ei ej
  exact wM_slS (by rw [st_length]; exact h) (by rw [cut_st]; exact q)
theorem wM_slT0 {l : List Nat} {hi : Option Int} {j : Nat} (ej : hi = some (j : Int)) (h : l.length ≤ sizeLine) (q : Q (.dat (.str (st (l.take j)))) μ) : wM ((sSl false).sem (.dat (.str (st l))) none hi μ) Q := by
  subst ej
  exact wM_slS (by rw [st_length]; exact h) (by rw [cut_st0]; exact q)
theorem wM_slT1 {l : List Nat} {lo : Option Int} {i : Nat} (ei : lo = some (i : Int)) (h : l.length ≤ sizeLine) (q : Q (.dat (.str (st (l.drop i)))) μ) : wM ((sSl false).sem (.dat (.str (st l))) lo none μ) Q := by
  subst ei
  exact wM_slS (by rw [st_length]; exact h) (by rw [cut_st1]; exact q)
theorem wM_slTm {l : List Nat} (h : l.length ≤ sizeLine) (q : Q (.dat (.str (st l.dropLast))) μ) : wM ((sSl false).sem (.dat (.str (st l))) none (some (-1)) μ) Q := wM_slS (by rw [st_length]; exact h) (by rw [cut_stm]; exact q)
theorem wM_eqT {a b : List Nat} (ha : ∀ c ∈ a, c < 1114112) (hb : ∀ c ∈ b, c < 1114112) (q : Q (.dat (.bl (decide (a = b)))) μ) : wM ((oEq false).sem [.dat (.str (st a)), .dat (.str (st b))] μ) Q := wM_eqS (st_ok ha) (st_ok hb) (by rw [st_eq]; exact q)
theorem wM_neT {a b : List Nat} (ha : ∀ c ∈ a, c < 1114112) (hb : ∀ c ∈ b, c < 1114112) (q : Q (.dat (.bl (!decide (a = b)))) μ) : wM ((oEq true).sem [.dat (.str (st a)), .dat (.str (st b))] μ) Q := wM_neS (st_ok ha) (st_ok hb) (by rw [st_eq]; exact q)
theorem wM_joinT {v : Val} {ls : List (List Nat)} (h : seqOf v μ = some (ls.map fun l => .dat (.str (st l)))) (hl : (ls.map List.length).sum ≤ 16777216) (q : Q (.dat (.str (st ls.flatten))) μ) : wM (mJoin.sem (.dat (.str (st []))) [v] μ) Q := by
  refine ⟨_, _, ?_, q⟩
  have e : (ls.map fun l => Val.dat (.str (st l))) = (ls.map st).map fun s => .dat (.str s) := by rw [List.map_map]; rfl
  show (match seqOf v μ with
      | some us => match strsOf us with
        | some ys => if (ys.map Str.length).sum + ys.length * (st []).length ≤ 16777216 then some (Val.dat (.str (Txt.join (st []) ys)), μ) else none
        | none => none
      | none => none) = _
  rw [h, e]
  simp only [strsOf_map]
  have e2 : (ls.map st).map Str.length = ls.map List.length := by
    rw [List.map_map]
    exact List.map_congr_left fun a _ => st_length a
  rw [if_pos]
  · have : Txt.join (st []) (ls.map st) = st ls.flatten := (PySem.StrLaws.glued_eq_join _ _).trans (join_st ls)
    rw [this]
  · rw [e2]
    simpa [st_length] using hl
theorem wM_inC {c : Nat} {l : List Nat} (q : Q (.dat (.bl (decide (c ∈ l)))) μ) : wM ((oIn false).sem [.dat (.str (st [c])), .dat (.str (st l))] μ) Q := by
  refine ⟨_, _, ?_, q⟩
  show some (Val.dat (.bl (decide (c ∈ (st l).cps.toList))), μ) = _
  rw [st_toList]
theorem wM_allB {v : Val} {bs : List Bool} (h : rdL v μ = some (bs.map fun b => .dat (.bl b))) (q : Q (.dat (.bl (bs.all id))) μ) : wM (oAll.sem [v] μ) Q := by
  refine ⟨_, _, ?_, q⟩
  show (match rdL v μ with
      | some us => match blsOf us with
        | some bs => some (Val.dat (.bl (bs.all id)), μ)
        | none => none
      | none => none) = _
  rw [h]
  simp only [blsOf_map]
theorem wM_lstD {ds : List D} (q : Q (.dat (.lst ds)) μ) : wM ((oLst false).sem [.dat (.lst ds)] μ) Q := wM_lst rfl q
end
end EV

namespace K54
open PySem PySem.Spec PyProof.Rows L2 EV

local macro_rules | `(tactic| walk_at "ev1") => `(tactic| with_reducible first
  | (refine' wE_var ?hh ?_; (case hh => with_unfolding_all exact rfl)) | refine wE_int ?_ | refine wE_str ?_ | refine wE_non ?_ | refine wE_bl ?_ | refine wL_nil ?_ | refine wL_cons ?_
  | refine wE_app ?_ | refine wE_bm ?_ | refine wE_sl ?_ | refine wO_no ?_ | refine wO_so ?_ | refine wE_mth ?_ | refine wE_fld ?_ | refine wE_new ?_ | refine wE_call ?_
  | refine wE_ifx ?_ | refine wE_and ?_ | refine wE_or ?_ | refine wE_chain ?_ | refine wE_frz ?_ | refine wE_lc ?_
  | refine wT_tr ?_ | refine wT_bv ?_ | refine wT_and ?_ | refine wT_or ?_ | refine wT_not ?_ | refine wT_yes ?_
  | refine wS_seq ?_ | refine wS_set ?_ | refine wS_asg ?_ | refine wS_setI ?_ | refine wS_setF ?_ | refine wS_drop ?_ | refine wS_ret ?_ | refine wS_retN ?_ | refine wS_nx ?_ | refine wS_brk ?_ | refine wS_cnt ?_
  | refine kSeq_nx ?_ | refine kSeq_rt ?_ | refine kSeq_bk ?_ | refine kSeq_ct ?_)
local macro_rules | `(tactic| walk_at "ev2") => `(tactic| first
  | ((with_reducible refine' wM_ixB ?hh ?hi ?_); (case hh => assumption); (case hi => exact rfl)) | (with_reducible refine wM_mul (by omega) ?_) | (with_reducible refine wM_mod (by first | assumption | decide) ?_) | (with_reducible refine wM_div (by first | assumption | decide) ?_)
  | ((with_reducible refine' wM_of ?hh ?_); (case hh => exact rfl)) | ((with_reducible refine' wB_of ?hh ?_); (case hh => exact rfl))
  | refine ⟨_, rfl, ?_⟩ | refine ⟨rfl, ?_⟩ | refine ⟨_, _, _, _, rfl, rfl, (by assumption), rfl, ?_⟩ | refine ⟨_, _, _, _, rfl, rfl, rfl, rfl, ?_⟩ | refine ⟨_, _, _, rfl, rfl, rfl, rfl, ?_⟩ | refine ⟨_, _, rfl, rfl, rfl, ?_⟩)
local macro_rules | `(tactic| walk_at "done") => `(tactic| first | exact rfl | exact ⟨rfl, rfl⟩ | exact ⟨_, rfl, rfl⟩ | exact ⟨_, _, rfl, rfl⟩ | exact ⟨rfl, _, rfl, rfl⟩ | exact ⟨rfl, _, _, rfl, rfl⟩)
local macro_rules | `(tactic| walk_at "ev") => `(tactic| repeat (first | walk_at "ev1" | walk_at "ev2"))
theorem run_mixed (n k : Nat) (μ : Store) (a b : Int) (hS : Shut μ) : ∃ r μ', evCall pr n (k + 1) 21 [.dat (.int a), .dat (.int b)] μ = some (r, μ') ∧ ∃ i, r = .dat (.int i) ∧ μ' = μ := by
  refine run_ex [some (.dat (.int a)), some (.dat (.int b)), none, none, none] rfl rfl rfl ?_
  unfold R__law_mixed
  walk_at "ev"
  generalize hx : (a * 48271 + b * 69621 + 11) % 618970019642690137449562111 = x
  have bx : 0 ≤ x ∧ x < 2 ^ 100 := by omega
  refine wM_mulW (big_mul ⟨bx.1, by omega⟩ ⟨bx.1, by omega⟩) ?_
  walk_at "ev"
  generalize hy : (x * x + 7 * x + b) % 162259276829213363391578010288127 = y
  have yx : 0 ≤ y ∧ y < 2 ^ 150 := by omega
  refine wM_mulW (big_mul ⟨yx.1, by omega⟩ ⟨yx.1, by omega⟩) ?_
  walk_at "ev"
  refine wM_mulW (big_mul ⟨yx.1, by omega⟩ ⟨by decide, by decide⟩) ?_
  walk_at "ev"
  exact ⟨_, _, fin_same hS, _, rfl, rfl⟩

theorem run_rest (n k : Nat) (μ : Store) (ns : List Int) (a b : Int) (h0 : 0 ≤ a) (hS : Shut μ) : ∃ r μ', evCall pr n (k + 2) 22 [.dat (.scr ns), .dat (.int a), .dat (.int b)] μ = some (r, μ') ∧ ∃ i, r = .dat (.int i) ∧ μ' = μ := by
  refine run_ex [some (.dat (.scr ns)), some (.dat (.int a)), some (.dat (.int b)), none] rfl rfl rfl ?_
  unfold R__law_rest
  walk_at "ev"
  refine wS_mid (fun ρ' μ' => ∃ x, ρ' = [some (.dat (.scr ns)), some (.dat (.int a)), some (.dat (.int b)), some (.dat (.int x))] ∧ μ = μ') (wS_ifs ?_) ?_
  · walk_at "ev"
    refine iteB (fun h => ?_) (fun h => ?_)
    · have h := of_decide_eq_true h
      rw [List.length_map] at h
      walk_at "ev"
      rw [List.length_map]
      refine wM_mod h ?_
      walk_at "ev1"
      obtain ⟨x, e⟩ := ix_scr (ns := ns) (i := a % (ns.length : Int)) (μ := μ) (Int.emod_nonneg _ (by omega)) (Int.emod_lt_of_pos _ h)
      refine wM_of e ?_
      walk_at "ev"
      walk_at "done"
    · walk_at "ev"
      walk_at "done"
  rintro _ _ ⟨x, rfl, rfl⟩
  walk_at "ev"
  refine wS_mid (fun ρ' μ' => ∃ x, ρ' = [some (.dat (.scr ns)), some (.dat (.int a)), some (.dat (.int b)), some (.dat (.int x))] ∧ μ = μ') (wS_ifs ?_) ?_
  · walk_at "ev"
    refine iteB (fun h => ?_) (fun h => ?_)
    · walk_at "ev"
      walk_at "done"
    · walk_at "ev"
      walk_at "done"
  rintro _ _ ⟨x, rfl, rfl⟩
  walk_at "ev"
  obtain ⟨r, μ1, e, i, rfl, rfl⟩ := run_mixed n k μ (x + b * 1000003) a hS
  have fin : wS { call := evCall pr n (k + 1), n := n, fs := pr.fs } (.ret (.call 21 (.cons (.app (oAdd false) (.cons (.var 3) (.cons (.app (oMul false) (.cons (.var 2) (.cons (.cst (.int 1000003)) .nil))) .nil))) (.cons (.var 1) .nil)))) [some (.dat (.scr ns)), some (.dat (.int a)), some (.dat (.int b)), some (.dat (.int x))] μ1 fun o _ μ2 => match o with
      | .nx => ∃ r μ', fin μ1.length (.dat .non) μ2 = some (r, μ') ∧ ∃ i, r = .dat (.int i) ∧ μ' = μ1
      | .rt v => ∃ r μ', fin μ1.length v μ2 = some (r, μ') ∧ ∃ i, r = .dat (.int i) ∧ μ' = μ1
      | _ => False := by
    walk_at "ev"
    refine wM_of e ?_
    walk_at "ev"
    exact ⟨_, _, fin_same hS, _, rfl, rfl⟩
  refine wS_ifs ?_
  walk_at "ev"
  refine iteB (fun h => ?_) (fun h => ?_)
  · walk_at "ev"
    refine iteB (fun h => ?_) (fun h => ?_)
    · walk_at "ev"
      refine iteB (fun h => ?_) (fun h => ?_)
      · walk_at "ev"
        exact ⟨_, _, fin_same hS, _, rfl, rfl⟩
      · walk_at "ev1"
        walk_at "ev1"
        exact fin
    · refine iteF ?_
      walk_at "ev1"
      walk_at "ev1"
      exact fin
  · refine iteF ?_
    walk_at "ev1"
    walk_at "ev1"
    exact fin
/-- the pool's list -/
abbrev pl (ns : List Int) (a b c : Int) : SO := .lst [.dat (.scr ns), .dat (.int a), .dat (.int b), .dat (.int c)]
theorem run_next (n k : Nat) (μ : Store) (p : Nat) (ns : List Int) (a b c : Int) (hp : μ[p]? = some (pl ns a b c)) (h0 : 0 ≤ a) (hS : Shut μ) : ∃ r μ', evCall pr n (k + 3) 24 [.box p] μ = some (r, μ') ∧ ∃ i, r = .dat .non ∧ μ' = μ.set p (pl ns (a + 1) i 0) := by
  refine run_ex [some (.box p)] rfl rfl rfl ?_
  unfold R__law_next
  walk_at "ev"
  have h1 := set_get (s := pl ns (a + 1) b c) hp
  have s1 : Shut (μ.set p (pl ns (a + 1) b c)) := shut_set hS rfl
  obtain ⟨r, μ1, e, i, rfl, rfl⟩ := run_rest n k _ ns (a + 1) 0 (by omega) s1
  walk_at "ev"
  refine wM_of e ?_
  walk_at "ev"
  have h2 := set_get (s := pl ns (a + 1) i c) h1
  walk_at "ev"
  refine ⟨_, _, fin_len (shut_set (shut_set s1 rfl) rfl) (by simp), i, rfl, ?_⟩
  simp only [List.set_set]
  rfl
theorem run_pool (n k : Nat) (μ : Store) (ns : List Int) (hS : Shut μ) : ∃ r μ', evCall pr n (k + 3) 23 [.dat (.scr ns)] μ = some (r, μ') ∧ ∃ i, r = .box μ.length ∧ μ' = μ ++ [pl ns 0 i 0] := by
  refine run_ex [some (.dat (.scr ns))] rfl rfl rfl ?_
  unfold R__law_pool
  obtain ⟨r, μ1, e, i, rfl, rfl⟩ := run_rest n k μ ns 0 0 (by omega) hS
  walk_at "ev"
  refine wM_of e ?_
  walk_at "ev"
  exact ⟨_, _, fin_box (ds := [.scr ns, .int 0, .int i, .int 0]) hS, i, rfl, rfl⟩
theorem run_draw (n k : Nat) (μ : Store) (p : Nat) (ns : List Int) (a b c l : Int) (hp : μ[p]? = some (pl ns a b c)) (h0 : 0 ≤ a) (hl : 0 < l ∧ l < 2 ^ 64) (hS : Shut μ) :
    ∃ r μ', evCall pr n (k + 3) 25 [.box p, .dat (.int l)] μ = some (r, μ') ∧ ∃ v i j, 0 ≤ v ∧ v < l ∧ r = .dat (.int v) ∧ μ' = μ.set p (pl ns a i j) := by
  refine run_ex [some (.box p), some (.dat (.int l)), none] rfl rfl rfl ?_
  unfold R__law_draw
  walk_at "ev"
  refine wS_mid (fun ρ' μ' => ∃ i j, ρ' = [some (.box p), some (.dat (.int l)), none] ∧ μ' = μ.set p (pl ns a i j)) (wS_ifs ?_) ?_
  · walk_at "ev"
    refine iteB (fun h => ?_) (fun h => ?_)
    · walk_at "ev"
      have h1 := set_get (s := pl ns a b (c + 1)) hp
      have s1 : Shut (μ.set p (pl ns a b (c + 1))) := shut_set hS rfl
      obtain ⟨r, μ1, e, i, rfl, rfl⟩ := run_rest n k _ ns a (c + 1) h0 s1
      walk_at "ev"
      refine wM_of e ?_
      walk_at "ev"
      refine ⟨i, c + 1, rfl, ?_⟩
      simp only [List.set_set]
      rfl
    · walk_at "ev"
      refine ⟨b, c, rfl, ?_⟩
      have := List.getElem?_eq_some_iff.mp hp
      obtain ⟨hh, e⟩ := this
      rw [show pl ns a b c = μ[p] from e.symm, List.set_getElem_self]
  rintro _ _ ⟨i, j, rfl, rfl⟩
  have h1 := set_get (s := pl ns a i j) hp
  have s1 : Shut (μ.set p (pl ns a i j)) := shut_set hS rfl
  have hl0 := hl.1
  walk_at "ev"
  have h2 := set_get (s := pl ns a (i / l) j) h1
  walk_at "ev"
  refine ⟨_, _, fin_len (shut_set s1 rfl) (by simp), i % l, i / l, j, Int.emod_nonneg _ (by omega), Int.emod_lt_of_pos _ hl.1, rfl, ?_⟩
  simp only [List.set_set]
  rfl
end K54

namespace K54
open PySem PySem.Spec PyProof.Rows L2 EV
local macro_rules | `(tactic| walk_at "ev1") => `(tactic| with_reducible first
  | (refine' wE_var ?hh ?_; (case hh => with_unfolding_all exact rfl)) | refine wE_int ?_ | refine wE_str ?_ | refine wE_non ?_ | refine wE_bl ?_ | refine wL_nil ?_ | refine wL_cons ?_
  | refine wE_app ?_ | refine wE_bm ?_ | refine wE_sl ?_ | refine wO_no ?_ | refine wO_so ?_ | refine wE_mth ?_ | refine wE_fld ?_ | refine wE_new ?_ | refine wE_call ?_
  | refine wE_ifx ?_ | refine wE_and ?_ | refine wE_or ?_ | refine wE_chain ?_ | refine wE_frz ?_ | refine wE_lc ?_
  | refine wT_tr ?_ | refine wT_bv ?_ | refine wT_and ?_ | refine wT_or ?_ | refine wT_not ?_ | refine wT_yes ?_
  | refine wS_seq ?_ | refine wS_set ?_ | refine wS_asg ?_ | refine wS_setI ?_ | refine wS_setF ?_ | refine wS_drop ?_ | refine wS_ret ?_ | refine wS_retN ?_ | refine wS_nx ?_ | refine wS_brk ?_ | refine wS_cnt ?_
  | refine kSeq_nx ?_ | refine kSeq_rt ?_ | refine kSeq_bk ?_ | refine kSeq_ct ?_)
local macro_rules | `(tactic| walk_at "ev2") => `(tactic| first
  | ((with_reducible refine' wM_ixB ?hh ?hi ?_); (case hh => first | assumption | exact get_snoc_eq); (case hi => exact rfl)) | (with_reducible refine wM_eqI ?_) | (with_reducible refine wM_neI ?_) | (with_reducible refine wM_slL ?_) | (with_reducible refine wM_mul (by omega) ?_) | (with_reducible refine wM_mod (by first | assumption | decide) ?_) | (with_reducible refine wM_div (by first | assumption | decide) ?_)
  | ((with_reducible refine' wM_of ?hh ?_); (case hh => exact rfl)) | ((with_reducible refine' wB_of ?hh ?_); (case hh => exact rfl))
  | refine ⟨_, rfl, ?_⟩ | refine ⟨rfl, ?_⟩ | refine ⟨_, _, _, _, rfl, rfl, (by first | assumption | exact get_snoc_eq), rfl, ?_⟩ | refine ⟨_, _, _, _, rfl, rfl, rfl, rfl, ?_⟩ | refine ⟨_, _, _, rfl, rfl, rfl, rfl, ?_⟩ | refine ⟨_, _, rfl, rfl, rfl, ?_⟩)
local macro_rules | `(tactic| walk_at "done") => `(tactic| first | exact rfl | exact ⟨rfl, rfl⟩ | exact ⟨_, rfl, rfl⟩ | exact ⟨_, _, rfl, rfl⟩ | exact ⟨rfl, _, rfl, rfl⟩ | exact ⟨rfl, _, _, rfl, rfl⟩)
local macro_rules | `(tactic| walk_at "ev") => `(tactic| repeat (first | walk_at "ev1" | walk_at "ev2"))
abbrev dint (ns : List Int) : List D := ns.map D.int
abbrev vint (ns : List Int) : List Val := (ns.map D.int).map Val.dat
/-! ### sums -/
def sst : Nat → List Int → Int × Int × Int → Int × Int × Int
  | _, [], s => s
  | i, x :: xs, s => sst (i + 1) xs ((s.1 + x) % 97, (s.2.1 + ((i : Int) + 1) * x) % 97, (s.2.2 + ((i : Int) + 1) * ((i : Int) + 1) * x) % 97)
def sums (ns : List Int) : Int × Int × Int := sst 0 ns (0, 0, 0)
theorem sq_bd {i : Nat} (h : i < 1000) : 0 ≤ ((i : Int) + 1) * ((i : Int) + 1) ∧ ((i : Int) + 1) * ((i : Int) + 1) ≤ 1000000 := by
  have h1 : (0 : Int) ≤ (i : Int) + 1 := by omega
  have h2 : (i : Int) + 1 ≤ 1000 := by omega
  exact ⟨Int.mul_nonneg h1 h1, Int.le_trans (Int.mul_le_mul h2 h2 h1 (by omega)) (by decide)⟩
theorem run_sums (n k : Nat) (μ : Store) (v : Val) (ns : List Int) (hv : rdL v μ = some (vint ns)) (hl : ns.length ≤ 1000) (hn : 1001 < n) (hS : Shut μ) :
    evCall pr n (k + 1) 11 [v] μ = some (.dat (.lst (dint [(sums ns).1, (sums ns).2.1, (sums ns).2.2])), μ) := by
  refine run_of2 [some v, none, none, none, none] rfl rfl rfl ?_
  unfold R_sums
  walk_at "ev"
  refine wS_for ?_
  walk_at "ev"
  refine ⟨_, en_sem (rdL_app hv), ?_⟩
  refine for_inv (fun i ρ μ' => ∃ j q a b c x2 x3 x4, μ' = μ ++ j ∧ μ.length ≤ q ∧ ρ = [some v, some (.box q), x2, x3, x4] ∧ μ'[q]? = some (.lst (vint [a, b, c])) ∧ i ≤ ns.length ∧ sst i (ns.drop i) (a, b, c) = sums ns) ?_ ns.length (fun i ρ μ' ⟨_, _, _, _, _, _, _, _, _, _, _, _, h, _⟩ => h) n 0 _ _
    ⟨_, _, 0, 0, 0, none, none, none, rfl, Nat.le_refl _, rfl, get_snoc_eq, Nat.zero_le _, rfl⟩ (by omega)
  rintro i _ _ ⟨j, q, a, b, c, x2, x3, x4, rfl, hjq, rfl, hq, hi, hs⟩
  have hv' : rdL v (μ ++ j) = some (vint ns) := rdL_app hv
  by_cases hlt : i < ns.length
  · obtain ⟨x, hx⟩ : ∃ x, ns[i]? = some x := ⟨ns[i], List.getElem?_eq_getElem hlt⟩
    have hb := sq_bd (i := i) (by omega)
    refine ⟨_, nxEn_some (d := .int x) hv' (by simp [vint, hx]), ?_⟩
    refine wR_for (ρ2 := [some v, some (.box q), some (.dat (.int (i : Nat))), some (.dat (.int x)), x4]) rfl ?_
    walk_at "ev"
    refine ⟨j ++ [.lst (vint [(a + x) % 97, (b + ((i : Int) + 1) * x) % 97, (c + ((i : Int) + 1) * ((i : Int) + 1) * x) % 97])], _, (a + x) % 97, (b + ((i : Int) + 1) * x) % 97, (c + ((i : Int) + 1) * ((i : Int) + 1) * x) % 97, _, _, _, ?_, ?_, rfl, ?_, hlt, ?_⟩
    · rw [set_snoc, List.append_assoc]
      rfl
    · simp
    · rw [set_snoc]
      exact get_snoc_eq
    · rw [← hs, show ns.drop i = x :: ns.drop (i + 1) from by
        rw [List.drop_eq_getElem_cons hlt]
        rw [List.getElem?_eq_getElem hlt] at hx
        cases hx
        rfl]
      rfl
  · refine ⟨none, nxEn_none hv' (by simp; omega), ?_⟩
    rw [List.drop_eq_nil_of_le (by omega)] at hs
    have hs : (a, b, c) = sums ns := hs
    walk_at "ev"
    refine wM_frzB (dint [a, b, c]) hq rfl ?_
    walk_at "ev"
    show fin μ.length _ _ = _
    rw [fin_set_junk hS hjq, ← hs]
/-! ### inverse -/
theorem run_inverse (n k : Nat) (μ : Store) (x y : Int) (hx : 0 ≤ x ∧ x < 97) (hy : ((List.range 97).filter fun (o : Nat) => x * (0 + (o : Int) * 1) % 97 == 1).head? = some y.toNat) (h0 : 0 ≤ y) (hn : 1001 < n) (hS : Shut μ) :
    evCall pr n (k + 1) 12 [.dat (.int x)] μ = some (.dat (.int y), μ) := by
  refine run_of2 [some (.dat (.int x)), none] rfl rfl rfl ?_
  unfold R_inverse
  walk_at "ev"
  refine ⟨_, _, lc_pure (xs := rgL 0 1 97) (r := fun v => match v with | .dat (.int o) => if x * o % 97 == 1 then some v else none | _ => none) (fun i => nxR_at) ?_ n 0 [] (Nat.zero_le _) (by simp [rgL]; omega) (by simp [rgL]; decide), ?_⟩
  · intro v hv
    simp only [rgL, List.mem_map, List.mem_range] at hv
    obtain ⟨o, ho, rfl⟩ := hv
    refine lcStep_if (ρ2 := [some (.dat (.int x)), some (.dat (.int (0 + (o : Nat) * 1)))]) rfl ?_
    walk_at "ev"
    refine iteB (fun h => ?_) (fun h => ?_)
    · have h := of_decide_eq_true h
      walk_at "ev"
      refine ⟨?_, rfl⟩
      simp only [h]
      rfl
    · have h := of_decide_eq_false h
      refine ⟨?_, rfl⟩
      simp only [beq_iff_eq, h, if_false]
  · have e : ∀ l : List Nat, (l.map fun (i : Nat) => Val.dat (.int (0 + (i : Nat) * 1))).filterMap (fun v => match v with | .dat (.int o) => if x * o % 97 == 1 then some v else none | _ => none) =
        ((l.filter fun (o : Nat) => x * (0 + (o : Int) * 1) % 97 == 1).map fun (o : Nat) => D.int (0 + (o : Nat) * 1)).map Val.dat := fun l => by
      induction l with
      | nil => rfl
      | cons o l ih =>
        rw [List.map_cons, List.filterMap_cons, ih, List.filter_cons]
        simp only
        by_cases hh : (x * (0 + (o : Int) * 1) % 97 == 1) = true
        · rw [if_pos hh, if_pos hh]
          rfl
        · rw [if_neg hh, if_neg hh]
    refine wM_mk _ (by rw [List.nil_append, List.drop_zero]; exact e _) ?_ rfl
    walk_at "ev"
    refine wM_ixD (d := .int y) ?_ ?_
    · cases hf : (List.range 97).filter fun (o : Nat) => x * (0 + (o : Int) * 1) % 97 == 1 with
      | nil => rw [hf] at hy; cases hy
      | cons o l =>
        rw [hf] at hy
        cases hy
        refine (atI_nat (j := 0) (v := D.int (0 + (y.toNat : Int) * 1)) rfl).trans ?_
        rw [show (0 : Int) + (y.toNat : Int) * 1 = y by omega]
    · exact fin_same hS
/-- the inverse -/
def inv (x : Int) : Int := (((List.range 97).filter fun (o : Nat) => x * (0 + (o : Int) * 1) % 97 == 1).head?.getD 0 : Nat)
theorem inv_all : ∀ x : Nat, x < 97 → 0 < x → (((List.range 97).filter fun (o : Nat) => (x : Int) * (0 + (o : Int) * 1) % 97 == 1).head?).isSome = true ∧ (x : Int) * inv x % 97 = 1 ∧ 0 ≤ inv x ∧ inv x < 97 := by
  decide +kernel
theorem run_inv (n k : Nat) (μ : Store) (x : Int) (hx : 0 < x ∧ x < 97) (hn : 1001 < n) (hS : Shut μ) : evCall pr n (k + 1) 12 [.dat (.int x)] μ = some (.dat (.int (inv x)), μ) := by
  obtain ⟨h1, _, h3, _⟩ := inv_all x.toNat (by omega) (by omega)
  have ex : ((x.toNat : Nat) : Int) = x := by omega
  rw [ex] at h1 h3
  refine run_inverse n k μ x (inv x) (by omega) ?_ h3 hn hS
  unfold inv
  cases hf : ((List.range 97).filter fun (o : Nat) => x * (0 + (o : Int) * 1) % 97 == 1).head? with
  | none => rw [hf] at h1; cases h1
  | some o => simp
theorem inv_ok {x : Int} (hx : 0 < x ∧ x < 97) : x * inv x % 97 = 1 ∧ 0 ≤ inv x ∧ inv x < 97 := by
  obtain ⟨_, h⟩ := inv_all x.toNat (by omega) (by omega)
  have ex : ((x.toNat : Nat) : Int) = x := by omega
  rwa [ex] at h
/-! ### line_of -/
def lineOf (a : Int) (s : List Int) : List Int :=
  let t := a / 97 :: a % 97 :: s
  let z := (sums t).1
  let o := (sums t).2.1
  let w := (sums t).2.2
  t ++ [-((w - 119 * o + 3540 * z) * 49) % 97, (w - 118 * o + 3480 * z) % 97, -((w - 117 * o + 3422 * z) * 49) % 97]
theorem run_line_of (n k : Nat) (μ : Store) (a : Int) (s : List Int) (hl : s.length ≤ 900) (hn : 1001 < n) (hS : Shut μ) :
    evCall pr n (k + 2) 13 [.dat (.int a), .dat (.lst (dint s))] μ = some (.dat (.lst (dint (lineOf a s))), μ) := by
  refine run_of2 [some (.dat (.int a)), some (.dat (.lst (dint s))), none, none, none, none, none, none, none, none, none] rfl rfl rfl ?_
  unfold R_line_of
  walk_at "ev"
  refine wM_addL (by show 2 + (dint s).length ≤ _; rw [List.length_map]; exact Nat.le_trans (by omega : _ ≤ 1000) (by decide)) ?_
  walk_at "ev"
  have e1 : [D.int (a / 97), D.int (a % 97)] ++ dint s = dint (a / 97 :: a % 97 :: s) := rfl
  rw [e1]
  refine wM_of (run_sums n k μ (.dat (.lst (dint (a / 97 :: a % 97 :: s)))) (a / 97 :: a % 97 :: s) rfl (by simp; omega) hn hS) ?_
  generalize hz : (sums (a / 97 :: a % 97 :: s)).1 = z
  generalize ho : (sums (a / 97 :: a % 97 :: s)).2.1 = o
  generalize hw : (sums (a / 97 :: a % 97 :: s)).2.2 = w
  walk_at "ev"
  refine wM_of (run_inv n k μ 2 (by decide) hn hS) ?_
  rw [show inv 2 = 49 by decide +kernel]
  walk_at "ev"
  refine wM_addL (by show (dint _).length + 3 ≤ _; rw [List.length_map, List.length_cons, List.length_cons]; exact Nat.le_trans (by omega : _ ≤ 1000) (by decide)) ?_
  walk_at "ev"
  have e3 : ∀ x y z : Int, dint (a / 97 :: a % 97 :: s) ++ [D.int x, .int y, .int z] = dint ((a / 97 :: a % 97 :: s) ++ [x, y, z]) := fun x y z => by simp [dint]
  rw [e3]
  refine (fin_same hS).trans ?_
  unfold lineOf
  simp only [hz, ho, hw, show (2 : Int) * 60 - 1 = 119 from rfl, show (2 : Int) * 60 - 2 = 118 from rfl, show (2 : Int) * 60 - 3 = 117 from rfl, show (60 : Int) * (60 - 1) = 3540 from rfl, show (60 : Int) * (60 - 2) = 3480 from rfl, show ((60 : Int) - 2) * (60 - 1) = 3422 from rfl]
/-! ### righted -/
def righted (ns : List Int) : Option (List Int) :=
  let z := (sums ns).1
  let o := (sums ns).2.1
  let w := (sums ns).2.2
  if z = 0 ∧ o = 0 ∧ w = 0 then some ns else if z = 0 then none else
    let p := o * inv z % 97
    if 1 ≤ p ∧ p ≤ 60 ∧ w = p * o % 97 then some (ns.set (p - 1).toNat ((ns.getD (p - 1).toNat 0 - z) % 97)) else none
theorem sst_bd : ∀ (ns : List Int) (i : Nat) (s : Int × Int × Int), (0 ≤ s.1 ∧ s.1 < 97) ∧ (0 ≤ s.2.1 ∧ s.2.1 < 97) ∧ (0 ≤ s.2.2 ∧ s.2.2 < 97) → (0 ≤ (sst i ns s).1 ∧ (sst i ns s).1 < 97) ∧ (0 ≤ (sst i ns s).2.1 ∧ (sst i ns s).2.1 < 97) ∧ (0 ≤ (sst i ns s).2.2 ∧ (sst i ns s).2.2 < 97)
  | [], i, s, h => h
  | x :: xs, i, s, h => sst_bd xs (i + 1) _ ⟨⟨by simp only; omega, by simp only; omega⟩, ⟨by simp only; omega, by simp only; omega⟩, ⟨by simp only; omega, by simp only; omega⟩⟩
theorem sums_bd (ns : List Int) : (0 ≤ (sums ns).1 ∧ (sums ns).1 < 97) ∧ (0 ≤ (sums ns).2.1 ∧ (sums ns).2.1 < 97) ∧ (0 ≤ (sums ns).2.2 ∧ (sums ns).2.2 < 97) := sst_bd ns 0 _ (by decide)
def optD : Option (List Int) → D
  | none => .non
  | some ns => .lst (dint ns)
theorem run_righted (n k : Nat) (μ : Store) (v : Val) (ns : List Int) (hv : seqOf v μ = some (vint ns)) (hr : rdL v μ = some (vint ns)) (hl : ns.length = 60) (hn : 1001 < n) (hS : Shut μ) :
    evCall pr n (k + 2) 14 [v] μ = some (.dat (optD (righted ns)), μ) := by
  refine run_of2 [some v, none, none, none, none, none] rfl rfl rfl ?_
  unfold R_righted
  walk_at "ev"
  refine wM_of (run_sums n k μ v ns hr (by omega) hn hS) ?_
  obtain ⟨bz, bo, bw⟩ := sums_bd ns
  unfold righted
  simp only
  generalize hz : (sums ns).1 = z at *
  generalize ho : (sums ns).2.1 = o at *
  generalize hw : (sums ns).2.2 = w at *
  walk_at "ev"
  have eqv3 : PyData.eqv (toP (D.lst [D.int z, D.int o, D.int w])) (toP (D.lst [D.int 0, D.int 0, D.int 0])) = decide ([z, o, w] = [0, 0, 0]) := eqvAll_ints [z, o, w] [0, 0, 0]
  refine wS_ifs ?_
  walk_at "ev"
  rw [if_neg Bool.false_ne_true, eqv3]
  refine iteB (fun h => ?_) (fun h => ?_)
  · have h := of_decide_eq_true h
    have h : z = 0 ∧ o = 0 ∧ w = 0 := by simpa using h
    repeat walk_at "ev1"
    refine wM_lst (ds := dint ns) hv ?_
    walk_at "ev"
    rw [if_pos h]
    exact fin_same hS
  have h := of_decide_eq_false h
  have h : ¬ (z = 0 ∧ o = 0 ∧ w = 0) := by simpa using h
  rw [if_neg h]
  walk_at "ev"
  refine wS_ifs ?_
  walk_at "ev"
  refine iteB (fun h2 => ?_) (fun h2 => ?_)
  · have h2 := of_decide_eq_true h2
    walk_at "ev"
    rw [if_pos h2]
    exact fin_same hS
  have h2 := of_decide_eq_false h2
  rw [if_neg h2]
  obtain ⟨i1, i2, i3⟩ := inv_ok (x := z) (by omega)
  generalize hp : o * inv z % 97 = p
  have bp : 0 ≤ p ∧ p < 97 := by omega
  walk_at "ev"
  refine wM_of (run_inv n k μ z (by omega) hn hS) ?_
  walk_at "ev"
  rw [hp]
  have tail : 1 ≤ p ∧ p ≤ 60 → wS { call := evCall pr n (k + 1), n := n, fs := pr.fs } (.seq (.asg (.nm 5) (.app (oLst true) (.cons (.var 0) .nil))) (.seq (.setI (.var 5) (.app oSub (.cons (.var 4) (.cons (.cst (.int 1)) .nil))) (.app oMod (.cons (.app oSub (.cons (.app oIx (.cons (.var 5) (.cons (.app oSub (.cons (.var 4) (.cons (.cst (.int 1)) .nil))) .nil))) (.cons (.var 1) .nil))) (.cons (.cst (.int 97)) .nil)))) (.ret (.frz (.var 5)))))
      [some v, some (.dat (.int z)), some (.dat (.int o)), some (.dat (.int w)), some (.dat (.int p)), none] μ (kFn μ.length (.dat (.lst (dint (ns.set (p - 1).toNat ((ns.getD (p - 1).toNat 0 - z) % 97))))) μ) := by
    intro bp2
    have hlt : (p - 1).toNat < ns.length := by omega
    obtain ⟨x, hx⟩ : ∃ x, ns[(p - 1).toNat]? = some x := ⟨ns[(p - 1).toNat], List.getElem?_eq_getElem hlt⟩
    have hx2 : (vint ns)[(p - 1).toNat]? = some (.dat (.int x)) := by rw [List.getElem?_map, List.getElem?_map, hx]; rfl
    repeat walk_at "ev1"
    refine wM_lstB hv ?_
    walk_at "ev"
    refine wM_ixB get_snoc_eq (atI_at (j := (p - 1).toNat) (by omega) hx2) ?_
    walk_at "ev"
    have hix : ixN (vint ns).length (p - 1) = some (p - 1).toNat := by
      have := ixN_nat (n := (vint ns).length) (j := (p - 1).toNat) (by simpa [vint] using hlt)
      rwa [show (((p - 1).toNat : Nat) : Int) = p - 1 by omega] at this
    refine ⟨_, _, _, (p - 1).toNat, rfl, rfl, get_snoc_eq, hix, ?_⟩
    rw [set_snoc]
    walk_at "ev"
    refine wM_frzB (dint (ns.set (p - 1).toNat ((x - z) % 97))) get_snoc_eq (by rw [dint, List.map_set, List.map_set]; rfl) ?_
    walk_at "ev"
    show fin μ.length _ _ = _
    rw [List.getD_eq_getElem?_getD, hx]
    exact fin_set_junk hS (Nat.le_refl _)
  refine wS_ifB (¬ (1 ≤ p ∧ p ≤ 60 ∧ w = p * o % 97)) ?_ (fun hB => ?_) (fun hB => ?_)
  · walk_at "ev"
    refine iteB (fun g1 => ?_) (fun g1 => ?_)
    · have g1 := of_decide_eq_true g1
      walk_at "ev"
      refine iteB (fun g2 => ?_) (fun g2 => ?_)
      · have g2 : 60 < p := by simpa using g2
        refine ⟨?_, rfl⟩
        simp [show ¬ p ≤ 60 by omega]
      · have g2 : p ≤ 60 := by simpa using g2
        walk_at "ev"
        refine ⟨?_, rfl⟩
        by_cases g3 : w = p * o % 97
        · simp [g1, g2, g3]
        · simp [g1, g2, g3]
    · have g1 := of_decide_eq_false g1
      walk_at "ev"
      refine ⟨?_, rfl⟩
      simp [g1]
  · walk_at "ev"
    rw [if_neg hB]
    exact fin_same hS
  · rw [if_pos (Classical.not_not.mp hB)]
    walk_at "ev1"
    walk_at "ev1"
    exact tail ⟨(Classical.not_not.mp hB).1, (Classical.not_not.mp hB).2.1⟩
end K54

namespace K54
open PySem PySem.Spec PyProof.Rows L2 EV
local macro_rules | `(tactic| walk_at "ev1") => `(tactic| with_reducible first
  | (refine' wE_var ?hh ?_; (case hh => with_unfolding_all exact rfl)) | refine wE_int ?_ | refine wE_str ?_ | refine wE_non ?_ | refine wE_bl ?_ | refine wL_nil ?_ | refine wL_cons ?_
  | refine wE_app ?_ | refine wE_bm ?_ | refine wE_sl ?_ | refine wO_no ?_ | refine wO_so ?_ | refine wE_mth ?_ | refine wE_fld ?_ | refine wE_new ?_ | refine wE_call ?_
  | refine wE_ifx ?_ | refine wE_and ?_ | refine wE_or ?_ | refine wE_chain ?_ | refine wE_frz ?_ | refine wE_lc ?_
  | refine wT_tr ?_ | refine wT_bv ?_ | refine wT_and ?_ | refine wT_or ?_ | refine wT_not ?_ | refine wT_yes ?_
  | refine wS_seq ?_ | refine wS_set ?_ | refine wS_asg ?_ | refine wS_setI ?_ | refine wS_setF ?_ | refine wS_drop ?_ | refine wS_ret ?_ | refine wS_retN ?_ | refine wS_nx ?_ | refine wS_brk ?_ | refine wS_cnt ?_
  | refine kSeq_nx ?_ | refine kSeq_rt ?_ | refine kSeq_bk ?_ | refine kSeq_ct ?_)
local macro_rules | `(tactic| walk_at "ev2") => `(tactic| first
  | ((with_reducible refine' wM_ixB ?hh ?hi ?_); (case hh => first | assumption | exact get_snoc_eq); (case hi => exact rfl)) | (with_reducible refine wM_eqI ?_) | (with_reducible refine wM_neI ?_) | (with_reducible refine wM_slL ?_) | (with_reducible refine wM_mul (by omega) ?_) | (with_reducible refine wM_mod (by first | assumption | decide) ?_) | (with_reducible refine wM_div (by first | assumption | decide) ?_)
  | ((with_reducible refine' wM_of ?hh ?_); (case hh => exact rfl)) | ((with_reducible refine' wB_of ?hh ?_); (case hh => exact rfl))
  | refine ⟨_, rfl, ?_⟩ | refine ⟨rfl, ?_⟩ | refine ⟨_, _, _, _, rfl, rfl, (by first | assumption | exact get_snoc_eq), rfl, ?_⟩ | refine ⟨_, _, _, _, rfl, rfl, rfl, rfl, ?_⟩ | refine ⟨_, _, _, rfl, rfl, rfl, rfl, ?_⟩ | refine ⟨_, _, rfl, rfl, rfl, ?_⟩)
local macro_rules | `(tactic| walk_at "done") => `(tactic| first | exact rfl | exact ⟨rfl, rfl⟩ | exact ⟨_, rfl, rfl⟩ | exact ⟨_, _, rfl, rfl⟩ | exact ⟨rfl, _, rfl, rfl⟩ | exact ⟨rfl, _, _, rfl, rfl⟩)
local macro_rules | `(tactic| walk_at "ev") => `(tactic| repeat (first | walk_at "ev1" | walk_at "ev2"))
/-! literals -/
theorem lit_e : Str.ofString "" = st [] := by decide +kernel
theorem lit_q : Str.ofString "\"" = st [34] := by decide +kernel
theorem lit_c : Str.ofString "," = st [44] := by decide +kernel
theorem lit_o : Str.ofString "(" = st [40] := by decide +kernel
theorem lit_s : Str.ofString ")" = st [41] := by decide +kernel
theorem lit_cs : Str.ofString ",)" = st [44, 41] := by decide +kernel
theorem lit_m : Str.ofString "-" = st [45] := by decide +kernel
theorem lit_0 : Str.ofString "0" = st [48] := by decide +kernel
theorem lit_n : Str.ofString "\n" = st [10] := by decide +kernel
theorem lit_a : Str.ofString "a" = st [97] := by decide +kernel
theorem lit_zz : Str.ofString "zz" = st [122, 122] := by decide +kernel
theorem lit_line : Str.ofString "line" = st [108, 105, 110, 101] := by decide +kernel
theorem lit_text : Str.ofString "text" = st [116, 101, 120, 116] := by decide +kernel
def digL : List Nat := [48, 49, 50, 51, 52, 53, 54, 55, 56, 57]
theorem lit_dig : Str.ofString "0123456789" = st digL := by decide +kernel
theorem lit_digits : c_DIGITS = st digL := by decide +kernel
def sgL : List Nat := [48,49,50,51,52,53,54,55,56,57] ++ [97,98,99,100,101,102,103,104,105,106,107,108,109,110,111,112,113,114,115,116,117,118,119,120,121,122] ++ [65,66,67,68,69,70,71,72,73,74,75,76,77,78,79,80,81,82,83,84,85,86,87,88,89,90] ++ [45, 34, 40, 41, 44, 46, 32, 47, 58, 43, 10]
theorem lit_signs : c_SIGNS = st sgL := by decide +kernel
/-! ### digits -/
def dig (n : Int) : List Nat := [48 + (n / 10).toNat, 48 + (n % 10).toNat]
theorem str_digit : ∀ d : Fin 10, Str.ofString (toString (d.val : Int)) = st [48 + d.val] := by decide +kernel
theorem str_dig {n : Int} (h : 0 ≤ n ∧ n < 10) : Str.ofString (toString n) = st [48 + n.toNat] := by
  have := str_digit ⟨n.toNat, by omega⟩
  simpa [show ((n.toNat : Nat) : Int) = n by omega] using this
theorem log_small {n : Int} (h : 0 ≤ n ∧ n < 1000) : n.natAbs.log2 < 1920 := by
  by_cases e : n.natAbs = 0
  · rw [e]; decide
  · refine (Nat.log2_lt e).mpr (Nat.lt_of_lt_of_le (by omega : n.natAbs < 2 ^ 10) (Nat.pow_le_pow_right (by decide) (by decide)))
theorem wM_strD {n : Int} {μ : Store} {Q : KE} (h : 0 ≤ n ∧ n < 10) (q : Q (.dat (.str (st [48 + n.toNat]))) μ) : wM (oStr.sem [.dat (.int n)] μ) Q := by
  refine ⟨_, _, ?_, q⟩
  show (if n.natAbs.log2 < 1920 then some (Val.dat (.str (Str.ofString (toString n))), μ) else none) = _
  rw [if_pos (log_small (by omega)), str_dig h]
theorem int_two : ∀ a b : Fin 10, PySem.intText? (st [48 + a.val, 48 + b.val]) = some ((a.val * 10 + b.val : Nat) : Int) := by decide +kernel
/-! ### written -/
def flatD (ns : List Int) : List Nat := ns.flatMap dig
theorem run_written (n k : Nat) (μ : Store) (ns : List Int) (hb : ∀ x ∈ ns, 0 ≤ x ∧ x < 97) (hl : ns.length ≤ 900) (hn : 1001 < n) (hS : Shut μ) :
    evCall pr n (k + 1) 15 [.dat (.lst (dint ns))] μ = some (.dat (.str (st (flatD ns))), μ) := by
  refine run_of2 [some (.dat (.lst (dint ns))), none] rfl rfl rfl ?_
  unfold R_written
  walk_at "ev"
  refine lcML (v := .dat (.lst (dint ns))) (us := vint ns) (fun v => match v with | .dat (.int x) => .dat (.str (st (dig x))) | v => v) ?_ ?_ ?_ (fun v hv => ?_) ?_
  · exact rfl
  · simp [vint]; omega
  · simp [vint]; exact Nat.le_trans hl (by decide)
  · simp only [vint, List.mem_map] at hv
    obtain ⟨_, ⟨x, hx, rfl⟩, rfl⟩ := hv
    have hx := hb x hx
    refine lcStep_map (ρ2 := [some (.dat (.lst (dint ns))), some (.dat (.int x))]) rfl ?_
    walk_at "ev"
    refine wM_strD (by omega) ?_
    walk_at "ev"
    refine wM_strD (by omega) ?_
    walk_at "ev"
    rfl
  · refine mk_dats (ds := ns.map fun x => .str (st (dig x))) (by simp [vint]) ?_
    walk_at "ev"
    rw [lit_e]
    refine wM_joinT (ls := ns.map dig) (by show some _ = _; simp) ?_ ?_
    · rw [List.map_map]
      exact Nat.le_trans (sum_le (c := 2) fun x _ => Nat.le_refl _) (by omega)
    · walk_at "ev"
      exact fin_same hS
/-! ### numbers_in -/
def isDig (c : Nat) : Bool := decide (48 ≤ c ∧ c < 58)
theorem mem_digL {c : Nat} : decide (c ∈ digL) = isDig c := by
  unfold isDig digL
  by_cases h : 48 ≤ c ∧ c < 58
  · rw [decide_eq_true h]
    have : c = 48 ∨ c = 49 ∨ c = 50 ∨ c = 51 ∨ c = 52 ∨ c = 53 ∨ c = 54 ∨ c = 55 ∨ c = 56 ∨ c = 57 := by omega
    exact decide_eq_true (by simpa using this)
  · rw [decide_eq_false h]
    refine decide_eq_false fun hm => ?_
    simp at hm
    omega
/-- pairs of digits as numbers -/
def prs : List Nat → List Int
  | a :: b :: r => (((a - 48) * 10 + (b - 48) : Nat) : Int) :: prs r
  | _ => []
theorem prs_flat : ∀ {ns : List Int}, (∀ x ∈ ns, 0 ≤ x ∧ x < 97) → prs (flatD ns) = ns
  | [], _ => rfl
  | x :: ns, h => by
    have hx := h x (List.mem_cons_self ..)
    have ih := prs_flat (ns := ns) fun y hy => h y (List.mem_cons_of_mem _ hy)
    show (((48 + (x / 10).toNat - 48) * 10 + (48 + (x % 10).toNat - 48) : Nat) : Int) :: prs (flatD ns) = _
    rw [ih]
    congr 1
    omega
theorem prs_len : ∀ (m : Nat) (l : List Nat), l.length = 2 * m → (prs l).length = m
  | 0, l, h => by
    have := List.eq_nil_of_length_eq_zero h
    subst this
    rfl
  | m + 1, [], h => by simp at h
  | m + 1, [a], h => by simp at h; omega
  | m + 1, a :: b :: r, h => by
    rw [prs, List.length_cons, prs_len m r (by simp at h; omega)]
theorem prs_get : ∀ (i : Nat) (l : List Nat), 2 * i + 1 < l.length → (prs l)[i]? = some (((l.getD (2 * i) 0 - 48) * 10 + (l.getD (2 * i + 1) 0 - 48) : Nat) : Int)
  | i, [], h => by simp at h
  | i, [a], h => by simp at h
  | 0, a :: b :: r, h => rfl
  | i + 1, a :: b :: r, h => by
    rw [prs, List.getElem?_cons_succ, prs_get i r (by simp at h; omega)]
    rfl
def numsIn (l : List Nat) : Option (List Int) := if l.length = 120 ∧ l.all isDig = true ∧ (prs l).all (· < 97) = true then some (prs l) else none
def optL : Option (List Int) → D
  | none => .non
  | some ns => .lst (dint ns)
theorem two_of {l : List Nat} {i : Nat} (h : i + 1 < l.length) : (l.drop i).take 2 = [l.getD i 0, l.getD (i + 1) 0] := by
  rw [List.drop_eq_getElem_cons (show i < l.length by omega), List.drop_eq_getElem_cons h, List.getD_eq_getElem?_getD, List.getD_eq_getElem?_getD, List.getElem?_eq_getElem (show i < l.length by omega), List.getElem?_eq_getElem h]
  rfl
theorem int_pair {a b : Nat} (ha : isDig a = true) (hb : isDig b = true) : PySem.intText? (st [a, b]) = some (((a - 48) * 10 + (b - 48) : Nat) : Int) := by
  unfold isDig at ha hb
  have ha := of_decide_eq_true ha
  have hb := of_decide_eq_true hb
  have := int_two ⟨a - 48, by omega⟩ ⟨b - 48, by omega⟩
  simp only [show 48 + (a - 48) = a by omega, show 48 + (b - 48) = b by omega] at this
  exact this
theorem wM_intT {l : List Nat} {i : Int} {μ : Store} {Q : KE} (h : PySem.intText? (st l) = some i) (hl : l.length ≤ 640) (q : Q (.dat (.int i)) μ) : wM (oInt.sem [.dat (.str (st l))] μ) Q := by
  refine ⟨_, _, ?_, q⟩
  show (if (st l).length ≤ 640 then match PySem.intText? (st l) with
        | some n => some (Val.dat (.int n), μ)
        | none => none
      else none) = _
  rw [if_pos (by rw [st_length]; exact hl), h]
theorem wM_maxI {v : Val} {ns : List Int} {μ : Store} {Q : KE} (h : rdL v μ = some (vint ns)) (h0 : ns ≠ []) (q : ∀ m, m ∈ ns → (∀ y ∈ ns, y ≤ m) → Q (.dat (.int m)) μ) : wM (oMax.sem [v] μ) Q := by
  cases ns with
  | nil => exact absurd rfl h0
  | cons x ns =>
    obtain ⟨h1, h2⟩ := EV.fold_max ns x
    refine ⟨_, _, ?_, q _ h1 h2⟩
    show (match rdL v μ with
      | some us => match intsOf us with
        | some (n :: ns) => some (Val.dat (.int (maxI (n :: ns))), μ)
        | _ => none
      | none => none) = _
    have e : vint (x :: ns) = (x :: ns).map fun s => Val.dat (.int s) := by simp [vint]
    rw [h, e]
    simp only [intsOf_map]
    rfl
theorem run_numbers_in (n k : Nat) (μ : Store) (l : List Nat) (hl : l.length ≤ 1000) (hn : 1001 < n) (hS : Shut μ) :
    evCall pr n (k + 1) 16 [.dat (.str (st l))] μ = some (.dat (optL (numsIn l)), μ) := by
  refine run_of2 [some (.dat (.str (st l))), none, none, none] rfl rfl rfl ?_
  unfold R_numbers_in
  walk_at "ev1"
  refine wS_ifB (¬ (l.length = 120 ∧ l.all isDig = true)) ?_ (fun hB => ?_) (fun hB => ?_)
  · walk_at "ev"
    refine iteF ?_
    walk_at "ev"
    refine wM_lenT (Nat.le_trans hl (by decide)) ?_
    walk_at "ev"
    refine iteB (fun g1 => ?_) (fun g1 => ?_)
    · have g1 : ¬ l.length = 120 := by
        have := of_decide_eq_false (by simpa using g1)
        omega
      refine ⟨?_, rfl⟩
      simp [g1]
    · have g1 : l.length = 120 := by
        have := of_decide_eq_true (by simpa using g1)
        omega
      walk_at "ev"
      refine lcMS (s := st l) (fun c => .dat (.bl (isDig c))) ?_ ?_ (fun c hc => ?_) ?_
      · rw [st_toList]; show _ < n; omega
      · rw [st_toList]; exact Nat.le_trans hl (by decide)
      · refine lcStep_map (ρ2 := [some (.dat (.str (st l))), some (sgn c), none, none]) rfl ?_
        walk_at "ev1"
        walk_at "ev"
        rw [lit_dig]
        rw [if_neg Bool.false_ne_true, st_toList, mem_digL]
        exact ⟨rfl, rfl⟩
      · rw [st_toList]
        refine mk_dats (ds := l.map fun c => .bl (isDig c)) (by simp) ?_
        walk_at "ev"
        refine wM_allB (bs := l.map isDig) (by show some _ = _; simp) ?_
        walk_at "ev"
        refine ⟨?_, rfl⟩
        simp only [g1, true_and]
        rw [List.all_map]
        by_cases h : l.all isDig = true
        · simp [h]
        · simp [h]
  · walk_at "ev"
    have : numsIn l = none := if_neg fun h => hB ⟨h.1, h.2.1⟩
    rw [this]
    exact fin_same hS
  · obtain ⟨h1, h2⟩ := Classical.not_not.mp hB
    have hd : ∀ c ∈ l, isDig c = true := fun c hc => List.all_eq_true.mp h2 c hc
    walk_at "ev"
    rw [show (Builtin.Range.rangeSize 0 (2 * 60) 2).toNat = 60 by decide]
    refine lcMR (fun v => match v with | .dat (.int x) => .dat (.int (((l.getD x.toNat 0 - 48) * 10 + (l.getD (x.toNat + 1) 0 - 48) : Nat) : Int)) | v => v) ?_ ?_ (fun j hj => ?_) ?_
    · show 60 < n; omega
    · decide
    · refine lcStep_map (ρ2 := [some (.dat (.str (st l))), none, none, some (.dat (.int (0 + (j : Nat) * 2)))]) rfl ?_
      walk_at "ev"
      refine wM_slT (i := 2 * j) (j := 2 * j + 2) ?_ ?_ (Nat.le_trans hl (by decide)) ?_
      · congr 1; omega
      · congr 1
        show (0 + (j : Int) * 2 + 2) = _
        omega
      · walk_at "ev"
        rw [show 2 * j + 2 - 2 * j = 2 by omega, two_of (by omega)]
        refine wM_intT (int_pair (hd _ ?_) (hd _ ?_)) (by simp) ?_
        · rw [List.getD_eq_getElem?_getD, List.getElem?_eq_getElem (show 2 * j < l.length by omega)]
          exact List.getElem_mem _
        · rw [List.getD_eq_getElem?_getD, List.getElem?_eq_getElem (show 2 * j + 1 < l.length by omega)]
          exact List.getElem_mem _
        · refine ⟨?_, rfl⟩
          simp only [show (0 + (j : Int) * 2).toNat = 2 * j by omega]
    · have e : (rgL 0 2 60).map (fun v => match v with | .dat (.int x) => Val.dat (.int (((l.getD x.toNat 0 - 48) * 10 + (l.getD (x.toNat + 1) 0 - 48) : Nat) : Int)) | v => v) = (dint (prs l)).map .dat := by
        refine List.ext_getElem? fun i => ?_
        by_cases hi : i < 60
        · simp only [rgL, dint, List.getElem?_map, List.getElem?_range hi, prs_get i l (by omega), Option.map_some]
          simp only [show (0 + (i : Int) * 2).toNat = 2 * i by omega]
        · rw [List.getElem?_eq_none (by simp [rgL]; omega), List.getElem?_eq_none (by simp [dint, prs_len 60 l (by omega)]; omega)]
      refine mk_dats e ?_
      have hne : prs l ≠ [] := fun h => by
        have := prs_len 60 l (by omega)
        rw [h] at this
        cases this
      walk_at "ev1"
      walk_at "ev1"
      refine wE_ifB ((prs l).all (· < 97) = true) ?_ (fun hB => ?_) (fun hB => ?_)
      · walk_at "ev"
        refine wM_maxI rfl hne (fun m hm hle => ?_)
        walk_at "ev"
        refine ⟨?_, rfl⟩
        by_cases g : m < 97
        · rw [decide_eq_true g, decide_eq_true]
          exact List.all_eq_true.mpr fun y hy => decide_eq_true (by have := hle y hy; omega)
        · rw [decide_eq_false g, decide_eq_false]
          intro h
          exact g (of_decide_eq_true (List.all_eq_true.mp h m hm))
      · walk_at "ev"
        have : numsIn l = some (prs l) := if_pos ⟨h1, h2, hB⟩
        rw [this]
        exact fin_same hS
      · walk_at "ev"
        have : numsIn l = none := if_neg fun h => hB h.2.2
        rw [this]
        exact fin_same hS
end K54

namespace K54
open PySem PySem.Spec PyProof.Rows L2 EV
local macro_rules | `(tactic| walk_at "ev1") => `(tactic| with_reducible first
  | (refine' wE_var ?hh ?_; (case hh => with_unfolding_all exact rfl)) | refine wE_int ?_ | refine wE_str ?_ | refine wE_non ?_ | refine wE_bl ?_ | refine wL_nil ?_ | refine wL_cons ?_
  | refine wE_app ?_ | refine wE_bm ?_ | refine wE_sl ?_ | refine wO_no ?_ | refine wO_so ?_ | refine wE_mth ?_ | refine wE_fld ?_ | refine wE_new ?_ | refine wE_call ?_
  | refine wE_ifx ?_ | refine wE_and ?_ | refine wE_or ?_ | refine wE_chain ?_ | refine wE_frz ?_ | refine wE_lc ?_
  | refine wT_tr ?_ | refine wT_bv ?_ | refine wT_and ?_ | refine wT_or ?_ | refine wT_not ?_ | refine wT_yes ?_
  | refine wS_seq ?_ | refine wS_set ?_ | refine wS_asg ?_ | refine wS_setI ?_ | refine wS_setF ?_ | refine wS_drop ?_ | refine wS_ret ?_ | refine wS_retN ?_ | refine wS_nx ?_ | refine wS_brk ?_ | refine wS_cnt ?_
  | refine kSeq_nx ?_ | refine kSeq_rt ?_ | refine kSeq_bk ?_ | refine kSeq_ct ?_)
local macro_rules | `(tactic| walk_at "ev2") => `(tactic| first
  | ((with_reducible refine' wM_ixB ?hh ?hi ?_); (case hh => first | assumption | exact get_snoc_eq); (case hi => exact rfl)) | (with_reducible refine wM_lenDL ?_) | (with_reducible refine wM_eqI ?_) | (with_reducible refine wM_neI ?_) | (with_reducible refine wM_slL ?_) | (with_reducible refine wM_mul (by omega) ?_) | (with_reducible refine wM_mod (by first | assumption | decide) ?_) | (with_reducible refine wM_div (by first | assumption | decide) ?_)
  | ((with_reducible refine' wM_of ?hh ?_); (case hh => exact rfl)) | ((with_reducible refine' wB_of ?hh ?_); (case hh => exact rfl))
  | ((with_reducible refine' iteY ?hb ?_); (case hb => exact rfl)) | ((with_reducible refine' iteZ ?hb ?_); (case hb => exact rfl)) | refine ⟨_, rfl, ?_⟩ | refine ⟨rfl, ?_⟩ | refine ⟨_, _, _, _, rfl, rfl, (by first | assumption | exact get_snoc_eq), rfl, ?_⟩ | refine ⟨_, _, _, _, rfl, rfl, rfl, rfl, ?_⟩ | refine ⟨_, _, _, rfl, rfl, rfl, rfl, ?_⟩ | refine ⟨_, _, rfl, rfl, rfl, ?_⟩)
local macro_rules | `(tactic| walk_at "done") => `(tactic| first | exact rfl | exact ⟨rfl, rfl⟩ | exact ⟨_, rfl, rfl⟩ | exact ⟨_, _, rfl, rfl⟩ | exact ⟨rfl, _, rfl, rfl⟩ | exact ⟨rfl, _, _, rfl, rfl⟩)
local macro_rules | `(tactic| walk_at "ev") => `(tactic| repeat (first | walk_at "ev1" | walk_at "ev2"))
theorem szl : sizeLine = 16777216 := rfl
/-! ### lists of ints -/
theorem flVs_ints : ∀ ns : List Int, flVs (vint ns) = some (ns.map V.int)
  | [] => rfl
  | x :: ns => by
    have ih := flVs_ints ns
    show (match flV (.dat (.int x)), flVs (vint ns) with
      | some x, some xs => some (x :: xs)
      | _, _ => none) = _
    rw [ih]
    rfl
theorem inV_ints (x : Int) : ∀ ns : List Int, inV (.int x) (ns.map V.int) = decide (x ∈ ns)
  | [] => by simp [inV]
  | y :: ns => by
    have ih := inV_ints x ns
    unfold inV at ih ⊢
    rw [List.map_cons, List.any_cons, ih]
    show ((y == x) || decide (x ∈ ns)) = _
    by_cases h : y = x
    · subst h; simp
    · have h2 : ¬ x = y := fun e => h e.symm
      simp [h, h2]
theorem wM_inI {x : Int} {v : Val} {ns : List Int} {μ : Store} {Q : KE} (h : seqOf v μ = some (vint ns)) (q : Q (.dat (.bl (decide (x ∈ ns)))) μ) : wM ((oIn false).sem [.dat (.int x), v] μ) Q := by
  refine ⟨_, _, ?_, q⟩
  show (match flV (.dat (.int x)), seqOf v μ with
    | some x, some us => match flVs us with
      | some xs => some (Val.dat (.bl (if false = true then !inV x xs else inV x xs)), μ)
      | none => none
    | _, _ => none) = _
  rw [h]
  show (match flVs (vint ns) with
      | some xs => some (Val.dat (.bl (if false = true then !inV (.int x) xs else inV (.int x) xs)), μ)
      | none => none) = _
  rw [flVs_ints]
  simp only [inV_ints]
  rfl
theorem wM_niI {x : Int} {v : Val} {ns : List Int} {μ : Store} {Q : KE} (h : seqOf v μ = some (vint ns)) (q : Q (.dat (.bl (!decide (x ∈ ns)))) μ) : wM ((oIn true).sem [.dat (.int x), v] μ) Q := by
  refine ⟨_, _, ?_, q⟩
  show (match flV (.dat (.int x)), seqOf v μ with
    | some x, some us => match flVs us with
      | some xs => some (Val.dat (.bl (if true = true then !inV x xs else inV x xs)), μ)
      | none => none
    | _, _ => none) = _
  rw [h]
  show (match flVs (vint ns) with
      | some xs => some (Val.dat (.bl (if true = true then !inV (.int x) xs else inV (.int x) xs)), μ)
      | none => none) = _
  rw [flVs_ints]
  simp only [inV_ints]
  rfl
theorem idx_ints (x : Int) (ns : List Int) (hx : x ∈ ns) : (ns.map V.int).findIdx? (fun z => eqV z (.int x)) = some (ns.idxOf x) := by
  rw [List.findIdx?_map]
  show ns.findIdx? (fun y => y == x) = _
  rw [List.idxOf, List.findIdx?_eq_some_of_exists]
  exact ⟨x, hx, by simp⟩
theorem wM_indexI {x : Int} {v : Val} {ns : List Int} {μ : Store} {Q : KE} (h : rdL v μ = some (vint ns)) (hx : x ∈ ns) (q : Q (.dat (.int (ns.idxOf x : Nat))) μ) : wM (mIndexL.sem v [.dat (.int x)] μ) Q := by
  refine ⟨_, _, ?_, q⟩
  show (match rdL v μ, flV (.dat (.int x)) with
      | some us, some fy => match flVs us with
        | some fs => match fs.findIdx? (fun z => eqV z fy) with
          | some j => some (Val.dat (.int j), μ)
          | none => none
        | none => none
      | _, _ => none) = _
  rw [h]
  show (match flVs (vint ns) with
        | some fs => match fs.findIdx? (fun z => eqV z (.int x)) with
          | some j => some (Val.dat (.int j), μ)
          | none => none
        | none => none) = _
  rw [flVs_ints]
  simp only
  rw [idx_ints x ns hx]
/-! ### signs_in -/
theorem righted_len {ns r : List Int} (h : righted ns = some r) : r.length = ns.length := by
  unfold righted at h
  simp only at h
  split at h
  · cases h; rfl
  · split at h
    · cases h
    · split at h
      · cases h; rw [List.length_set]
      · cases h
def signsIn (l : List Nat) (k : Int) : Option (List Int) := match numsIn l with
  | none => none
  | some ns => match righted ns with
    | none => none
    | some r => if 97 * r.getD 0 0 + r.getD 1 0 = k then some ((r.drop 2).take 55) else none
theorem cutG_ints (ns : List Int) (i j : Nat) : cutG (dint ns) (some (i : Int)) (some (j : Int)) = dint ((ns.drop i).take (j - i)) := by
  rw [cutG_nat, dint, dint, List.map_take, List.map_drop]
theorem run_signs_in (n k : Nat) (μ : Store) (l : List Nat) (j : Int) (hl : l.length ≤ 1000) (hn : 1001 < n) (hS : Shut μ) :
    evCall pr n (k + 3) 18 [.dat (.str (st l)), .dat (.int j)] μ = some (.dat (optL (signsIn l j)), μ) := by
  refine run_of2 [some (.dat (.str (st l))), some (.dat (.int j)), none, none] rfl rfl rfl ?_
  unfold R_signs_in
  walk_at "ev"
  refine wM_of (run_numbers_in n (k + 1) μ l hl hn hS) ?_
  cases hN : numsIn l with
  | none =>
    show kSeq _ _ _ _ _ _
    walk_at "ev"
    refine wS_ifs ?_
    walk_at "ev"
    walk_at "ev"
    rw [show signsIn l j = none by simp [signsIn, hN]]
    exact fin_same hS
  | some ns =>
    have hlen : ns.length = 60 := by
      unfold numsIn at hN
      split at hN
      · rename_i h
        cases hN
        exact prs_len 60 l (by omega)
      · cases hN
    show kSeq _ _ _ _ _ _
    walk_at "ev"
    walk_at "ev"
    refine wM_of (run_righted n k μ (.dat (.lst (dint ns))) ns rfl rfl hlen hn hS) ?_
    cases hR : righted ns with
    | none =>
      walk_at "ev"
      refine wS_ifs ?_
      walk_at "ev"
      walk_at "ev"
      rw [show signsIn l j = none by simp [signsIn, hN, hR]]
      exact fin_same hS
    | some r =>
      have hr := righted_len hR
      have g0 : (dint r)[0]? = some (.int (r.getD 0 0)) := by rw [List.getElem?_map, List.getD_eq_getElem?_getD, List.getElem?_eq_getElem (show 0 < r.length by omega)]; rfl
      have g1 : (dint r)[1]? = some (.int (r.getD 1 0)) := by rw [List.getElem?_map, List.getD_eq_getElem?_getD, List.getElem?_eq_getElem (show 1 < r.length by omega)]; rfl
      walk_at "ev"
      refine wS_ifB (¬ (97 * r.getD 0 0 + r.getD 1 0 = j)) ?_ (fun hB => ?_) (fun hB => ?_)
      · walk_at "ev"
        refine wM_ixD (atI_at (j := 0) rfl g0) ?_
        walk_at "ev"
        refine wM_ixD (atI_at (j := 1) rfl g1) ?_
        walk_at "ev"
        refine ⟨?_, rfl⟩
        simp
      · walk_at "ev"
        rw [show signsIn l j = none by simp only [signsIn, hN, hR, if_neg hB]]
        exact fin_same hS
      · walk_at "ev"
        refine wM_slL (ds := dint r) ?_
        walk_at "ev"
        rw [show signsIn l j = some ((r.drop 2).take 55) by simp only [signsIn, hN, hR, if_pos (Classical.not_not.mp hB)]]
        rw [show (2 : Int) + 55 = ((57 : Nat) : Int) from rfl, show (some (2 : Int)) = some ((2 : Nat) : Int) from rfl, cutG_ints]
        exact fin_same hS
end K54

namespace K54
open PySem PySem.Spec PyProof.Rows L2 EV
local macro_rules | `(tactic| walk_at "ev1") => `(tactic| with_reducible first
  | (refine' wE_var ?hh ?_; (case hh => with_unfolding_all exact rfl)) | refine wE_int ?_ | refine wE_str ?_ | refine wE_non ?_ | refine wE_bl ?_ | refine wL_nil ?_ | refine wL_cons ?_
  | refine wE_app ?_ | refine wE_bm ?_ | refine wE_sl ?_ | refine wO_no ?_ | refine wO_so ?_ | refine wE_mth ?_ | refine wE_fld ?_ | refine wE_new ?_ | refine wE_call ?_
  | refine wE_ifx ?_ | refine wE_and ?_ | refine wE_or ?_ | refine wE_chain ?_ | refine wE_frz ?_ | refine wE_lc ?_
  | refine wT_tr ?_ | refine wT_bv ?_ | refine wT_and ?_ | refine wT_or ?_ | refine wT_not ?_ | refine wT_yes ?_
  | refine wS_seq ?_ | refine wS_set ?_ | refine wS_asg ?_ | refine wS_setI ?_ | refine wS_setF ?_ | refine wS_drop ?_ | refine wS_ret ?_ | refine wS_retN ?_ | refine wS_nx ?_ | refine wS_brk ?_ | refine wS_cnt ?_
  | refine kSeq_nx ?_ | refine kSeq_rt ?_ | refine kSeq_bk ?_ | refine kSeq_ct ?_)
local macro_rules | `(tactic| walk_at "ev2") => `(tactic| first
  | ((with_reducible refine' wM_ixB ?hh ?hi ?_); (case hh => first | assumption | exact get_snoc_eq); (case hi => exact rfl)) | (with_reducible refine wM_lenDL ?_) | (with_reducible refine wM_eqI ?_) | (with_reducible refine wM_neI ?_) | (with_reducible refine wM_slL ?_) | (with_reducible refine wM_mul (by omega) ?_) | (with_reducible refine wM_mod (by first | assumption | decide) ?_) | (with_reducible refine wM_div (by first | assumption | decide) ?_)
  | ((with_reducible refine' wM_of ?hh ?_); (case hh => exact rfl)) | ((with_reducible refine' wB_of ?hh ?_); (case hh => exact rfl))
  | ((with_reducible refine' iteY ?hb ?_); (case hb => exact rfl)) | ((with_reducible refine' iteZ ?hb ?_); (case hb => exact rfl)) | refine ⟨_, rfl, ?_⟩ | refine ⟨rfl, ?_⟩ | refine ⟨_, _, _, _, rfl, rfl, (by first | assumption | exact get_snoc_eq), rfl, ?_⟩ | refine ⟨_, _, _, _, rfl, rfl, rfl, rfl, ?_⟩ | refine ⟨_, _, _, rfl, rfl, rfl, rfl, ?_⟩ | refine ⟨_, _, rfl, rfl, rfl, ?_⟩)
local macro_rules | `(tactic| walk_at "done") => `(tactic| first | exact rfl | exact ⟨rfl, rfl⟩ | exact ⟨_, rfl, rfl⟩ | exact ⟨_, _, rfl, rfl⟩ | exact ⟨rfl, _, rfl, rfl⟩ | exact ⟨rfl, _, _, rfl, rfl⟩)
local macro_rules | `(tactic| walk_at "ev") => `(tactic| repeat (first | walk_at "ev1" | walk_at "ev2"))
/-! ### lines_of -/
def idxS (c : Nat) : Int := (sgL.idxOf c : Nat) + 1
def told (l : List Nat) : List Int := l.map idxS ++ [74]
def nLines (l : List Nat) : Nat := (l.length + 1 + 54) / 55
def padded (l : List Nat) : List Int := told l ++ List.replicate (nLines l * 55 - (l.length + 1)) 0
def chunk (l : List Nat) (i : Nat) : List Int := ((padded l).drop (i * 55)).take 55
def lineN (l : List Nat) (i : Nat) : List Nat := flatD (lineOf ((i : Int) + 1) (chunk l i))
def linesOf (l : List Nat) : List (List Nat) := (List.range (nLines l)).map (lineN l)
abbrev dstr (ls : List (List Nat)) : List D := ls.map fun x => D.str (st x)
theorem index_sg : ∀ c ∈ sgL, Txt.index0 c_SIGNS ⟨#[c]⟩ = some (sgL.idxOf c) := by decide +kernel
theorem wM_idxS {c : Nat} {μ : Store} {Q : KE} (hc : c ∈ sgL) (q : Q (.dat (.int (sgL.idxOf c : Nat))) μ) : wM (mIndexS.sem (.dat (.str c_SIGNS)) [sgn c] μ) Q := by
  refine ⟨_, _, ?_, q⟩
  show (match Txt.index0 c_SIGNS ⟨#[c]⟩ with
      | some k => some (Val.dat (.int k), μ)
      | none => none) = _
  rw [index_sg c hc]
theorem sg_lt : ∀ c ∈ sgL, c < 128 ∧ sgL.idxOf c < 73 ∧ sgL.getD (sgL.idxOf c) 0 = c := by decide +kernel
theorem idxS_bd {c : Nat} (h : c ∈ sgL) : 0 < idxS c ∧ idxS c < 74 := by
  have := (sg_lt c h).2.1
  unfold idxS
  omega
theorem told_bd {l : List Nat} (h : ∀ c ∈ l, c ∈ sgL) : ∀ x ∈ told l, 0 ≤ x ∧ x < 97 := by
  intro x hx
  rcases List.mem_append.mp hx with hx | hx
  · obtain ⟨c, hc, rfl⟩ := List.mem_map.mp hx
    have := idxS_bd (h c hc)
    omega
  · simp at hx; omega
theorem padded_bd {l : List Nat} (h : ∀ c ∈ l, c ∈ sgL) : ∀ x ∈ padded l, 0 ≤ x ∧ x < 97 := by
  intro x hx
  rcases List.mem_append.mp hx with hx | hx
  · exact told_bd h x hx
  · have := List.eq_of_mem_replicate hx
    omega
theorem told_len (l : List Nat) : (told l).length = l.length + 1 := by simp [told]
theorem padded_len (l : List Nat) : (padded l).length = nLines l * 55 := by
  unfold padded
  rw [List.length_append, told_len, List.length_replicate]
  unfold nLines
  omega
theorem chunk_len {l : List Nat} {i : Nat} (h : i < nLines l) : (chunk l i).length = 55 := by
  unfold chunk
  rw [List.length_take, List.length_drop, padded_len]
  omega
theorem chunk_bd {l : List Nat} (h : ∀ c ∈ l, c ∈ sgL) (i : Nat) : ∀ x ∈ chunk l i, 0 ≤ x ∧ x < 97 := fun x hx => padded_bd h x (List.mem_of_mem_drop (List.mem_of_mem_take hx))
theorem lineOf_bd {a : Int} {s : List Int} (ha : 0 ≤ a ∧ a < 9409) (hs : ∀ x ∈ s, 0 ≤ x ∧ x < 97) : ∀ x ∈ lineOf a s, 0 ≤ x ∧ x < 97 := by
  intro x hx
  unfold lineOf at hx
  simp only [List.cons_append, List.mem_cons, List.mem_append, List.not_mem_nil, or_false] at hx
  rcases hx with h | h | h | h | h | h
  · omega
  · omega
  · exact hs x h
  · omega
  · omega
  · omega
theorem wM_repL {ds : List D} {k : Int} {μ : Store} {Q : KE} (h : 0 ≤ k ∧ k < 2 ^ 60 ∧ ds.length * k.toNat ≤ sizeLine) (q : Q (.dat (.lst (List.replicate k.toNat ds).flatten)) μ) : wM ((oMul false).sem [.dat (.lst ds), .dat (.int k)] μ) Q := by
  refine ⟨_, _, ?_, q⟩
  show (if -(2 ^ 63) ≤ k ∧ k < 2 ^ 63 ∧ (ds.map Val.dat).length * k.toNat ≤ sizeLine then mkL false (List.replicate k.toNat (ds.map Val.dat)).flatten μ else none) = _
  rw [if_pos ⟨by omega, by omega, by rw [List.length_map]; exact h.2.2⟩, ← List.map_replicate, ← List.map_flatten]
  unfold mkL
  rw [datsOf_map]
  rfl
theorem flat_one (m : Nat) : (List.replicate m [D.int 0]).flatten = dint (List.replicate m 0) := by
  induction m with
  | zero => rfl
  | succ m ih => rw [List.replicate_succ, List.flatten_cons, ih]; rfl
theorem run_lines_of (n k : Nat) (μ : Store) (l : List Nat) (hc : ∀ c ∈ l, c ∈ sgL) (hl : l.length ≤ 40000) (hn : 100000 < n) (hS : Shut μ) :
    evCall pr n (k + 3) 17 [.dat (.str (st l))] μ = some (.dat (.lst (dstr (linesOf l))), μ) := by
  refine run_of2 [some (.dat (.str (st l))), none, none, none, none] rfl rfl rfl ?_
  unfold R_lines_of
  walk_at "ev"
  refine lcMS (s := st l) (fun c => .dat (.int (idxS c))) ?_ ?_ (fun c hc' => ?_) ?_
  · rw [st_toList]; show _ < n; omega
  · rw [st_toList, szl]; omega
  · rw [st_toList] at hc'
    refine lcStep_map (ρ2 := [some (.dat (.str (st l))), none, some (sgn c), none, none]) rfl ?_
    repeat walk_at "ev1"
    refine ⟨rfl, ?_⟩
    repeat walk_at "ev1"
    refine wM_idxS (hc c hc') ?_
    walk_at "ev"
    walk_at "done"
  · rw [st_toList]
    refine mk_dats (ds := dint (l.map idxS)) (by simp [dint]) ?_
    walk_at "ev"
    refine wM_addL (by rw [szl]; show (dint _).length + 1 ≤ _; rw [List.length_map, List.length_map]; omega) ?_
    rw [show dint (l.map idxS) ++ [D.int 74] = dint (told l) by simp [dint, told]]
    repeat walk_at "ev1"
    refine wM_lenDL ?_
    rw [List.length_map, told_len]
    walk_at "ev"
    rw [show -((-(((l.length + 1 : Nat) : Int))) / 55) = ((nLines l : Nat) : Int) by unfold nLines; omega]
    rw [List.length_map, told_len]
    refine wM_repL ⟨?_, ?_, ?_⟩ ?_
    · unfold nLines; omega
    · unfold nLines; omega
    · rw [szl]; show 1 * _ ≤ _; unfold nLines; omega
    rw [flat_one]
    repeat walk_at "ev1"
    refine wM_addL (by rw [szl, List.length_map, List.length_map, List.length_replicate, told_len]; unfold nLines; omega) ?_
    rw [show dint (told l) ++ dint (List.replicate ((nLines l : Int) * 55 - ((l.length + 1 : Nat) : Int)).toNat 0) = dint (padded l) by
      rw [show ((nLines l : Int) * 55 - ((l.length + 1 : Nat) : Int)).toNat = nLines l * 55 - (l.length + 1) by omega]
      simp [dint, padded]]
    repeat walk_at "ev1"
    refine ⟨_, r1_sem ⟨by omega, by unfold nLines; omega⟩, rfl, ?_⟩
    rw [show ((nLines l : Nat) : Int).toNat = nLines l by omega]
    refine lcMR (fun v => match v with | .dat (.int x) => .dat (.str (st (lineN l x.toNat))) | v => v) ?_ ?_ (fun j hj => ?_) ?_
    · show _ < n; unfold nLines; omega
    · rw [szl]; unfold nLines; omega
    · refine lcStep_map (ρ2 := [some (.dat (.str (st l))), some (.dat (.lst (dint (padded l)))), none, some (.dat (.int (nLines l))), some (.dat (.int (0 + (j : Nat) * 1)))]) rfl ?_
      walk_at "ev"
      rw [show (0 + (j : Int) * 1) * 55 = ((j * 55 : Nat) : Int) by omega, show (0 + (j : Int) * 1 + 1) * 55 = ((j * 55 + 55 : Nat) : Int) by omega, cutG_ints, show j * 55 + 55 - j * 55 = 55 by omega]
      walk_at "ev"
      have hlen := chunk_len hj
      refine wM_of (run_line_of n k μ _ (chunk l j) (by omega) (by omega) hS) ?_
      walk_at "ev"
      refine wM_of (run_written n (k + 1) μ _ (lineOf_bd ⟨?_, ?_⟩ (chunk_bd hc j)) (by simp [lineOf, hlen]) (by omega) hS) ?_
      · omega
      · unfold nLines at hj; omega
      · refine ⟨?_, rfl⟩
        simp only [lineN, show (0 + (j : Int) * 1).toNat = j by omega, show (0 + (j : Int) * 1 + 1) = (j : Int) + 1 by omega]
    · refine mk_dats (ds := dstr (linesOf l)) ?_ ?_
      · simp only [rgL, linesOf, dstr, List.map_map]
        refine List.map_congr_left fun j _ => ?_
        simp only [Function.comp, show (0 + (j : Int) * 1).toNat = j by omega]
      · walk_at "ev"
        exact fin_same hS
/-! ### are_of_text -/
def areOf (ns : List Int) : Bool := (ns.take (ns.idxOf 74)).all (fun x => decide (0 < x ∧ x ≤ 73)) && !((ns.drop (ns.idxOf 74 + 1)).any (· != 0))
theorem len_sg : c_SIGNS.length = 73 := by
  rw [lit_signs, st_length]
  rfl
theorem wM_anyI {v : Val} {ns : List Int} {μ : Store} {Q : KE} (h : rdL v μ = some (vint ns)) (q : Q (.dat (.bl (ns.any (· != 0)))) μ) : wM (oAny.sem [v] μ) Q := by
  refine ⟨_, _, ?_, q⟩
  show (match rdL v μ with
      | some us => match blsOf us with
        | some bs => some (Val.dat (.bl (bs.any id)), μ)
        | none => match intsOf us with
          | some ns => some (Val.dat (.bl (ns.any (· != 0))), μ)
          | none => none
      | none => none) = _
  have e : vint ns = ns.map fun s => Val.dat (.int s) := by simp [vint]
  rw [h]
  cases ns with
  | nil => rfl
  | cons x ns =>
    have e2 : blsOf (vint (x :: ns)) = none := rfl
    show (match blsOf (vint (x :: ns)) with
        | some bs => some (Val.dat (.bl (bs.any id)), μ)
        | none => match intsOf (vint (x :: ns)) with
          | some ns => some (Val.dat (.bl (ns.any (· != 0))), μ)
          | none => none) = _
    rw [e2, e, intsOf_map]
theorem run_are_of_text (n k : Nat) (μ : Store) (ns : List Int) (hl : ns.length ≤ 1000) (hn : 1001 < n) (hS : Shut μ) :
    evCall pr n (k + 1) 19 [.dat (.lst (dint ns))] μ = some (.dat (.bl (areOf ns)), μ) := by
  refine run_of2 [some (.dat (.lst (dint ns))), none, none] rfl rfl rfl ?_
  unfold R_are_of_text
  have he : ns.idxOf 74 ≤ ns.length := List.idxOf_le_length
  walk_at "ev1"
  refine wS_mid (fun ρ' μ' => ρ' = [some (.dat (.lst (dint ns))), some (.dat (.int (ns.idxOf (74 : Int) : Nat))), none] ∧ μ = μ') ?_ ?_
  · walk_at "ev1"
    refine wE_ifB ((74 : Int) ∈ ns) ?_ (fun hB => ?_) (fun hB => ?_)
    · repeat walk_at "ev1"
      refine wM_inI (ns := ns) rfl ?_
      walk_at "ev"
      walk_at "done"
    · repeat walk_at "ev1"
      refine ⟨rfl, ?_⟩
      repeat walk_at "ev1"
      refine wM_indexI (ns := ns) rfl hB ?_
      exact ⟨rfl, rfl, rfl⟩
    · repeat walk_at "ev1"
      refine wM_lenDL ?_
      rw [List.length_map, ← List.idxOf_eq_length hB]
      exact ⟨rfl, rfl, rfl⟩
  rintro _ _ ⟨rfl, rfl⟩
  generalize hE : ns.idxOf (74 : Int) = E at *
  walk_at "ev"
  rw [cutG_nat0, ← List.map_take]
  refine lcML (v := .dat (.lst (dint (ns.take E)))) (us := vint (ns.take E)) (fun v => match v with | .dat (.int x) => .dat (.bl (decide (0 < x ∧ x ≤ 73))) | v => v) ?_ ?_ ?_ (fun v hv => ?_) ?_
  · exact rfl
  · show _ < n; simp [vint]; omega
  · simp [vint, szl]; omega
  · simp only [vint, List.mem_map] at hv
    obtain ⟨_, ⟨x, hx, rfl⟩, rfl⟩ := hv
    refine lcStep_map (ρ2 := [some (.dat (.lst (dint ns))), some (.dat (.int (E : Nat))), some (.dat (.int x))]) rfl ?_
    walk_at "ev"
    refine iteB (fun g => ?_) (fun g => ?_)
    · have g := of_decide_eq_true g
      walk_at "ev"
      refine ⟨?_, rfl⟩
      simp [g, len_sg]
      rfl
    · have g := of_decide_eq_false g
      refine ⟨?_, rfl⟩
      simp [g]
  · refine mk_dats (ds := (ns.take E).map fun x => .bl (decide (0 < x ∧ x ≤ 73))) (by simp only [vint, List.map_map]; rfl) ?_
    walk_at "ev"
    refine wM_allB (bs := (ns.take E).map fun x => decide (0 < x ∧ x ≤ 73)) (by show some _ = _; simp only [List.map_map]; rfl) ?_
    walk_at "ev"
    rw [List.all_map]
    refine iteB (fun g => ?_) (fun g => ?_)
    · walk_at "ev"
      rw [show (E : Int) + 1 = ((E + 1 : Nat) : Int) by omega, cutG_nat1, ← List.map_drop]
      refine wM_anyI (ns := ns.drop (E + 1)) rfl ?_
      walk_at "ev"
      rw [show areOf ns = !((ns.drop (E + 1)).any (· != 0)) by
        unfold areOf
        rw [hE, show (ns.take E).all (fun x => decide (0 < x ∧ x ≤ 73)) = true from g]
        rfl]
      exact fin_same hS
    · walk_at "ev"
      rw [show areOf ns = false by
        unfold areOf
        rw [hE, show (ns.take E).all (fun x => decide (0 < x ∧ x ≤ 73)) = false from g]
        rfl]
      exact fin_same hS
end K54

namespace K54
open PySem PySem.Spec PyProof.Rows L2 EV
local macro_rules | `(tactic| walk_at "ev1") => `(tactic| with_reducible first
  | (refine' wE_var ?hh ?_; (case hh => with_unfolding_all exact rfl)) | refine wE_int ?_ | refine wE_str ?_ | refine wE_non ?_ | refine wE_bl ?_ | refine wL_nil ?_ | refine wL_cons ?_
  | refine wE_app ?_ | refine wE_bm ?_ | refine wE_sl ?_ | refine wO_no ?_ | refine wO_so ?_ | refine wE_call ?_
  | refine wE_ifx ?_ | refine wE_and ?_ | refine wE_or ?_ | refine wE_chain ?_ | refine wE_frz ?_ | refine wE_lc ?_
  | refine wT_tr ?_ | refine wT_bv ?_ | refine wT_and ?_ | refine wT_or ?_ | refine wT_not ?_ | refine wT_yes ?_
  | refine wS_seq ?_ | refine wS_set ?_ | refine wS_asg ?_ | refine wS_setI ?_ | refine wS_drop ?_ | refine wS_ret ?_ | refine wS_retN ?_ | refine wS_nx ?_ | refine wS_brk ?_ | refine wS_cnt ?_
  | refine kSeq_nx ?_ | refine kSeq_rt ?_ | refine kSeq_bk ?_ | refine kSeq_ct ?_)
local macro_rules | `(tactic| walk_at "ev2") => `(tactic| first
  | ((with_reducible refine' wM_ixB ?hh ?hi ?_); (case hh => first | assumption | exact get_snoc_eq); (case hi => exact rfl)) | (with_reducible refine wM_lenDL ?_) | (with_reducible refine wM_eqI ?_) | (with_reducible refine wM_neI ?_) | (with_reducible refine wM_slL ?_) | (with_reducible refine wM_mul (by omega) ?_) | (with_reducible refine wM_mod (by first | assumption | decide) ?_) | (with_reducible refine wM_div (by first | assumption | decide) ?_)
  | ((with_reducible refine' wM_of ?hh ?_); (case hh => exact rfl)) | ((with_reducible refine' wB_of ?hh ?_); (case hh => exact rfl))
  | ((with_reducible refine' iteY ?hb ?_); (case hb => exact rfl)) | ((with_reducible refine' iteZ ?hb ?_); (case hb => exact rfl)) | refine ⟨_, rfl, ?_⟩ | refine ⟨rfl, ?_⟩ | refine ⟨_, _, _, _, rfl, rfl, (by first | assumption | exact get_snoc_eq), rfl, ?_⟩ | refine ⟨_, _, _, _, rfl, rfl, rfl, rfl, ?_⟩ | refine ⟨_, _, _, rfl, rfl, rfl, rfl, ?_⟩ | refine ⟨_, _, rfl, rfl, rfl, ?_⟩)
local macro_rules | `(tactic| walk_at "done") => `(tactic| first | exact rfl | exact ⟨rfl, rfl⟩ | exact ⟨_, rfl, rfl⟩ | exact ⟨_, _, rfl, rfl⟩ | exact ⟨rfl, _, rfl, rfl⟩ | exact ⟨rfl, _, _, rfl, rfl⟩)
local macro_rules | `(tactic| walk_at "ev") => `(tactic| repeat (first | walk_at "ev1" | walk_at "ev2"))
/-! ### signs_of -/
def joinC : List (List Nat) → List Nat
  | [] => []
  | [x] => x
  | x :: y :: r => x ++ 44 :: joinC (y :: r)
def endC (m : Nat) : List Nat := if m = 1 then [44, 41] else [41]
/-- the signs of an int -/
def sgI (i : Int) : List Nat := if i < 0 then 45 :: TL.numL (-i).toNat else TL.numL i.toNat
theorem str_neg (n : Nat) : Str.ofString (toString (Int.negSucc n)) = st (45 :: TL.numL (n + 1)) := by
  have h := SX.num_S (n + 1)
  have e1 : toString (Int.negSucc n) = "-" ++ toString ((n + 1 : Nat) : Int) := rfl
  rw [e1, Str.ofString_eq_toList, String.toList_append]
  rw [Str.ofString_eq_toList] at h
  have h2 : ((toString ((n + 1 : Nat) : Int)).toList.map Char.toNat) = TL.numL (n + 1) := by
    have := congrArg (fun x : Str => x.cps.toList) h
    simpa using this
  show (⟨(("-".toList ++ (toString ((n + 1 : Nat) : Int)).toList).map Char.toNat).toArray⟩ : Str) = ⟨(45 :: TL.numL (n + 1)).toArray⟩
  rw [List.map_append, h2]
  rfl
theorem str_int (i : Int) : Str.ofString (toString i) = st (sgI i) := by
  unfold sgI
  cases i with
  | ofNat n =>
    have e : ¬ (Int.ofNat n < 0) := by
      show ¬ ((n : Int) < 0)
      omega
    rw [if_neg e]
    exact SX.num_S n
  | negSucc n =>
    rw [if_pos (by omega), str_neg]
    congr 2
theorem numL_dig {n : Nat} : ∀ c ∈ TL.numL n, isDig c = true := fun c hc => by
  have := TL.numL_digits n c hc
  exact decide_eq_true (by omega)
theorem wM_strI {i : Int} {μ : Store} {Q : KE} (h : i.natAbs < 10 ^ 400) (q : Q (.dat (.str (st (sgI i)))) μ) : wM (oStr.sem [.dat (.int i)] μ) Q := by
  refine ⟨_, _, ?_, q⟩
  show (if i.natAbs.log2 < 1920 then some (Val.dat (.str (Str.ofString (toString i))), μ) else none) = _
  rw [if_pos, str_int]
  by_cases e : i.natAbs = 0
  · rw [e]; decide
  · exact (Nat.log2_lt e).mpr (Nat.lt_trans h (by decide +kernel))
mutual
def sgD : D → List Nat
  | .str s => 34 :: (s.cps.toList ++ [34])
  | .int i => sgI i
  | .tup ds => 40 :: (joinC (sgs ds) ++ endC ds.length)
  | _ => []
def sgs : List D → List (List Nat)
  | [] => []
  | d :: ds => sgD d :: sgs ds
end
theorem sgs_map : ∀ ds : List D, sgs ds = ds.map sgD
  | [] => rfl
  | d :: ds => by rw [sgs, sgs_map ds]; rfl
mutual
def plain : D → Bool
  | .str s => s.cps.toList.all fun c => decide (c ∈ sgL ∧ c ≠ 34)
  | .int i => decide (i.natAbs < 10 ^ 400)
  | .tup ds => plains ds
  | _ => false
def plains : List D → Bool
  | [] => true
  | d :: ds => plain d && plains ds
end
theorem plains_all : ∀ {ds : List D}, plains ds = true → ∀ d ∈ ds, plain d = true
  | [], _, d, h => by cases h
  | e :: ds, h, d, hd => by
    rw [plains, Bool.and_eq_true] at h
    rcases List.mem_cons.mp hd with rfl | hd
    · exact h.1
    · exact plains_all h.2 d hd
mutual
def dep : D → Nat
  | .tup ds => deps ds + 1
  | _ => 1
def deps : List D → Nat
  | [] => 0
  | d :: ds => max (dep d) (deps ds)
end
theorem deps_mem : ∀ {ds : List D} {d : D}, d ∈ ds → dep d ≤ deps ds
  | e :: ds, d, h => by
    rw [deps]
    rcases List.mem_cons.mp h with rfl | h
    · exact Nat.le_max_left ..
    · exact Nat.le_trans (deps_mem h) (Nat.le_max_right ..)
theorem dep_pos : ∀ d : D, 1 ≤ dep d := fun d => by cases d <;> simp [dep]
theorem joinC_len : ∀ ls : List (List Nat), (ls.map List.length).sum + (ls.length - 1) = (joinC ls).length
  | [] => rfl
  | [x] => by simp [joinC]
  | x :: y :: r => by
    have := joinC_len (y :: r)
    rw [joinC, List.length_append, List.length_cons (a := 44), ← this]
    simp
    omega
theorem sum_mem {x : List Nat} : ∀ {ls : List (List Nat)}, x ∈ ls → x.length ≤ (ls.map List.length).sum
  | y :: ls, h => by
    rw [List.map_cons, List.sum_cons]
    rcases List.mem_cons.mp h with rfl | h
    · omega
    · have := sum_mem h
      omega
theorem join_stC : ∀ ls : List (List Nat), Str.join (st [44]) (ls.map st) = st (joinC ls)
  | [] => rfl
  | [x] => by simp [Str.join, joinC]
  | x :: y :: r => by
    have ih := join_stC (y :: r)
    show st x ++ st [44] ++ Str.join (st [44]) (st y :: r.map st) = _
    rw [List.map_cons] at ih
    rw [ih, st_app, st_app, joinC]
    simp
theorem wM_joinC {v : Val} {ls : List (List Nat)} {μ : Store} {Q : KE} (h : seqOf v μ = some (ls.map fun l => .dat (.str (st l)))) (hl : (ls.map List.length).sum + ls.length ≤ 16777216) (q : Q (.dat (.str (st (joinC ls)))) μ) : wM (mJoin.sem (.dat (.str (st [44]))) [v] μ) Q := by
  refine ⟨_, _, ?_, q⟩
  have e : (ls.map fun l => Val.dat (.str (st l))) = (ls.map st).map fun s => .dat (.str s) := by rw [List.map_map]; rfl
  show (match seqOf v μ with
      | some us => match strsOf us with
        | some ys => if (ys.map Str.length).sum + ys.length * (st [44]).length ≤ 16777216 then some (Val.dat (.str (Txt.join (st [44]) ys)), μ) else none
        | none => none
      | none => none) = _
  rw [h, e]
  simp only [strsOf_map]
  have e2 : (ls.map st).map Str.length = ls.map List.length := by
    rw [List.map_map]
    exact List.map_congr_left fun a _ => st_length a
  rw [if_pos]
  · have : Txt.join (st [44]) (ls.map st) = st (joinC ls) := (PySem.StrLaws.glued_eq_join _ _).trans (join_stC ls)
    rw [this]
  · rw [e2, List.length_map]
    show _ + _ * 1 ≤ _
    omega
theorem st_cps (s : Str) : st s.cps.toList = s := by
  cases s with | mk a => simp [EV.st]
theorem run_signs_of (n : Nat) (μ : Store) (hn : 100000 < n) (hS : Shut μ) : ∀ (k : Nat) (d : D), plain d = true → dep d ≤ k → (sgD d).length ≤ 40000 →
    evCall pr n k 0 [.dat d] μ = some (.dat (.str (st (sgD d))), μ)
  | 0, d, _, hk, _ => by have := dep_pos d; omega
  | k + 1, d, hp, hk, hl => by
    refine run_of2 [some (.dat d), none, none] rfl rfl rfl ?_
    unfold R_signs_of
    cases d with
    | str s =>
      walk_at "ev"
      refine wS_ifs ?_
      walk_at "ev"
      rw [lit_q, ← st_cps s]
      have hl : (34 :: (s.cps.toList ++ [34])).length ≤ 40000 := hl
      simp at hl
      refine wM_addT (by rw [szl]; simp; omega) ?_
      walk_at "ev"
      refine wM_addT (by rw [szl]; simp; omega) ?_
      walk_at "ev"
      rw [sgD, st_toList]
      exact fin_same hS
    | int i =>
      have hi : i.natAbs < 10 ^ 400 := of_decide_eq_true hp
      walk_at "ev"
      refine wS_ifs ?_
      walk_at "ev"
      refine wS_ifs ?_
      walk_at "ev"
      refine wM_strI hi ?_
      walk_at "ev"
      exact fin_same hS
    | tup ds =>
      have hl : (40 :: (joinC (sgs ds) ++ endC ds.length)).length ≤ 40000 := hl
      rw [List.length_cons, List.length_append, ← joinC_len, sgs_map, List.length_map] at hl
      walk_at "ev"
      refine wS_ifs ?_
      walk_at "ev"
      refine wS_ifs ?_
      walk_at "ev"
      have hsum : ∀ d ∈ ds, (sgD d).length ≤ ((ds.map sgD).map List.length).sum := fun d hd => sum_mem (List.mem_map_of_mem hd)
      refine lcM (ds.map Val.dat) (fun v => match v with | .dat d => .dat (.str (st (sgD d))) | v => v) (fun i => ?_) ?_ ?_ (fun v hv => ?_) ?_
      · rw [List.getElem?_map]
      · rw [List.length_map]; show _ < n; omega
      · rw [List.length_map, szl]; omega
      · obtain ⟨d, hd, rfl⟩ := List.mem_map.mp hv
        refine lcStep_map (ρ2 := [some (.dat (.tup ds)), none, some (.dat d)]) rfl ?_
        have h2 : dep d ≤ k := by
          have := deps_mem hd
          have hk : deps ds + 1 ≤ k + 1 := hk
          omega
        walk_at "ev"
        refine wM_of (run_signs_of n μ hn hS k d (plains_all hp d hd) h2 (by have := hsum d hd; omega)) ?_
        exact ⟨rfl, rfl⟩
      · refine mk_dats (ds := dstr (ds.map sgD)) (by rw [dstr, List.map_map, List.map_map, List.map_map]; rfl) ?_
        walk_at "ev"
        rw [lit_c]
        refine wM_joinC (ls := ds.map sgD) (by show some _ = _; rw [dstr, List.map_map]; rfl) ?_ ?_
        · rw [List.length_map]; omega
        walk_at "ev"
        rw [lit_o]
        have hj := joinC_len (ds.map sgD)
        rw [List.length_map] at hj
        refine wM_addT (by rw [szl, ← hj]; show 1 + _ ≤ _; omega) ?_
        walk_at "ev"
        refine iteB (fun hB => ?_) (fun hB => ?_)
        · have hB : ds.length = 1 := by
            have := of_decide_eq_true hB
            rw [List.length_map] at this
            omega
          walk_at "ev"
          rw [lit_cs]
          refine wM_addT (by rw [szl, List.length_append, ← hj]; show 1 + _ + 2 ≤ _; omega) ?_
          rw [show [40] ++ joinC (ds.map sgD) ++ [44, 41] = sgD (.tup ds) by
            rw [sgD, sgs_map, endC, if_pos hB]
            simp]
          walk_at "ev"
          exact fin_same hS
        · have hB : ¬ ds.length = 1 := by
            have := of_decide_eq_false hB
            rw [List.length_map] at this
            omega
          walk_at "ev"
          rw [lit_s]
          refine wM_addT (by rw [szl, List.length_append, ← hj]; show 1 + _ + 1 ≤ _; omega) ?_
          rw [show [40] ++ joinC (ds.map sgD) ++ [41] = sgD (.tup ds) by
            rw [sgD, sgs_map, endC, if_neg hB]
            simp]
          walk_at "ev"
          exact fin_same hS
    | non => cases hp
    | bl b => cases hp
    | lst xs => cases hp
    | scr ns => cases hp
/-! ### signs -/
theorem joinC_sg : ∀ {ls : List (List Nat)}, (∀ l ∈ ls, ∀ c ∈ l, c ∈ sgL) → ∀ c ∈ joinC ls, c ∈ sgL
  | [], _, c, h => by cases h
  | [x], H, c, h => H x (List.mem_cons_self ..) c h
  | x :: y :: r, H, c, h => by
    rw [joinC] at h
    rcases List.mem_append.mp h with h | h
    · exact H x (List.mem_cons_self ..) c h
    · rcases List.mem_cons.mp h with rfl | h
      · decide
      · exact joinC_sg (ls := y :: r) (fun l hl => H l (List.mem_cons_of_mem _ hl)) c h
theorem dig_sg : ∀ d : Fin 10, 48 + d.val ∈ sgL := by decide
mutual
theorem sgD_sg : ∀ {d : D}, plain d = true → ∀ c ∈ sgD d, c ∈ sgL
  | .str s, h, c, hc => by
    rw [sgD] at hc
    have h : (s.cps.toList.all fun c => decide (c ∈ sgL ∧ c ≠ 34)) = true := h
    rcases List.mem_cons.mp hc with rfl | hc
    · decide
    · rcases List.mem_append.mp hc with hc | hc
      · exact (of_decide_eq_true (List.all_eq_true.mp h c hc)).1
      · simp at hc
        subst hc
        decide
  | .int i, h, c, hc => by
    rw [sgD] at hc
    have hd : ∀ n, ∀ c ∈ TL.numL n, c ∈ sgL := fun n c hc => by
      have h1 : 48 ≤ c ∧ c < 58 := of_decide_eq_true (numL_dig c hc)
      have := dig_sg ⟨c - 48, by omega⟩
      rwa [show 48 + (c - 48) = c by omega] at this
    unfold sgI at hc
    split at hc
    · rcases List.mem_cons.mp hc with rfl | hc
      · decide
      · exact hd _ c hc
    · exact hd _ c hc
  | .tup ds, h, c, hc => by
    rw [sgD] at hc
    rcases List.mem_cons.mp hc with rfl | hc
    · decide
    · rcases List.mem_append.mp hc with hc | hc
      · exact joinC_sg (sgs_sg h) c hc
      · unfold endC at hc
        split at hc
        · simp at hc
          rcases hc with rfl | rfl <;> decide
        · simp at hc
          subst hc
          decide
theorem sgs_sg : ∀ {ds : List D}, plains ds = true → ∀ l ∈ sgs ds, ∀ c ∈ l, c ∈ sgL
  | [], _, l, hl => by cases hl
  | d :: ds, h, l, hl => by
    rw [plains, Bool.and_eq_true] at h
    rw [sgs] at hl
    rcases List.mem_cons.mp hl with rfl | hl
    · exact sgD_sg h.1
    · exact sgs_sg h.2 l hl
end
theorem lineN_len {l : List Nat} {i : Nat} (h : i < nLines l) : (lineN l i).length = 120 := by
  have : ∀ ns : List Int, (flatD ns).length = 2 * ns.length := fun ns => by
    induction ns with
    | nil => rfl
    | cons x ns ih =>
      show (dig x ++ flatD ns).length = _
      rw [List.length_append, ih]
      show 2 + _ = _
      rw [List.length_cons]
      omega
  rw [lineN, this]
  simp [lineOf, chunk_len h]
end K54

namespace K54
open PySem PySem.Spec PyProof.Rows L2 EV
local macro_rules | `(tactic| walk_at "ev1") => `(tactic| with_reducible first
  | (refine' wE_var ?hh ?_; (case hh => with_unfolding_all exact rfl)) | refine wE_int ?_ | refine wE_str ?_ | refine wE_non ?_ | refine wE_bl ?_ | refine wL_nil ?_ | refine wL_cons ?_
  | refine wE_app ?_ | refine wE_bm ?_ | refine wE_sl ?_ | refine wO_no ?_ | refine wO_so ?_ | refine wE_call ?_
  | refine wE_ifx ?_ | refine wE_and ?_ | refine wE_or ?_ | refine wE_chain ?_ | refine wE_frz ?_ | refine wE_lc ?_
  | refine wT_tr ?_ | refine wT_bv ?_ | refine wT_and ?_ | refine wT_or ?_ | refine wT_not ?_ | refine wT_yes ?_
  | refine wS_seq ?_ | refine wS_set ?_ | refine wS_asg ?_ | refine wS_setI ?_ | refine wS_drop ?_ | refine wS_ret ?_ | refine wS_retN ?_ | refine wS_nx ?_ | refine wS_brk ?_ | refine wS_cnt ?_
  | refine kSeq_nx ?_ | refine kSeq_rt ?_ | refine kSeq_bk ?_ | refine kSeq_ct ?_)
local macro_rules | `(tactic| walk_at "ev2") => `(tactic| first
  | ((with_reducible refine' wM_ixB ?hh ?hi ?_); (case hh => first | assumption | exact get_snoc_eq); (case hi => exact rfl)) | (with_reducible refine wM_lenDL ?_) | (with_reducible refine wM_eqI ?_) | (with_reducible refine wM_neI ?_) | (with_reducible refine wM_slL ?_) | (with_reducible refine wM_mul (by omega) ?_) | (with_reducible refine wM_mod (by first | assumption | decide) ?_) | (with_reducible refine wM_div (by first | assumption | decide) ?_)
  | ((with_reducible refine' wM_of ?hh ?_); (case hh => exact rfl)) | ((with_reducible refine' wB_of ?hh ?_); (case hh => exact rfl))
  | ((with_reducible refine' iteY ?hb ?_); (case hb => exact rfl)) | ((with_reducible refine' iteZ ?hb ?_); (case hb => exact rfl)) | refine ⟨_, rfl, ?_⟩ | refine ⟨rfl, ?_⟩ | refine ⟨_, _, _, _, rfl, rfl, (by first | assumption | exact get_snoc_eq), rfl, ?_⟩ | refine ⟨_, _, _, _, rfl, rfl, rfl, rfl, ?_⟩ | refine ⟨_, _, _, rfl, rfl, rfl, rfl, ?_⟩ | refine ⟨_, _, rfl, rfl, rfl, ?_⟩)
local macro_rules | `(tactic| walk_at "done") => `(tactic| first | exact rfl | exact ⟨rfl, rfl⟩ | exact ⟨_, rfl, rfl⟩ | exact ⟨_, _, rfl, rfl⟩ | exact ⟨rfl, _, rfl, rfl⟩ | exact ⟨rfl, _, _, rfl, rfl⟩)
local macro_rules | `(tactic| walk_at "ev") => `(tactic| repeat (first | walk_at "ev1" | walk_at "ev2"))
theorem rdL_dstr (ls : List (List Nat)) (μ : Store) : rdL (.dat (.lst (dstr ls))) μ = some ((dstr ls).map .dat) := rfl
/-! ### text_of -/
inductive TgO where
  | line (i : Nat) | all (ns : List Int)
def textGo : List (List Nat) → Nat → List Int → TgO
  | [], _, f => .all f
  | l :: ls, i, f => match signsIn l ((i : Int) + 1) with
    | none => .line (i + 1)
    | some t => if (74 : Int) ∈ f ∨ areOf t = false then .line (i + 1) else textGo ls (i + 1) (f ++ t)
def sgAt (x : Int) : Nat := sgL.getD (x - 1).toNat 0
inductive Tt where
  | line (i : Nat) | text (l : List Nat)
def textOf (ls : List (List Nat)) : Tt := match textGo ls 0 [] with
  | .line i => .line i
  | .all f => if (74 : Int) ∈ f then .text ((f.take (f.idxOf 74)).map sgAt) else .line (ls.length + 1)
def ttD : Tt → D
  | .line i => .tup [.str "line", .int (i : Nat)]
  | .text l => .tup [.str "text", .str (st l)]
theorem areOf_ok {t : List Int} (h : areOf t = true) : ∀ x ∈ t.take (t.idxOf 74), 0 < x ∧ x ≤ 73 := by
  unfold areOf at h
  rw [Bool.and_eq_true] at h
  exact fun x hx => of_decide_eq_true (List.all_eq_true.mp h.1 x hx)
theorem idx_app {f t : List Int} (h : ¬ (74 : Int) ∈ f) : (f ++ t).take ((f ++ t).idxOf 74) = f ++ t.take (t.idxOf 74) := by
  rw [List.idxOf_append, if_neg h, List.take_append, List.take_of_length_le (Nat.le_add_left ..), Nat.add_sub_cancel]
theorem wM_ixSg {x : Int} {μ : Store} {Q : KE} (h : 0 < x ∧ x ≤ 73) (q : Q (.dat (.str (st [sgAt x]))) μ) : wM (oIx.sem [.dat (.str c_SIGNS), .dat (.int (x - 1))] μ) Q := by
  refine ⟨_, _, ?_, q⟩
  show (if c_SIGNS.length ≤ sizeLine then match atI c_SIGNS.cps.toList (x - 1) with
      | some c => some (Val.dat (.str ⟨#[c]⟩), μ)
      | none => none
    else none) = _
  rw [len_sg, if_pos (by decide), lit_signs, st_toList]
  have hlt : (x - 1).toNat < sgL.length := by show _ < 73; omega
  rw [atI_at (j := (x - 1).toNat) (x := sgAt x) (by omega) (by
    unfold sgAt
    rw [List.getD_eq_getElem?_getD, List.getElem?_eq_getElem hlt]
    rfl)]
  rfl
theorem signsIn_len {l : List Nat} {k : Int} {t : List Int} (h : signsIn l k = some t) : t.length ≤ 55 := by
  unfold signsIn at h
  split at h
  · cases h
  · split at h
    · cases h
    · split at h
      · cases h
        rw [List.length_take]
        omega
      · cases h
theorem run_text_of (n k : Nat) (μ : Store) (ls : List (List Nat)) (hl : ls.length ≤ 1000) (hx : ∀ l ∈ ls, l.length ≤ 1000) (hn : 100000 < n) (hS : Shut μ) :
    evCall pr n (k + 4) 20 [.dat (.lst (dstr ls))] μ = some (.dat (ttD (textOf ls)), μ) := by
  refine run_of2 [some (.dat (.lst (dstr ls))), none, none, none, none, none, none] rfl rfl rfl ?_
  unfold R_text_of
  walk_at "ev"
  refine wS_for ?_
  repeat walk_at "ev1"
  refine ⟨_, en_sem (v := .dat (.lst (dstr ls))) rfl, ?_⟩
  refine for_inv (fun i ρ μ' => ∃ f x2 x3 x4, ρ = [some (.dat (.lst (dstr ls))), some (.dat (.lst (dint f))), x2, x3, x4, none, none] ∧ μ = μ' ∧ i ≤ ls.length ∧ f.length ≤ 55 * i ∧ textGo (ls.drop i) i f = textGo ls 0 [] ∧ ∀ x ∈ f.take (f.idxOf 74), 0 < x ∧ x ≤ 73) ?_ ls.length (fun i ρ μ' ⟨_, _, _, _, _, _, h, _⟩ => h) n 0 _ _ ⟨[], none, none, none, rfl, rfl, Nat.zero_le _, Nat.zero_le _, rfl, fun x h => by cases h⟩ (by omega)
  rintro i _ _ ⟨f, x2, x3, x4, rfl, hμ, hi, hfl, hg, hb⟩
  subst hμ
  by_cases hlt : i < ls.length
  · have hd : ls.drop i = ls[i] :: ls.drop (i + 1) := List.drop_eq_getElem_cons hlt
    generalize hle : ls[i] = l at hd
    have hll : l.length ≤ 1000 := by rw [← hle]; exact hx _ (List.getElem_mem _)
    have hge : ls[i]? = some l := by rw [List.getElem?_eq_getElem hlt, hle]
    refine ⟨_, nxEn_some (d := .str (st l)) (rdL_dstr ls μ) (by rw [List.getElem?_map, List.getElem?_map, hge]; rfl), ?_⟩
    refine wR_for (ρ2 := [some (.dat (.lst (dstr ls))), some (.dat (.lst (dint f))), some (.dat (.int (i : Nat))), some (.dat (.str (st l))), x4, none, none]) rfl ?_
    rw [hd, textGo] at hg
    walk_at "ev"
    refine wM_of (run_signs_in n k μ l ((i : Int) + 1) hll (by omega) hS) ?_
    have eline : ((i : Int) + 1) = ((i + 1 : Nat) : Int) := by omega
    cases hs : signsIn l ((i : Int) + 1) with
    | none =>
      rw [hs] at hg
      walk_at "ev"
      refine wS_ifs ?_
      walk_at "ev"
      rw [show textOf ls = .line (i + 1) by unfold textOf; rw [← hg]]
      exact fin_same hS
    | some t =>
      rw [hs] at hg
      have htl := signsIn_len hs
      walk_at "ev1"
      walk_at "ev1"
      refine wS_ifB ((74 : Int) ∈ f ∨ areOf t = false) ?_ (fun hB => ?_) (fun hB => ?_)
      · walk_at "ev"
        refine wM_inI (ns := f) rfl ?_
        walk_at "ev"
        refine iteB (fun g => ?_) (fun g => ?_)
        · have g := of_decide_eq_true g
          refine ⟨?_, rfl⟩
          simp [g]
        · have g := of_decide_eq_false g
          walk_at "ev"
          refine wM_of (run_are_of_text n (k + 2) μ t (by omega) (by omega) hS) ?_
          walk_at "ev"
          refine ⟨?_, rfl⟩
          simp only [g, false_or]
          cases areOf t <;> rfl
      · simp only [if_pos hB] at hg
        walk_at "ev"
        rw [show textOf ls = .line (i + 1) by unfold textOf; rw [← hg]]
        exact fin_same hS
      · simp only [if_neg hB] at hg
        walk_at "ev"
        refine wM_addL (a := dint f) (b := dint t) (by rw [szl, List.length_map, List.length_map]; omega) ?_
        rw [show dint f ++ dint t = dint (f ++ t) from List.map_append.symm]
        walk_at "ev"
        have hB1 : ¬ (74 : Int) ∈ f := fun h => hB (.inl h)
        have hB2 : areOf t = true := by
          cases h : areOf t with
          | true => rfl
          | false => exact absurd (.inr h) hB
        refine ⟨f ++ t, _, _, _, rfl, rfl, hlt, by rw [List.length_append]; omega, hg, ?_⟩
        rw [idx_app hB1]
        intro x hx
        rcases List.mem_append.mp hx with hx | hx
        · exact hb x (by rw [List.idxOf_eq_length hB1, List.take_length]; exact hx)
        · exact areOf_ok hB2 x hx
  · refine ⟨none, nxEn_none (rdL_dstr ls μ) (by simp; omega), ?_⟩
    rw [List.drop_eq_nil_of_le (by omega), textGo] at hg
    walk_at "ev1"
    walk_at "ev1"
    refine wS_ifB (¬ (74 : Int) ∈ f) ?_ (fun hB => ?_) (fun hB => ?_)
    · walk_at "ev"
      refine wM_niI (ns := f) rfl ?_
      walk_at "ev"
      refine ⟨?_, rfl⟩
      simp
    · walk_at "ev"
      rw [List.length_map]
      walk_at "ev"
      rw [show textOf ls = .line (ls.length + 1) by unfold textOf; rw [← hg]; simp only [if_neg hB]]
      exact fin_same hS
    · have hB := Classical.not_not.mp hB
      have hlen : (f.take (f.idxOf 74)).length ≤ 55000 := by rw [List.length_take]; omega
      walk_at "ev"
      refine wM_indexI (ns := f) rfl hB ?_
      walk_at "ev"
      rw [cutG_nat0, dint, ← List.map_take]
      generalize hF : f.take (f.idxOf 74) = F at *
      refine lcML (v := .dat (.lst (dint F))) (us := vint F) (fun v => match v with | .dat (.int x) => .dat (.str (st [sgAt x])) | v => v) ?_ ?_ ?_ (fun v hv => ?_) ?_
      · exact rfl
      · show _ < n; simp only [vint, List.length_map]; omega
      · simp only [vint, List.length_map, szl]; omega
      · simp only [vint, List.mem_map] at hv
        obtain ⟨_, ⟨x, hx, rfl⟩, rfl⟩ := hv
        refine lcStep_map (ρ2 := [some (.dat (.lst (dstr ls))), some (.dat (.lst (dint f))), x2, x3, x4, some (.dat (.int (f.idxOf (74 : Int) : Nat))), some (.dat (.int x))]) rfl ?_
        walk_at "ev"
        refine wM_ixSg (hb x hx) ?_
        exact ⟨rfl, rfl⟩
      · refine mk_dats (ds := F.map fun x => .str (st [sgAt x])) (by simp only [vint, List.map_map]; rfl) ?_
        walk_at "ev"
        rw [lit_e]
        refine wM_joinT (ls := F.map fun x => [sgAt x]) (by show some _ = _; simp only [List.map_map]; rfl) ?_ ?_
        · rw [List.map_map]
          exact Nat.le_trans (sum_le (c := 1) fun x _ => Nat.le_refl _) (by omega)
        · walk_at "ev"
          have e : (F.map fun x => [sgAt x]).flatten = F.map sgAt := by
            clear hlen hF hb hg
            induction F with
            | nil => rfl
            | cons x F ih => rw [List.map_cons, List.flatten_cons, ih]; rfl
          rw [e, show textOf ls = .text (F.map sgAt) by unfold textOf; rw [← hg]; simp only [if_pos hB, hF]]
          exact fin_same hS
end K54

namespace K54
open PySem PySem.Spec PyProof.Rows L2 EV
local macro_rules | `(tactic| walk_at "ev1") => `(tactic| with_reducible first
  | (refine' wE_var ?hh ?_; (case hh => with_unfolding_all exact rfl)) | refine wE_int ?_ | refine wE_str ?_ | refine wE_non ?_ | refine wE_bl ?_ | refine wL_nil ?_ | refine wL_cons ?_
  | refine wE_app ?_ | refine wE_bm ?_ | refine wE_sl ?_ | refine wO_no ?_ | refine wO_so ?_ | refine wE_call ?_
  | refine wE_ifx ?_ | refine wE_and ?_ | refine wE_or ?_ | refine wE_chain ?_ | refine wE_frz ?_ | refine wE_lc ?_
  | refine wT_tr ?_ | refine wT_bv ?_ | refine wT_and ?_ | refine wT_or ?_ | refine wT_not ?_ | refine wT_yes ?_
  | refine wS_seq ?_ | refine wS_set ?_ | refine wS_asg ?_ | refine wS_setI ?_ | refine wS_drop ?_ | refine wS_ret ?_ | refine wS_retN ?_ | refine wS_nx ?_ | refine wS_brk ?_ | refine wS_cnt ?_
  | refine kSeq_nx ?_ | refine kSeq_rt ?_ | refine kSeq_bk ?_ | refine kSeq_ct ?_)
local macro_rules | `(tactic| walk_at "ev2") => `(tactic| first
  | ((with_reducible refine' wM_ixB ?hh ?hi ?_); (case hh => first | assumption | exact get_snoc_eq); (case hi => exact rfl)) | (with_reducible refine wM_lenDL ?_) | (with_reducible refine wM_eqI ?_) | (with_reducible refine wM_neI ?_) | (with_reducible refine wM_slL ?_) | (with_reducible refine wM_mul (by omega) ?_) | (with_reducible refine wM_mod (by first | assumption | decide) ?_) | (with_reducible refine wM_div (by first | assumption | decide) ?_)
  | ((with_reducible refine' wM_of ?hh ?_); (case hh => exact rfl)) | ((with_reducible refine' wB_of ?hh ?_); (case hh => exact rfl))
  | ((with_reducible refine' iteY ?hb ?_); (case hb => exact rfl)) | ((with_reducible refine' iteZ ?hb ?_); (case hb => exact rfl)) | refine ⟨_, rfl, ?_⟩ | refine ⟨rfl, ?_⟩ | refine ⟨_, _, _, _, rfl, rfl, (by first | assumption | exact get_snoc_eq), rfl, ?_⟩ | refine ⟨_, _, _, _, rfl, rfl, rfl, rfl, ?_⟩ | refine ⟨_, _, _, rfl, rfl, rfl, rfl, ?_⟩ | refine ⟨_, _, rfl, rfl, rfl, ?_⟩)
local macro_rules | `(tactic| walk_at "done") => `(tactic| first | exact rfl | exact ⟨rfl, rfl⟩ | exact ⟨_, rfl, rfl⟩ | exact ⟨_, _, rfl, rfl⟩ | exact ⟨rfl, _, rfl, rfl⟩ | exact ⟨rfl, _, _, rfl, rfl⟩)
local macro_rules | `(tactic| walk_at "ev") => `(tactic| repeat (first | walk_at "ev1" | walk_at "ev2"))
/-! ### the reader -/
abbrev rd (l : List Nat) (p : Nat) : SO := .ins 0 [("text", .dat (.str (st l))), ("at", .dat (.int (p : Nat)))]
theorem ne_ta : ¬ (Str.ofString "text" = Str.ofString "at") := by decide +kernel
theorem ne_at : ¬ (Str.ofString "at" = Str.ofString "text") := by decide +kernel
theorem has_text : (fsT 0).contains (Str.ofString "text") = true := by decide +kernel
theorem has_at : (fsT 0).contains (Str.ofString "at") = true := by decide +kernel
section
variable {c : Ev} {ρ : Rho} {μ : Store}
theorem wE_rdT {o : RE} {Q : KE} (hc : c.fs = fsT) (h : wE c o ρ μ fun x μ1 => ∃ j l p, x = .box j ∧ μ1[j]? = some (rd l p) ∧ Q (.dat (.str (st l))) μ1) : wE c (.fld 0 o "text") ρ μ Q := by
  obtain ⟨x, μ1, e, j, l, p, rfl, hj, q⟩ := h
  refine wE_fld ⟨_, _, e, j, _, _, rfl, hj, by rw [hc]; exact has_text, ?_, q⟩
  show (if Str.ofString "text" = Str.ofString "text" then some (Val.dat (.str (st l))) else _) = _
  rw [if_pos rfl]
theorem wE_rdA {o : RE} {Q : KE} (hc : c.fs = fsT) (h : wE c o ρ μ fun x μ1 => ∃ j l p, x = .box j ∧ μ1[j]? = some (rd l p) ∧ Q (.dat (.int (p : Nat))) μ1) : wE c (.fld 0 o "at") ρ μ Q := by
  obtain ⟨x, μ1, e, j, l, p, rfl, hj, q⟩ := h
  refine wE_fld ⟨_, _, e, j, _, _, rfl, hj, by rw [hc]; exact has_at, ?_, q⟩
  show (if Str.ofString "text" = Str.ofString "at" then some (Val.dat (.str (st l))) else (if Str.ofString "at" = Str.ofString "at" then some (Val.dat (.int (p : Nat))) else none)) = _
  rw [if_neg ne_ta, if_pos rfl]
theorem wS_rdA {o e : RE} {Q : KS} (hc : c.fs = fsT) (h : wE c e ρ μ fun v μ1 => wE c o ρ μ1 fun x μ2 => ∃ j l p q i, v = .dat (.int i) ∧ i = ((q : Nat) : Int) ∧ x = .box j ∧ μ2[j]? = some (rd l p) ∧ Q .nx ρ (μ2.set j (rd l q))) : wS c (.setF 0 o "at" e) ρ μ Q := by
  obtain ⟨v, μ1, e1, x, μ2, e2, j, l, p, q, i, rfl, rfl, rfl, hj, hq⟩ := h
  refine wS_setF ⟨_, _, e1, _, _, e2, j, _, rfl, hj, by rw [hc]; exact has_at, by show 2 < 1000; decide, ?_⟩
  have : putG (Str.ofString "at") (Val.dat (.int (q : Nat))) [(Str.ofString "text", Val.dat (.str (st l))), (Str.ofString "at", Val.dat (.int (p : Nat)))] = [(Str.ofString "text", Val.dat (.str (st l))), (Str.ofString "at", Val.dat (.int (q : Nat)))] := by
    show (if Str.ofString "text" = Str.ofString "at" then _ else (Str.ofString "text", Val.dat (.str (st l))) :: (if Str.ofString "at" = Str.ofString "at" then _ else _)) = _
    rw [if_neg ne_ta, if_pos rfl]
  rw [this]
  exact hq
theorem wE_rdM {nm : Str} {f : Nat} {o : RE} {a : RL} {Q : KE} (hn : ¬ Str.ofString "text" = nm ∧ ¬ Str.ofString "at" = nm) (h : wE c o ρ μ fun x μ1 => ∃ j l p, x = .box j ∧ μ1[j]? = some (rd l p) ∧ wL c a ρ μ1 fun vs μ2 => wM (c.call f (.box j :: vs) μ2) Q) : wE c (.mth 0 nm f o a) ρ μ Q := by
  obtain ⟨x, μ1, e, j, l, p, rfl, hj, q⟩ := h
  refine wE_mth ⟨_, _, e, j, _, rfl, hj, ?_, q⟩
  show (if Str.ofString "text" = nm then some (Val.dat (.str (st l))) else (if Str.ofString "at" = nm then some (Val.dat (.int (p : Nat))) else none)) = none
  rw [if_neg hn.1, if_neg hn.2]
end
theorem nm_ns : ¬ Str.ofString "text" = Str.ofString "next_sign" ∧ ¬ Str.ofString "at" = Str.ofString "next_sign" := by decide +kernel
theorem nm_in : ¬ Str.ofString "text" = Str.ofString "integer" ∧ ¬ Str.ofString "at" = Str.ofString "integer" := by decide +kernel
theorem nm_st : ¬ Str.ofString "text" = Str.ofString "string" ∧ ¬ Str.ofString "at" = Str.ofString "string" := by decide +kernel
theorem nm_si : ¬ Str.ofString "text" = Str.ofString "single" ∧ ¬ Str.ofString "at" = Str.ofString "single" := by decide +kernel
theorem nm_cl : ¬ Str.ofString "text" = Str.ofString "closed" ∧ ¬ Str.ofString "at" = Str.ofString "closed" := by decide +kernel
theorem nm_en : ¬ Str.ofString "text" = Str.ofString "ended" ∧ ¬ Str.ofString "at" = Str.ofString "ended" := by decide +kernel
theorem nm_va : ¬ Str.ofString "text" = Str.ofString "value" ∧ ¬ Str.ofString "at" = Str.ofString "value" := by decide +kernel
/-- the sign that comes -/
def nx1 (l : List Nat) (p : Nat) : List Nat := (l.drop p).take 1
theorem run_ns (n k : Nat) (μ : Store) (r p : Nat) (l : List Nat) (hr : μ[r]? = some (rd l p)) (hl : l.length ≤ 40000) (hS : Shut μ) : evCall pr n (k + 1) 3 [.box r] μ = some (.dat (.str (st (nx1 l p))), μ) := by
  refine run_of2 [some (.box r)] rfl rfl rfl ?_
  unfold R_Reader_next_sign
  refine wS_ret (wE_sl (wE_rdT rfl (wE_var rfl ⟨r, l, p, rfl, hr, wO_so (wE_rdA rfl (wE_var rfl ⟨r, l, p, rfl, hr, _, rfl, ?_⟩))⟩)))
  refine wO_so (wE_app (wL_cons (wE_rdA rfl (wE_var rfl ⟨r, l, p, rfl, hr, ?_⟩))))
  walk_at "ev"
  refine wM_slT (i := p) (j := p + 1) rfl (by congr 1) (by rw [szl]; omega) ?_
  rw [show p + 1 - p = 1 by omega]
  exact fin_same hS
theorem wE_ns {n k i : Nat} {ρ : Rho} {μ : Store} {r p : Nat} {l : List Nat} {Q : KE} (hρ : ρ[i]? = some (some (.box r))) (hr : μ[r]? = some (rd l p)) (hl : l.length ≤ 40000) (hS : Shut μ) (q : Q (.dat (.str (st (nx1 l p)))) μ) :
    wE ⟨evCall pr n (k + 1), n, pr.fs⟩ (.mth 0 (Str.ofString "next_sign") 3 (.var i) .nil) ρ μ Q :=
  wE_rdM nm_ns (wE_var hρ ⟨r, l, p, rfl, hr, wL_nil (wM_of (run_ns n k μ r p l hr hl hS) q)⟩)
theorem wE_at {n k i : Nat} {ρ : Rho} {μ : Store} {r p : Nat} {l : List Nat} {Q : KE} (hρ : ρ[i]? = some (some (.box r))) (hr : μ[r]? = some (rd l p)) (q : Q (.dat (.int (p : Nat))) μ) :
    wE ⟨evCall pr n k, n, pr.fs⟩ (.fld 0 (.var i) (Str.ofString "at")) ρ μ Q := wE_rdA rfl (wE_var hρ ⟨r, l, p, rfl, hr, q⟩)
theorem wE_txt {n k i : Nat} {ρ : Rho} {μ : Store} {r p : Nat} {l : List Nat} {Q : KE} (hρ : ρ[i]? = some (some (.box r))) (hr : μ[r]? = some (rd l p)) (q : Q (.dat (.str (st l))) μ) :
    wE ⟨evCall pr n k, n, pr.fs⟩ (.fld 0 (.var i) (Str.ofString "text")) ρ μ Q := wE_rdT rfl (wE_var hρ ⟨r, l, p, rfl, hr, q⟩)
/-- self.at = self.at + d -/
theorem wS_adv {n k i : Nat} {ρ : Rho} {μ : Store} {r p : Nat} {l : List Nat} {d : Nat} {Q : KS} (hρ : ρ[i]? = some (some (.box r))) (hr : μ[r]? = some (rd l p)) (q : Q .nx ρ (μ.set r (rd l (p + d)))) :
    wS ⟨evCall pr n k, n, pr.fs⟩ (.setF 0 (.var i) (Str.ofString "at") (.app (oAdd false) (.cons (.fld 0 (.var i) (Str.ofString "at")) (.cons (.cst (.int (d : Nat))) .nil)))) ρ μ Q := by
  refine wS_rdA rfl (wE_app (wL_cons (wE_at hρ hr (wL_cons (wE_int (wL_nil (wM_of (v := .dat (.int ((p : Int) + (d : Nat)))) rfl ?_)))))))
  exact wE_var hρ ⟨r, l, p, p + d, _, rfl, by omega, rfl, hr, q⟩
theorem rd_self {μ : Store} {r p : Nat} {l : List Nat} (hr : μ[r]? = some (rd l p)) : μ = μ.set r (rd l p) := by
  obtain ⟨h, e⟩ := List.getElem?_eq_some_iff.mp hr
  rw [← e, List.set_getElem_self]
theorem shut_rd {μ : Store} (h : Shut μ) (r p : Nat) (l : List Nat) : Shut (μ.set r (rd l p)) := shut_set h rfl
theorem nx1_at {l ds rest : List Nat} {p j : Nat} {c : Nat} (h : l.drop p = ds ++ rest) (hj : ds[j]? = some c) : nx1 l (p + j) = [c] := by
  unfold nx1
  have hlt := (List.getElem?_eq_some_iff.mp hj).1
  rw [← List.drop_drop, h, List.drop_append_of_le_length (by omega), List.drop_eq_getElem_cons hlt]
  have := (List.getElem?_eq_some_iff.mp hj).2
  rw [this]
  rfl
theorem nx1_end {l ds rest : List Nat} {p : Nat} (h : l.drop p = ds ++ rest) : nx1 l (p + ds.length) = rest.take 1 := by
  unfold nx1
  rw [← List.drop_drop, h, List.drop_left]
theorem lstrip_ok {ds : List Nat} (h : ∀ c, ds.head? = some c → c ≠ 45) : Txt.lstripChars (st ds) (st [45]) = st ds := by
  unfold Txt.lstripChars Txt.stripBy
  rw [if_pos]
  unfold stripSame
  have : stripLo (st [45]).cps.contains true (st ds) = 0 := by
    unfold stripLo
    rw [if_pos rfl, st_toList]
    cases ds with
    | nil => rfl
    | cons c ds =>
      have hc := h c rfl
      rw [List.takeWhile_cons_of_neg]
      · rfl
      · show ¬ (#[45].contains c) = true
        simp
        exact fun e => hc e
  rw [this]
  unfold stripHi
  rw [if_neg (by decide)]
  simp
theorem lstrip_neg {ds : List Nat} (h : ∀ c, ds.head? = some c → c ≠ 45) : Txt.lstripChars (st (45 :: ds)) (st [45]) = st ds := by
  unfold Txt.lstripChars Txt.stripBy
  have hlo : stripLo (st [45]).cps.contains true (st (45 :: ds)) = 1 := by
    unfold stripLo
    rw [if_pos rfl, st_toList, List.takeWhile_cons_of_pos (by show (#[45].contains 45) = true; simp)]
    cases ds with
    | nil => rfl
    | cons c ds =>
      have hc := h c rfl
      rw [List.takeWhile_cons_of_neg]
      · rfl
      · show ¬ (#[45].contains c) = true
        simp
        exact fun e => hc e
  rw [if_neg]
  · unfold stripped
    rw [hlo]
    unfold stripHi
    rw [if_neg (by decide)]
    apply Str.ext'
    apply Array.toList_inj.mp
    rw [PySem.StrLaws.strSub_toList, st_toList, st_toList, st_length]
    rw [List.drop_succ_cons, List.drop_zero, List.length_cons, Nat.add_sub_cancel, List.take_length]
  · unfold stripSame
    rw [hlo]
    simp
/-- what integer reads at p: the longest run of digits, perhaps behind a sign -/
structure IntAt (l : List Nat) (p q : Nat) (neg : Bool) (ds rest : List Nat) : Prop where
  sg : (neg = true ∧ nx1 l p = [45] ∧ q = p + 1) ∨ (neg = false ∧ nx1 l p ≠ [45] ∧ q = p)
  at' : l.drop q = ds ++ rest
  dig : ∀ c ∈ ds, isDig c = true
  rest : ∀ c, rest.head? = some c → isDig c = false
  len : ds.length ≤ 400
def noInt (neg : Bool) (ds : List Nat) : Prop := ds = [] ∨ (ds.head? = some 48 ∧ ¬ (neg = false ∧ ds = [48]))
instance (neg : Bool) (ds : List Nat) : Decidable (noInt neg ds) := inferInstanceAs (Decidable (_ ∨ _))
def intV (neg : Bool) (ds : List Nat) : Int := if neg = true then -((NumText.digitsVal ds : Nat) : Int) else ((NumText.digitsVal ds : Nat) : Int)
def intR (neg : Bool) (ds : List Nat) : D := if noInt neg ds then .non else .int (intV neg ds)
theorem intText_of' {neg : Bool} {ds : List Nat} (hd : ∀ c ∈ ds, isDig c = true) (hne : ds ≠ []) (hl : ds.length ≤ 400) : PySem.intText? (st ((if neg = true then [45] else []) ++ ds)) = some (intV neg ds) := by
  have had : NumText.AllDigits ds := fun c hc => by have := of_decide_eq_true (hd c hc); omega
  cases neg with
  | true => exact PySem.intText_neg (x := st (45 :: ds)) (cs := ds) (st_toList _) had hne (by rw [st_length, List.length_cons]; omega)
  | false =>
    have := PySem.intText_digits (x := st ds) (by rw [st_toList]; exact had) (by rw [st_toList]; exact hne) (by rw [st_length]; omega)
    rw [st_toList] at this
    exact this
theorem nx1_lt' {l : List Nat} {p c : Nat} (h : nx1 l p = [c]) : p < l.length := by
  refine Nat.lt_of_not_le fun hle => ?_
  unfold nx1 at h
  rw [List.drop_eq_nil_of_le hle] at h
  cases h
theorem big_ok {l : List Nat} (h : ∀ c ∈ l, c < 128) : ∀ c ∈ l, c < 1114112 := fun c hc => by have := h c hc; omega
theorem nx1_ok {l : List Nat} {p : Nat} (h : ∀ c ∈ l, c < 128) : ∀ c ∈ nx1 l p, c < 1114112 := fun c hc => by
  have := h c (List.mem_of_mem_drop (List.mem_of_mem_take hc))
  omega
theorem run_integer (n k : Nat) (μ : Store) (r p q : Nat) (l ds rest : List Nat) (neg : Bool) (hr : μ[r]? = some (rd l p)) (hI : IntAt l p q neg ds rest) (hA : ∀ c ∈ l, c < 128) (hl : l.length ≤ 40000) (hn : 100000 < n) (hS : Shut μ) :
    evCall pr n (k + 2) 4 [.box r] μ = some (.dat (intR neg ds), μ.set r (rd l (q + ds.length))) := by
  refine run_of2 [some (.box r), none, none, none] rfl rfl rfl ?_
  unfold R_Reader_integer
  refine wS_seq (wS_set (wE_at rfl hr ?_))
  refine kSeq_nx (wS_seq ?_)
  refine wS_mid (fun ρ' μ' => ρ' = [some (.box r), some (.dat (.int (p : Nat))), none, none] ∧ μ' = μ.set r (rd l q)) ?_ ?_
  · refine wS_ifs (wT_bv (wE_app (wL_cons (wE_ns rfl hr hl hS (wL_cons (wE_str (wL_nil ?_)))))))
    rw [lit_m]
    refine wM_eqT (nx1_ok hA) (by decide) ⟨_, rfl, ?_⟩
    rcases hI.sg with ⟨_, h1, rfl⟩ | ⟨_, h1, rfl⟩
    · rw [decide_eq_true h1]
      exact iteY rfl (wS_adv (d := 1) rfl hr ⟨rfl, rfl, rfl⟩)
    · rw [decide_eq_false h1]
      exact iteZ rfl (wS_nx ⟨rfl, rfl, rd_self hr⟩)
  rintro _ _ ⟨rfl, rfl⟩
  have hrq := set_get (s := rd l q) hr
  refine wS_seq ?_
  refine wS_whileI (fun m ρ' μ' => ∃ j, m + j = ds.length ∧ ρ' = [some (.box r), some (.dat (.int (p : Nat))), none, none] ∧ μ' = μ.set r (rd l (q + j))) ?_ ds.length ⟨0, rfl, rfl, rfl⟩ (by have := hI.len; show _ < n; omega)
  rintro m _ _ ⟨j, hm, rfl, rfl⟩
  have hr1 := set_get (s := rd l (q + j)) hr
  have s1 : Shut (μ.set r (rd l (q + j))) := shut_rd hS r _ l
  refine wT_and (wT_bv (wE_app (wL_cons (wE_ns rfl hr1 hl s1 (wL_cons (wE_str (wL_nil ?_)))))))
  rw [lit_e]
  refine wM_neT (nx1_ok hA) (by decide) ?_
  have after : j = ds.length → kSeq { call := evCall pr n (k + 1), n := n, fs := pr.fs }
      ((RS.asg (RG.nm 2) (RE.sl (sSl false) (RE.fld 0 (RE.var 0) (Str.ofString "text")) (RO.so (RE.var 1)) (RO.so (RE.fld 0 (RE.var 0) (Str.ofString "at"))))).seq
        ((RS.asg (RG.nm 3) (RE.bm mLstrip (RE.var 2) (RL.cons (RE.cst (Sc.str (EV.st [45]))) RL.nil))).seq
          ((RS.ifs ((RT.bv (RE.app (oEq false) (RL.cons (RE.var 3) (RL.cons (RE.cst (Sc.str (EV.st []))) RL.nil)))).or
                  ((RT.bv (RE.app (oEq false) (RL.cons (RE.app oIx (RL.cons (RE.var 3) (RL.cons (RE.cst (Sc.int 0)) RL.nil))) (RL.cons (RE.cst (Sc.str (Str.ofString "0"))) RL.nil)))).and
                    (RT.bv (RE.app (oEq true) (RL.cons (RE.var 2) (RL.cons (RE.cst (Sc.str (Str.ofString "0"))) RL.nil))))))
                (RS.ret (RE.cst Sc.non)) RS.nx).seq
            (RS.ret (RE.app oInt (RL.cons (RE.var 2) RL.nil))))))
      (kFn (List.length μ) (Val.dat (intR neg ds)) (List.set μ r (rd l (q + ds.length)))) Out.nx [some (.box r), some (.dat (.int (p : Nat))), none, none] (μ.set r (rd l (q + j))) := by
    rintro rfl
    generalize hwd : (if neg = true then [45] else []) ++ ds = wd
    have hslice : (l.drop p).take (q + ds.length - p) = wd := by
      rcases hI.sg with ⟨rfl, h1, rfl⟩ | ⟨rfl, h1, rfl⟩
      · have hlt := nx1_lt' h1
        have hc : l[p] = 45 := by
          unfold nx1 at h1
          rw [List.drop_eq_getElem_cons hlt] at h1
          have h2 : [l[p]] = [45] := h1
          exact (List.cons.inj h2).1
        rw [List.drop_eq_getElem_cons hlt, hI.at', hc, show p + 1 + ds.length - p = ds.length + 1 by omega, List.take_succ_cons, List.take_left, ← hwd]
        rfl
      · rw [hI.at', Nat.add_sub_cancel_left, List.take_left, ← hwd]
        rfl
    have hend : q + ds.length ≤ l.length ∨ ds = [] := by
      by_cases e : ds = []
      · exact .inr e
      · have := congrArg List.length hI.at'
        rw [List.length_drop, List.length_append] at this
        have : ds.length ≠ 0 := fun h => e (List.eq_nil_of_length_eq_zero h)
        exact .inl (by omega)
    have hh45 : ∀ c, ds.head? = some c → c ≠ 45 := fun c hc => by
      have := of_decide_eq_true (hI.dig c (List.mem_of_mem_head? hc))
      omega
    have hwl : wd.length ≤ 601 := by
      rw [← hwd, List.length_append]
      have := hI.len
      split
      · show 1 + _ ≤ _; omega
      · show 0 + _ ≤ _; omega
    have wok : ∀ c ∈ wd, c < 1114112 := fun c hc => by
      rw [← hwd] at hc
      rcases List.mem_append.mp hc with hc | hc
      · split at hc
        · have := List.eq_of_mem_singleton hc; omega
        · cases hc
      · have := of_decide_eq_true (hI.dig c hc); omega
    have dok : ∀ c ∈ ds, c < 1114112 := fun c hc => by
      have := of_decide_eq_true (hI.dig c hc)
      omega
    refine kSeq_nx (wS_seq (wS_set (wE_sl (wE_txt rfl hr1 (wO_so (wE_var rfl ⟨_, rfl, wO_so (wE_at rfl hr1 ⟨_, rfl, ?_⟩)⟩))))))
    refine wM_slT (i := p) (j := q + ds.length) rfl rfl (by rw [szl]; omega) ?_
    rw [hslice]
    have hls : Txt.lstripChars (st wd) (st [45]) = st ds := by
      rw [← hwd]
      cases neg with
      | true => exact lstrip_neg hh45
      | false => exact lstrip_ok hh45
    refine kSeq_nx (wS_seq (wS_set (wE_bm (wE_var rfl ⟨rfl, wL_cons (wE_str (wL_nil ?_))⟩))))
    refine wM_of (v := .dat (.str (st ds))) (μ' := μ.set r (rd l (q + ds.length))) ?_ ?_
    · show (if decide ((st wd).length ≤ sizeLine) = true then some (Val.dat (.str (Txt.lstripChars (st wd) (st [45]))), _) else none) = _
      rw [if_pos (decide_eq_true (by rw [st_length, szl]; omega)), hls]
    refine kSeq_nx (wS_seq (wS_ifB (noInt neg ds) ?_ (fun hB => ?_) (fun hB => ?_)))
    · refine wT_or (wT_bv (wE_app (wL_cons (wE_var rfl (wL_cons (wE_str (wL_nil ?_)))))))
      refine wM_eqT dok (by decide) ⟨_, rfl, ?_⟩
      by_cases e0 : ds = []
      · rw [decide_eq_true e0]
        exact iteY rfl ⟨(decide_eq_true (.inl e0)).symm, rfl⟩
      · rw [decide_eq_false e0]
        obtain ⟨c0, ds', hds⟩ : ∃ c ds', ds = c :: ds' := by
          cases ds with
          | nil => exact absurd rfl e0
          | cons c ds' => exact ⟨c, ds', rfl⟩
        refine iteZ rfl (wT_and (wT_bv (wE_app (wL_cons (wE_app (wL_cons (wE_var rfl (wL_cons (wE_int (wL_nil ?_))))))))))
        refine wM_of (v := .dat (.str (st [c0]))) (μ' := μ.set r (rd l (q + ds.length))) ?_ ?_
        · show (if (st ds).length ≤ sizeLine then match atI (st ds).cps.toList 0 with
              | some c => some (Val.dat (.str ⟨#[c]⟩), _)
              | none => none
            else none) = _
          rw [if_pos (by rw [st_length, szl]; have := hI.len; omega), st_toList, atI_at (xs := ds) (i := 0) (j := 0) (x := c0) rfl (by rw [hds]; rfl)]
          rfl
        have hc0 := of_decide_eq_true (hI.dig c0 (by rw [hds]; exact List.mem_cons_self ..))
        refine wL_cons (wE_str (wL_nil ?_))
        rw [lit_0]
        refine wM_eqT (fun c hc => by have := List.eq_of_mem_singleton hc; omega) (by decide) ⟨_, rfl, ?_⟩
        by_cases e1 : c0 = 48
        · rw [decide_eq_true (show [c0] = [48] by rw [e1])]
          refine iteY rfl (wT_bv (wE_app (wL_cons (wE_var rfl (wL_cons (wE_str (wL_nil ?_)))))))
          refine wM_neT wok (by decide) ⟨_, rfl, ?_, rfl⟩
          have hh : ds.head? = some 48 := by rw [hds, e1]; rfl
          by_cases e2 : wd = [48]
          · rw [decide_eq_true e2]
            have : neg = false ∧ ds = [48] := by
              cases neg with
              | true =>
                rw [← hwd] at e2
                cases e2
              | false => exact ⟨rfl, by rw [← hwd] at e2; exact e2⟩
            exact (decide_eq_false (fun h => by
              rcases h with h | ⟨_, h⟩
              · exact e0 h
              · exact h this)).symm
          · rw [decide_eq_false e2]
            refine (decide_eq_true (.inr ⟨hh, fun h => e2 ?_⟩)).symm
            rw [← hwd, h.1, h.2]
            rfl
        · rw [decide_eq_false (show ¬ [c0] = [48] by intro h; cases h; exact e1 rfl)]
          refine iteZ rfl ⟨(decide_eq_false ?_).symm, rfl⟩
          rintro (h | ⟨h, _⟩)
          · exact e0 h
          · rw [hds] at h
            cases h
            exact e1 rfl
    · refine wS_ret (wE_non ?_)
      rw [show intR neg ds = .non from if_pos hB]
      exact fin_len s1 (by rw [List.length_set])
    · refine wS_nx (kSeq_nx (wS_ret (wE_app (wL_cons (wE_var rfl (wL_nil ?_))))))
      rw [← hwd]
      refine wM_intT (intText_of' hI.dig (fun e => hB (.inl e)) hI.len) (by rw [hwd]; omega) ?_
      rw [show intR neg ds = .int (intV neg ds) from if_neg hB]
      exact fin_len s1 (by rw [List.length_set])
  by_cases hj : j < ds.length
  · have hge : ds[j]? = some ds[j] := List.getElem?_eq_getElem hj
    have nj : nx1 l (q + j) = [ds[j]] := nx1_at hI.at' hge
    have hd := hI.dig ds[j] (List.getElem_mem hj)
    rw [nj]
    walk_at "ev"
    refine wE_ns rfl hr1 hl s1 ?_
    rw [nj, lit_digits]
    walk_at "ev1"
    walk_at "ev1"
    walk_at "ev1"
    refine wM_inC ?_
    rw [mem_digL, hd]
    walk_at "ev"
    refine wS_adv (d := 1) rfl hr1 ?_
    refine ⟨m - 1, by omega, j + 1, by omega, rfl, ?_⟩
    rw [List.set_set, Nat.add_assoc]
  · have hjl : j = ds.length := by omega
    have nj : nx1 l (q + j) = rest.take 1 := by rw [hjl]; exact nx1_end hI.at'
    rw [nj]
    cases hrest : rest with
    | nil =>
      exact ⟨_, rfl, after hjl⟩
    | cons e rest' =>
      walk_at "ev"
      refine wE_ns rfl hr1 hl s1 ?_
      rw [nj, lit_digits, hrest]
      walk_at "ev1"
      walk_at "ev1"
      walk_at "ev1"
      refine wM_inC (c := e) ?_
      rw [mem_digL, hI.rest e (by rw [hrest]; rfl)]
      exact ⟨_, rfl, after hjl⟩
end K54

namespace K54
open PySem PySem.Spec PyProof.Rows L2 EV
local macro_rules | `(tactic| walk_at "ev1") => `(tactic| with_reducible first
  | (refine' wE_var ?hh ?_; (case hh => with_unfolding_all exact rfl)) | refine wE_int ?_ | refine wE_str ?_ | refine wE_non ?_ | refine wE_bl ?_ | refine wL_nil ?_ | refine wL_cons ?_
  | refine wE_app ?_ | refine wE_bm ?_ | refine wE_sl ?_ | refine wO_no ?_ | refine wO_so ?_ | refine wE_call ?_
  | refine wE_ifx ?_ | refine wE_and ?_ | refine wE_or ?_ | refine wE_chain ?_ | refine wE_frz ?_ | refine wE_lc ?_
  | refine wT_tr ?_ | refine wT_bv ?_ | refine wT_and ?_ | refine wT_or ?_ | refine wT_not ?_ | refine wT_yes ?_
  | refine wS_seq ?_ | refine wS_set ?_ | refine wS_asg ?_ | refine wS_setI ?_ | refine wS_drop ?_ | refine wS_ret ?_ | refine wS_retN ?_ | refine wS_nx ?_ | refine wS_brk ?_ | refine wS_cnt ?_
  | refine kSeq_nx ?_ | refine kSeq_rt ?_ | refine kSeq_bk ?_ | refine kSeq_ct ?_)
local macro_rules | `(tactic| walk_at "ev2") => `(tactic| first
  | ((with_reducible refine' wM_ixB ?hh ?hi ?_); (case hh => first | assumption | exact get_snoc_eq); (case hi => exact rfl)) | (with_reducible refine wM_lenDL ?_) | (with_reducible refine wM_eqI ?_) | (with_reducible refine wM_neI ?_) | (with_reducible refine wM_slL ?_) | (with_reducible refine wM_mul (by omega) ?_) | (with_reducible refine wM_mod (by first | assumption | decide) ?_) | (with_reducible refine wM_div (by first | assumption | decide) ?_)
  | ((with_reducible refine' wM_of ?hh ?_); (case hh => exact rfl)) | ((with_reducible refine' wB_of ?hh ?_); (case hh => exact rfl))
  | ((with_reducible refine' iteY ?hb ?_); (case hb => exact rfl)) | ((with_reducible refine' iteZ ?hb ?_); (case hb => exact rfl)) | refine ⟨_, rfl, ?_⟩ | refine ⟨rfl, ?_⟩ | refine ⟨_, _, _, _, rfl, rfl, (by first | assumption | exact get_snoc_eq), rfl, ?_⟩ | refine ⟨_, _, _, _, rfl, rfl, rfl, rfl, ?_⟩ | refine ⟨_, _, _, rfl, rfl, rfl, rfl, ?_⟩ | refine ⟨_, _, rfl, rfl, rfl, ?_⟩)
local macro_rules | `(tactic| walk_at "done") => `(tactic| first | exact rfl | exact ⟨rfl, rfl⟩ | exact ⟨_, rfl, rfl⟩ | exact ⟨_, _, rfl, rfl⟩ | exact ⟨rfl, _, rfl, rfl⟩ | exact ⟨rfl, _, _, rfl, rfl⟩)
local macro_rules | `(tactic| walk_at "ev") => `(tactic| repeat (first | walk_at "ev1" | walk_at "ev2"))
/-! ### find -/
theorem subAt_one {l : List Nat} {c i : Nat} : Builtin.Str.subAt (st l) (st [c]) i = decide (l[i]? = some c) := by
  unfold Builtin.Str.subAt
  have e : ((st l).cps.extract i (i + (st [c]).length) == (st [c]).cps) = ((l.drop i).take 1 == [c]) := by
    show (l.toArray.extract i (i + 1) == #[c]) = _
    rw [List.extract_toArray]
    simp
  rw [e]
  cases h : l[i]? with
  | none =>
    rw [List.drop_eq_nil_of_le (List.getElem?_eq_none_iff.mp h)]
    rfl
  | some x =>
    obtain ⟨hi, e⟩ := List.getElem?_eq_some_iff.mp h
    rw [List.drop_eq_getElem_cons hi, e]
    show ([x] == [c]) = _
    by_cases hx : x = c
    · subst hx; simp
    · simp [hx]
theorem occ_full (s sub : Str) (hi : Nat) : ∀ (is : List Nat) (a : Array Nat) (f : Nat), 1 ≤ a.size → (forIn is (a, f) (PySem.StrLaws.occBody s sub hi 1)).run.fst = a
  | [], a, f, _ => rfl
  | i :: is, a, f, h => by
    rw [List.forIn_cons]
    unfold PySem.StrLaws.occBody
    rw [if_neg (fun hc => by have h1 : a.size < 1 := hc.1.1.1; omega)]
    exact occ_full s sub hi is a f h
theorem occ_first {l rest : List Nat} {c : Nat} : ∀ (s : List Nat) (lo m f : Nat), f ≤ lo → l.drop lo = s ++ c :: rest → c ∉ s → s.length < m → (forIn (List.range' lo m) ((#[] : Array Nat), f) (PySem.StrLaws.occBody (st l) (st [c]) (st l).length 1)).run.fst = #[lo + s.length]
  | s, lo, 0, f, _, _, _, h => by omega
  | [], lo, m + 1, f, hf, hd, _, _ => by
    rw [List.range'_succ, List.forIn_cons]
    have hlt : lo < l.length := by
      have := congrArg List.length hd
      rw [List.length_drop, List.length_append, List.length_cons] at this
      omega
    have hg : l[lo]? = some c := by
      have := congrArg (fun x => x[0]?) hd
      simpa using this
    unfold PySem.StrLaws.occBody
    rw [if_pos ⟨⟨⟨by show 0 < 1; decide, hf⟩, by rw [st_length, st_length]; show lo + 1 ≤ _; omega⟩, by rw [subAt_one, hg]; simp⟩]
    exact occ_full _ _ _ _ _ _ (by simp)
  | x :: s, lo, m + 1, f, hf, hd, hn, hm => by
    rw [List.range'_succ, List.forIn_cons]
    have hg : l[lo]? = some x := by
      have := congrArg (fun x => x[0]?) hd
      simpa using this
    have hx : x ≠ c := fun e => hn (by rw [e]; exact List.mem_cons_self ..)
    have hd2 : l.drop (lo + 1) = s ++ c :: rest := by
      rw [← List.drop_drop, hd]
      rfl
    have ih := occ_first s (lo + 1) m f (by omega) hd2 (fun h => hn (List.mem_cons_of_mem _ h)) (by rw [List.length_cons] at hm; omega)
    unfold PySem.StrLaws.occBody at ih ⊢
    rw [if_neg (fun hc => by
      have := hc.2
      rw [subAt_one, hg] at this
      exact hx (by simpa using this))]
    refine ih.trans ?_
    rw [List.length_cons]
    congr 2
    omega
theorem find_one {l s rest : List Nat} {c p : Nat} (hd : l.drop p = s ++ c :: rest) (hn : c ∉ s) : Txt.find3 (st l) (st [c]) ((p : Nat) : Int) = ((p + s.length : Nat) : Int) := by
  unfold Txt.find3
  have hlen : p + s.length < l.length := by
    have := congrArg List.length hd
    rw [List.length_drop, List.length_append, List.length_cons] at this
    omega
  have e : fromIndex (st l).length ((p : Nat) : Int) = p := by
    unfold fromIndex
    rw [if_neg (by omega)]
    omega
  rw [e, PySem.StrLaws.occ_eq, occ_first s p _ p (Nat.le_refl _) hd hn (by rw [st_length]; omega)]
/-! ### string -/
structure StrAt (l : List Nat) (p : Nat) (s rest : List Nat) : Prop where
  at' : l.drop p = 34 :: (s ++ 34 :: rest)
  no : 34 ∉ s
  sg : ∀ c ∈ s, c ∈ sgL
theorem mem_sg {c : Nat} (h : c ∈ sgL) : decide (c ∈ sgL) = true := decide_eq_true h
theorem run_string (n k : Nat) (μ : Store) (r p : Nat) (l s rest : List Nat) (hr : μ[r]? = some (rd l p)) (hI : StrAt l p s rest) (hl : l.length ≤ 40000) (hn : 100000 < n) (hS : Shut μ) :
    evCall pr n (k + 1) 5 [.box r] μ = some (.dat (.str (st s)), μ.set r (rd l (p + s.length + 2))) := by
  refine run_of2 [some (.box r), none, none, none] rfl rfl rfl ?_
  unfold R_Reader_string
  have hlen : p + s.length + 2 ≤ l.length := by
    have := congrArg List.length hI.at'
    rw [List.length_drop, List.length_cons, List.length_append, List.length_cons] at this
    omega
  have hd1 : l.drop (p + 1) = s ++ 34 :: rest := by
    rw [← List.drop_drop, hI.at']
    rfl
  refine wS_seq (wS_set (wE_bm (wE_txt rfl hr ⟨rfl, ?_⟩)))
  refine wL_cons (wE_str (wL_cons (wE_app (wL_cons (wE_at rfl hr ?_)))))
  walk_at "ev"
  rw [lit_q, show (p : Int) + 1 = ((p + 1 : Nat) : Int) by omega, find_one hd1 hI.no]
  refine wS_ifs ?_
  walk_at "ev"
  refine wE_txt rfl hr (wO_so (wE_app (wL_cons (wE_at rfl hr ?_))))
  walk_at "ev"
  refine wM_slT (i := p + 1) (j := p + 1 + s.length) (by congr 1) rfl (by rw [szl]; omega) ?_
  rw [hd1, Nat.add_sub_cancel_left, List.take_left]
  refine kSeq_nx (wS_seq (wS_rdA rfl ?_))
  walk_at "ev"
  refine ⟨r, l, p, p + s.length + 2, _, rfl, by omega, rfl, hr, ?_⟩
  have hr1 := set_get (s := rd l (p + s.length + 2)) hr
  have s1 : Shut (μ.set r (rd l (p + s.length + 2))) := shut_rd hS r _ l
  refine kSeq_nx (wS_ret ?_)
  refine wE_ifx (wT_tr ?_)
  walk_at "ev"
  refine lcMS (s := st s) (fun c => .dat (.bl true)) ?_ ?_ (fun c hc => ?_) ?_
  · rw [st_toList]; show _ < n; omega
  · rw [st_toList, szl]; omega
  · rw [st_toList] at hc
    refine lcStep_map (ρ2 := [some (.box r), some (.dat (.int ((p + 1 + s.length : Nat) : Int))), some (.dat (.str (st s))), some (sgn c)]) rfl ?_
    rw [lit_signs]
    repeat walk_at "ev1"
    refine wM_inC (c := c) ?_
    rw [mem_sg (hI.sg c hc)]
    exact ⟨rfl, rfl⟩
  · rw [st_toList]
    refine mk_dats (ds := s.map fun _ => .bl true) (by simp) ?_
    walk_at "ev"
    refine wM_allB (bs := s.map fun _ => true) (by show some _ = _; simp) ?_
    walk_at "ev"
    rw [show (s.map fun _ => true).all id = true by simp]
    walk_at "ev"
    exact fin_len s1 (by rw [List.length_set])
theorem find_no {l : List Nat} {c p : Nat} (hn : c ∉ l.drop p) : Txt.find3 (st l) (st [c]) ((p : Nat) : Int) = -1 := by
  unfold Txt.find3
  have e : fromIndex (st l).length ((p : Nat) : Int) = p := by
    unfold fromIndex
    rw [if_neg (by omega)]
    omega
  have : Builtin.Str.occurrences (st l) (st [c]) p (st l).length 1 = [] := by
    rw [PySem.StrLaws.occ_eq]
    have := (PySem.StrLaws.occ_none (st l) (st [c]) (st l).length (List.range' p ((st l).length + 1 - p)) p (fun i hi => (List.mem_range'_1.mp hi).1)).mpr (fun i hi h => by
      have h2 := h.2
      rw [subAt_one] at h2
      have h3 : l[i]? = some c := by simpa using h2
      have hp := (List.mem_range'_1.mp hi).1
      refine hn (List.mem_of_getElem? (i := i - p) ?_)
      rw [List.getElem?_drop, show p + (i - p) = i by omega]
      exact h3)
    rw [this]
  rw [e, this]
theorem run_stringN (n k : Nat) (μ : Store) (r p : Nat) (l : List Nat) (hr : μ[r]? = some (rd l p)) (hI : 34 ∉ l.drop (p + 1)) (hl : l.length ≤ 40000) (hn : 100000 < n) (hS : Shut μ) :
    evCall pr n (k + 1) 5 [.box r] μ = some (.dat .non, μ) := by
  refine run_of2 [some (.box r), none, none, none] rfl rfl rfl ?_
  unfold R_Reader_string
  refine wS_seq (wS_set (wE_bm (wE_txt rfl hr ⟨rfl, ?_⟩)))
  refine wL_cons (wE_str (wL_cons (wE_app (wL_cons (wE_at rfl hr (wL_cons (wE_int (wL_nil ?_))))))))
  refine wM_of rfl (wL_nil ?_)
  rw [lit_q]
  refine wM_of (v := .dat (.int (-1))) (μ' := μ) ?_ ?_
  · show some (Val.dat (.int (Txt.find3 (st l) (st [34]) ((p : Int) + 1))), μ) = _
    rw [show (p : Int) + 1 = ((p + 1 : Nat) : Int) by omega, find_no hI]
  refine kSeq_nx (wS_seq (wS_ifs (wT_bv (wE_app (wL_cons (wE_var rfl (wL_cons (wE_int (wL_nil ?_)))))))))
  refine wM_of (v := .dat (.bl true)) (μ' := μ) rfl ⟨_, rfl, iteY rfl (wS_ret (wE_non ?_))⟩
  exact fin_same hS
/-! ### single, whatever comes -/
def SingR (l : List Nat) (p q : Nat) (d : D) : Prop := (nx1 l p ≠ [34] ∧ ∃ q0 neg ds rest, IntAt l p q0 neg ds rest ∧ q = q0 + ds.length ∧ d = intR neg ds) ∨ (∃ s rest, StrAt l p s rest ∧ q = p + s.length + 2 ∧ d = .str (st s)) ∨ (nx1 l p = [34] ∧ 34 ∉ l.drop (p + 1) ∧ q = p ∧ d = .non)
theorem run_single (n k : Nat) (μ : Store) (r p q : Nat) (l : List Nat) (d : D) (hr : μ[r]? = some (rd l p)) (hI : SingR l p q d) (hA : ∀ c ∈ l, c < 128) (hl : l.length ≤ 40000) (hn : 100000 < n) (hS : Shut μ) :
    evCall pr n (k + 3) 6 [.box r] μ = some (.dat d, μ.set r (rd l q)) := by
  refine run_of2 [some (.box r)] rfl rfl rfl ?_
  unfold R_Reader_single
  refine wS_ret (wE_ifx (wT_bv (wE_app (wL_cons (wE_ns rfl hr hl hS (wL_cons (wE_str (wL_nil ?_))))))))
  rw [lit_q]
  refine wM_eqT (nx1_ok hA) (by decide) ⟨_, rfl, ?_⟩
  rcases hI with ⟨h0, q0, neg, ds, rest, hI, rfl, rfl⟩ | ⟨s, rest, hI, rfl, rfl⟩ | ⟨h0, hI, rfl, rfl⟩
  · rw [decide_eq_false h0]
    refine iteZ rfl (wE_rdM nm_in (wE_var rfl ⟨r, l, p, rfl, hr, wL_nil ?_⟩))
    refine wM_of (run_integer n k μ r p q0 l ds rest neg hr hI hA hl hn hS) ?_
    exact fin_len (shut_rd hS r _ l) (by rw [List.length_set])
  · have n0 : nx1 l p = [34] := nx1_at (j := 0) (ds := [34]) hI.at' rfl
    rw [n0]
    refine iteY (by decide) (wE_rdM nm_st (wE_var rfl ⟨r, l, p, rfl, hr, wL_nil ?_⟩))
    refine wM_of (run_string n (k + 1) μ r p l s rest hr hI hl hn hS) ?_
    exact fin_len (shut_rd hS r _ l) (by rw [List.length_set])
  · rw [h0]
    refine iteY (by decide) (wE_rdM nm_st (wE_var rfl ⟨r, l, q, rfl, hr, wL_nil ?_⟩))
    refine wM_of (run_stringN n (k + 1) μ r q l hr hI hl hn hS) ?_
    rw [← rd_self hr]
    exact fin_same hS
/-- no run of digits of 600 signs -/
def RunOk (l : List Nat) : Prop := ∀ q, ((l.drop q).takeWhile isDig).length ≤ 400
theorem mem_tw {p : Nat → Bool} : ∀ {l : List Nat} {x : Nat}, x ∈ l.takeWhile p → p x = true
  | a :: l, x, h => by
    by_cases ha : p a = true
    · rw [List.takeWhile_cons_of_pos ha] at h
      rcases List.mem_cons.mp h with rfl | h
      · exact ha
      · exact mem_tw h
    · rw [List.takeWhile_cons_of_neg ha] at h
      cases h
theorem first_of {c : Nat} : ∀ {l : List Nat}, c ∈ l → ∃ s rest, l = s ++ c :: rest ∧ c ∉ s
  | a :: l, h => by
    by_cases e : a = c
    · subst e
      exact ⟨[], l, rfl, by simp⟩
    · obtain ⟨s, rest, h1, h2⟩ := first_of (l := l) (by
        rcases List.mem_cons.mp h with h | h
        · exact absurd h.symm e
        · exact h)
      exact ⟨a :: s, rest, by rw [h1]; rfl, fun hm => by
        rcases List.mem_cons.mp hm with h | h
        · exact e h.symm
        · exact h2 h⟩
theorem sing_ex {l : List Nat} {p : Nat} (hp : p ≤ l.length) (hR : RunOk l) (hs : ∀ c ∈ l, c ∈ sgL) : ∃ q d, SingR l p q d ∧ p ≤ q ∧ q ≤ l.length ∧ (d ≠ .non → p < q) := by
  by_cases h34 : nx1 l p = [34]
  · have hlt := nx1_lt' h34
    by_cases hq : 34 ∈ l.drop (p + 1)
    · obtain ⟨s, rest, e, hn⟩ := first_of hq
      have hd : l.drop p = 34 :: (s ++ 34 :: rest) := by
        have h1 := h34
        unfold nx1 at h1
        rw [List.drop_eq_getElem_cons hlt] at h1 ⊢
        have h2 : [l[p]] = [34] := h1
        rw [(List.cons.inj h2).1, e]
      have hlen := congrArg List.length hd
      rw [List.length_drop, List.length_cons, List.length_append, List.length_cons] at hlen
      refine ⟨p + s.length + 2, .str (st s), .inr (.inl ⟨s, rest, ⟨hd, hn, fun c hc => hs c (List.mem_of_mem_drop (i := p) (by rw [hd]; simp [hc]))⟩, rfl, rfl⟩), by omega, by omega, fun _ => by omega⟩
    · exact ⟨p, .non, .inr (.inr ⟨h34, hq, rfl, rfl⟩), by omega, hp, fun h => absurd rfl h⟩
  · obtain ⟨neg, q, hsg, hpq, hql⟩ : ∃ (neg : Bool) (q : Nat), ((neg = true ∧ nx1 l p = [45] ∧ q = p + 1) ∨ (neg = false ∧ nx1 l p ≠ [45] ∧ q = p)) ∧ p ≤ q ∧ q ≤ l.length := by
      by_cases h45 : nx1 l p = [45]
      · have := nx1_lt' h45
        exact ⟨true, p + 1, .inl ⟨rfl, h45, rfl⟩, by omega, by omega⟩
      · exact ⟨false, p, .inr ⟨rfl, h45, rfl⟩, by omega, hp⟩
    have hle := congrArg List.length (List.takeWhile_append_dropWhile (p := isDig) (l := l.drop q))
    rw [List.length_append, List.length_drop] at hle
    refine ⟨q + ((l.drop q).takeWhile isDig).length, intR neg ((l.drop q).takeWhile isDig), .inl ⟨h34, q, neg, (l.drop q).takeWhile isDig, (l.drop q).dropWhile isDig, ⟨hsg, (List.takeWhile_append_dropWhile ..).symm, fun c hc => mem_tw hc, fun c hc => ?_, hR q⟩, rfl, rfl⟩, by omega, by omega, fun h => ?_⟩
    · cases he : (l.drop q).dropWhile isDig with
      | nil => rw [he] at hc; cases hc
      | cons x xs =>
        have := List.head_dropWhile_not (p := isDig) (l := l.drop q) (by rw [he]; exact List.cons_ne_nil _ _)
        simp only [he, List.head_cons] at this
        rw [he] at hc
        cases hc
        simpa using this
    · by_cases e : (l.drop q).takeWhile isDig = []
      · exact absurd (if_pos (.inl e)) h
      · have : ((l.drop q).takeWhile isDig).length ≠ 0 := fun h => e (List.eq_nil_of_length_eq_zero h)
        omega
/-! ### closed -/
theorem run_closed (n k : Nat) (μ : Store) (r p m b : Nat) (l : List Nat) (us : List Val) (ds : List D) (hr : μ[r]? = some (rd l p)) (hm : μ[m]? = some (.lst (us ++ [.box b]))) (hb : μ[b]? = some (.lst (ds.map .dat))) (hmr : m ≠ r) (hbm : b ≠ m) (hbr : b ≠ r) (hS : Shut μ) :
    evCall pr n (k + 1) 7 [.box r, .box m] μ = some (.dat (.tup ds), (μ.set r (rd l (p + 1))).set m (.lst us)) := by
  refine run_of2 [some (.box r), some (.box m)] rfl rfl rfl ?_
  unfold R_Reader_closed
  refine wS_seq (wS_adv (d := 1) rfl hr ?_)
  have hm1 : (μ.set r (rd l (p + 1)))[m]? = some (.lst (us ++ [.box b])) := by rw [set_ne (fun e => hmr e.symm)]; exact hm
  have hb1 : ((μ.set r (rd l (p + 1))).set m (.lst us))[b]? = some (.lst (ds.map .dat)) := by rw [set_ne (fun e => hbm e.symm), set_ne (fun e => hbr e.symm)]; exact hb
  have s1 : Shut (μ.set r (rd l (p + 1))) := shut_rd hS r _ l
  have s2 : Shut ((μ.set r (rd l (p + 1))).set m (.lst us)) := by
    refine shut_set s1 ?_
    have := List.all_eq_true.mp s1 _ (List.mem_of_getElem? hm1)
    simp only [soOk, List.all_append, Bool.and_eq_true] at this ⊢
    exact this.1
  walk_at "ev1"
  walk_at "ev1"
  walk_at "ev1"
  walk_at "ev1"
  refine wE_bm (wE_var rfl ⟨?_, wL_nil ?_⟩)
  · show (rdL (.box m) _).isSome = true
    rw [rdL_box hm1]
    rfl
  refine wM_of (v := .box b) (μ' := (μ.set r (rd l (p + 1))).set m (.lst us)) ?_ ?_
  · show (match (μ.set r (rd l (p + 1)))[m]? with
      | some (.lst us) => match us[us.length - 1]? with
        | some y => some (y, (μ.set r (rd l (p + 1))).set m (.lst us.dropLast))
        | none => none
      | _ => none) = _
    rw [hm1]
    simp
  refine wL_nil ?_
  refine wM_of (v := .dat (.tup ds)) (μ' := (μ.set r (rd l (p + 1))).set m (.lst us)) ?_ ?_
  · show (match rdL (.box b) ((μ.set r (rd l (p + 1))).set m (.lst us)) with
      | some us' => mkT us' ((μ.set r (rd l (p + 1))).set m (.lst us))
      | none => none) = _
    rw [rdL_box hb1]
    unfold mkT
    simp only [datsOf_map]
    rfl
  exact fin_len s2 (by rw [List.length_set, List.length_set])
end K54

namespace K54
open PySem PySem.Spec PyProof.Rows L2 EV
local macro_rules | `(tactic| walk_at "ev1") => `(tactic| with_reducible first
  | (refine' wE_var ?hh ?_; (case hh => with_unfolding_all exact rfl)) | refine wE_int ?_ | refine wE_str ?_ | refine wE_non ?_ | refine wE_bl ?_ | refine wL_nil ?_ | refine wL_cons ?_
  | refine wE_app ?_ | refine wE_bm ?_ | refine wE_sl ?_ | refine wO_no ?_ | refine wO_so ?_ | refine wE_call ?_
  | refine wE_ifx ?_ | refine wE_and ?_ | refine wE_or ?_ | refine wE_chain ?_ | refine wE_frz ?_ | refine wE_lc ?_
  | refine wT_tr ?_ | refine wT_bv ?_ | refine wT_and ?_ | refine wT_or ?_ | refine wT_not ?_ | refine wT_yes ?_
  | refine wS_seq ?_ | refine wS_set ?_ | refine wS_asg ?_ | refine wS_setI ?_ | refine wS_drop ?_ | refine wS_ret ?_ | refine wS_retN ?_ | refine wS_nx ?_ | refine wS_brk ?_ | refine wS_cnt ?_
  | refine kSeq_nx ?_ | refine kSeq_rt ?_ | refine kSeq_bk ?_ | refine kSeq_ct ?_)
local macro_rules | `(tactic| walk_at "ev2") => `(tactic| first
  | ((with_reducible refine' wM_ixB ?hh ?hi ?_); (case hh => first | assumption | exact get_snoc_eq); (case hi => exact rfl)) | (with_reducible refine wM_lenDL ?_) | (with_reducible refine wM_eqI ?_) | (with_reducible refine wM_neI ?_) | (with_reducible refine wM_slL ?_) | (with_reducible refine wM_mul (by omega) ?_) | (with_reducible refine wM_mod (by first | assumption | decide) ?_) | (with_reducible refine wM_div (by first | assumption | decide) ?_)
  | ((with_reducible refine' wM_of ?hh ?_); (case hh => exact rfl)) | ((with_reducible refine' wB_of ?hh ?_); (case hh => exact rfl))
  | ((with_reducible refine' iteY ?hb ?_); (case hb => exact rfl)) | ((with_reducible refine' iteZ ?hb ?_); (case hb => exact rfl)) | refine ⟨_, rfl, ?_⟩ | refine ⟨rfl, ?_⟩ | refine ⟨_, _, _, _, rfl, rfl, (by first | assumption | exact get_snoc_eq), rfl, ?_⟩ | refine ⟨_, _, _, _, rfl, rfl, rfl, rfl, ?_⟩ | refine ⟨_, _, _, rfl, rfl, rfl, rfl, ?_⟩ | refine ⟨_, _, rfl, rfl, rfl, ?_⟩)
local macro_rules | `(tactic| walk_at "done") => `(tactic| first | exact rfl | exact ⟨rfl, rfl⟩ | exact ⟨_, rfl, rfl⟩ | exact ⟨_, _, rfl, rfl⟩ | exact ⟨rfl, _, rfl, rfl⟩ | exact ⟨rfl, _, _, rfl, rfl⟩)
local macro_rules | `(tactic| walk_at "ev") => `(tactic| repeat (first | walk_at "ev1" | walk_at "ev2"))
/-! ### ended, value -/
def Boxes (μ : Store) : List Nat → List (List D) → Prop
  | [], [] => True
  | b :: bs, ds :: S => μ[b]? = some (.lst (ds.map .dat)) ∧ Boxes μ bs S
  | _, _ => False
theorem boxes_set {μ : Store} {b : Nat} {x : SO} : ∀ {bs : List Nat} {S : List (List D)}, b ∉ bs → Boxes μ bs S → Boxes (μ.set b x) bs S
  | [], [], _, _ => trivial
  | a :: bs, ds :: S, h, hb => ⟨by rw [set_ne (fun e => h (by rw [e]; exact List.mem_cons_self ..))]; exact hb.1, boxes_set (fun hm => h (List.mem_cons_of_mem _ hm)) hb.2⟩
  | [], _ :: _, _, hb => hb.elim
  | _ :: _, [], _, hb => hb.elim
theorem boxes_app {μ : Store} {x : SO} : ∀ {bs : List Nat} {S : List (List D)}, Boxes μ bs S → Boxes (μ ++ [x]) bs S
  | [], [], _ => trivial
  | a :: bs, ds :: S, hb => ⟨get_snoc_lt hb.1, boxes_app hb.2⟩
  | [], _ :: _, hb => hb.elim
  | _ :: _, [], hb => hb.elim
theorem boxes_lt {μ : Store} : ∀ {bs : List Nat} {S : List (List D)}, Boxes μ bs S → ∀ b ∈ bs, b < μ.length
  | [], [], _, b, h => by cases h
  | a :: bs, ds :: S, hb, b, h => by
    rcases List.mem_cons.mp h with rfl | h
    · exact (List.getElem?_eq_some_iff.mp hb.1).1
    · exact boxes_lt hb.2 b h
  | [], _ :: _, hb, _, _ => hb.elim
  | _ :: _, [], hb, _, _ => hb.elim
abbrev bxs (bs : List Nat) : List Val := bs.reverse.map Val.box
/-- a reader's run within: where its lists stand -/
structure IS (μ0 : Store) (r : Nat) (l : List Nat) (μ : Store) (p : Nat) (S : List (List D)) : Prop where
  box : ∃ bs : List Nat, μ[μ0.length]? = some (.lst (bxs bs)) ∧ Boxes μ bs S ∧ bs.Nodup ∧ ∀ b ∈ bs, μ0.length < b
  base : μ.take μ0.length = μ0.set r (rd l p)
  rN : r < μ0.length
  shut : Shut μ
  small : ∀ ds ∈ S, ds.length ≤ p
  pl : p ≤ l.length
section
variable {μ0 μ : Store} {r p : Nat} {l : List Nat} {S : List (List D)}
theorem IS.rdr (h : IS μ0 r l μ p S) : μ[r]? = some (rd l p) := by
  have e := congrArg (fun x => x[r]?) h.base
  simp only [List.getElem?_take_of_lt h.rN] at e
  rw [e, List.getElem?_set_self h.rN]
theorem IS.len (h : IS μ0 r l μ p S) : μ0.length < μ.length := by
  obtain ⟨bs, h1, _⟩ := h.box
  exact (List.getElem?_eq_some_iff.mp h1).1
theorem take_set {α : Type} {l : List α} {i n : Nat} {x : α} (h : i < n) : (l.set i x).take n = (l.take n).set i x := by
  rw [List.take_set]
theorem take_set2 {α : Type} {l : List α} {i n : Nat} {x : α} (h : n ≤ i) : (l.set i x).take n = l.take n := by
  rw [List.take_set, List.set_eq_of_length_le]
  rw [List.length_take]
  omega
/-- the place moves -/
theorem IS.move (h : IS μ0 r l μ p S) {q : Nat} (hq : p ≤ q) (hl : q ≤ l.length) : IS μ0 r l (μ.set r (rd l q)) q S := by
  obtain ⟨bs, h1, h2, h3, h4⟩ := h.box
  have hr := h.rN
  refine ⟨⟨bs, ?_, boxes_set (fun hm => ?_) h2, h3, h4⟩, ?_, hr, shut_rd h.shut r q l, fun ds hd => Nat.le_trans (h.small ds hd) hq, hl⟩
  · rw [set_ne (by omega)]; exact h1
  · have := h4 r hm; omega
  · rw [take_set hr, h.base, List.set_set]
end
def endM (l : List Nat) : Nat → List (List D) → D → Option (Nat × List (List D) × D)
  | p, [], d => some (p, [], d)
  | p, t :: S, d => if nx1 l p = [44] then (if nx1 l (p + 1) = [41] then endM l (p + 2) S (.tup (t ++ [d])) else some (p + 1, (t ++ [d]) :: S, d))
    else if nx1 l p = [41] then endM l (p + 1) S (.tup (t ++ [d])) else none
theorem atI_last {α : Type} {us : List α} {x : α} : atI (us ++ [x]) (-1) = some x := by
  unfold atI ixN
  rw [if_neg (by decide), if_pos (by rw [List.length_append, List.length_singleton]; omega), List.length_append, List.length_singleton]
  show (us ++ [x])[(-1 + ((us.length + 1 : Nat) : Int)).toNat]? = _
  rw [show (-1 + ((us.length + 1 : Nat) : Int)).toNat = us.length by omega]
  exact get_snoc_eq
theorem nx1_lt {l : List Nat} {p c : Nat} (h : nx1 l p = [c]) : p < l.length := by
  refine Nat.lt_of_not_le fun hle => ?_
  unfold nx1 at h
  rw [List.drop_eq_nil_of_le hle] at h
  cases h
theorem isLst_box {μ : Store} {b : Nat} {us : List Val} (h : μ[b]? = some (.lst us)) : isLst (.box b) μ = true := by
  unfold isLst
  rw [rdL_box h]
  rfl
theorem wM_appB {b : Nat} {us : List Val} {v : Val} {μ : Store} {Q : KE} (h : μ[b]? = some (.lst us)) (hl : us.length < sizeLine) (q : Q (.dat .non) (μ.set b (.lst (us ++ [v])))) : wM (mAppend.sem (.box b) [v] μ) Q := by
  refine ⟨_, _, ?_, q⟩
  show (match μ[b]? with
      | some (.lst us) => if us.length < sizeLine then some (Val.dat .non, μ.set b (.lst (us ++ [v]))) else none
      | _ => none) = _
  rw [h]
  simp only [if_pos hl]
theorem tr_box {b : Nat} {us : List Val} {μ : Store} (h : μ[b]? = some (.lst us)) : tTr.sem (.box b) μ = some (!us.isEmpty) := by
  show (seqOf (.box b) μ).map (fun us => !us.isEmpty) = _
  rw [seqOf_box h]
  rfl
/-- what ended leaves -/
def EndP (μ0 : Store) (r : Nat) (l : List Nat) (len : Nat) (E : Option (Nat × List (List D) × D)) (v : Val) (μ' : Store) : Prop := match E with
  | some (p', S', d') => v = .dat d' ∧ IS μ0 r l μ' p' S' ∧ μ'.length = len
  | none => v = .dat .non ∧ (∃ q, μ'.take μ0.length = μ0.set r (rd l q) ∧ q ≤ l.length) ∧ Shut μ' ∧ μ'.length = len
theorem run_ended (n k : Nat) (μ0 μ : Store) (r p : Nat) (l : List Nat) (S : List (List D)) (d : D) (hI : IS μ0 r l μ p S) (E : Option (Nat × List (List D) × D)) (hE : endM l p S d = E) (hA : ∀ c ∈ l, c < 128) (hl : l.length ≤ 40000) (hS' : S.length ≤ 40000) (hn : 100000 < n) :
    ∃ v μ', evCall pr n (k + 2) 8 [.box r, .box μ0.length, .dat d] μ = some (v, μ') ∧ EndP μ0 r l μ.length E v μ' := by
  refine run_ex [some (.box r), some (.box μ0.length), some (.dat d)] rfl rfl rfl ?_
  unfold R_Reader_ended
  refine wS_seq ?_
  refine wS_whileI (fun m ρ' μ' => ∃ q T e, m = T.length ∧ ρ' = [some (.box r), some (.box μ0.length), some (.dat e)] ∧ IS μ0 r l μ' q T ∧ endM l q T e = E ∧ μ'.length = μ.length) ?_ S.length ⟨p, S, d, rfl, rfl, hI, hE, rfl⟩ (by show _ < n; omega)
  rintro m _ μ1 ⟨q, T, e, rfl, rfl, hI, hE, hlen⟩
  obtain ⟨bs, h1, h2, h3, h4⟩ := hI.box
  have hr := hI.rN
  refine wT_tr (wE_var rfl (wB_of (tr_box h1) ?_))
  cases T with
  | nil =>
    cases bs with
    | cons b bs => exact h2.elim
    | nil =>
      subst hE
      refine iteZ rfl (kSeq_nx (wS_ret (wE_var rfl ?_)))
      exact ⟨_, _, fin_len hI.shut hlen.symm, rfl, hI, hlen⟩
  | cons t T =>
    cases bs with
    | nil => exact h2.elim
    | cons b bs =>
      have hb := h4 b (List.mem_cons_self ..)
      have hnb := (List.nodup_cons.mp h3)
      have hts := hI.small t (List.mem_cons_self ..)
      have hpl := hI.pl
      have ebx : bxs (b :: bs) = bxs bs ++ [.box b] := by simp [bxs]
      rw [ebx] at h1
      refine iteY (by rw [ebx]; simp) ?_
      refine wS_seq (wS_drop (wE_bm (wE_app (wL_cons (wE_var rfl (wL_cons (wE_app (wL_cons (wE_int (wL_nil ?_)))))))))) 
      refine wM_of rfl (wL_nil ?_)
      refine wM_ixB h1 (i := -1) (u := .box b) ?_ ?_
      · exact atI_last
      refine ⟨isLst_box h2.1, wL_cons (wE_var rfl (wL_nil ?_))⟩
      refine wM_appB h2.1 (by rw [List.length_map, szl]; omega) ?_
      -- the store behind it
      have hm1 : (μ1.set b (.lst (t.map Val.dat ++ [.dat e])))[μ0.length]? = some (.lst (bxs bs ++ [.box b])) := by rw [set_ne (by omega)]; exact h1
      have hb1 : (μ1.set b (.lst (t.map Val.dat ++ [.dat e])))[b]? = some (.lst ((t ++ [e]).map Val.dat)) := by rw [set_get h2.1, List.map_append]; rfl
      have hr1 : (μ1.set b (.lst (t.map Val.dat ++ [.dat e])))[r]? = some (rd l q) := by rw [set_ne (by omega)]; exact hI.rdr
      have s1 : Shut (μ1.set b (.lst (t.map Val.dat ++ [.dat e]))) := shut_set hI.shut (by
        have := soOk_dats μ1.length (t ++ [e])
        rw [List.map_append] at this
        exact this)
      have b1 : (μ1.set b (.lst (t.map Val.dat ++ [.dat e]))).take μ0.length = μ0.set r (rd l q) := by rw [take_set2 (by omega)]; exact hI.base
      have x1 : Boxes (μ1.set b (.lst (t.map Val.dat ++ [.dat e]))) bs T := boxes_set hnb.1 h2.2
      have l1 : (μ1.set b (.lst (t.map Val.dat ++ [.dat e]))).length = μ.length := by rw [List.length_set]; exact hlen
      generalize hμ2 : μ1.set b (.lst (t.map Val.dat ++ [.dat e])) = μ2 at *
      -- the tuple that ends
      have close : ∀ q1, q1 < l.length → q ≤ q1 → endM l (q1 + 1) T (.tup (t ++ [e])) = E → 
          wS { call := evCall pr n (k + 1), n := n, fs := pr.fs } (RS.asg (RG.nm 2) (RE.mth 0 (Str.ofString "closed") 7 (RE.var 0) (RL.cons (RE.var 1) RL.nil))) [some (.box r), some (.box μ0.length), some (.dat e)] (μ2.set r (rd l q1)) (fun o ρ' μ' => match o with
            | .nx => ∃ m', m' < (t :: T).length ∧ ∃ q T e, m' = T.length ∧ ρ' = [some (.box r), some (.box μ0.length), some (.dat e)] ∧ IS μ0 r l μ' q T ∧ endM l q T e = E ∧ μ'.length = μ.length
            | _ => False) := by
        intro q1 hq1 hqq hE1
        have hr2 := set_get (s := rd l q1) hr1
        refine wS_set (wE_rdM nm_cl (wE_var rfl ⟨r, l, q1, rfl, hr2, wL_cons (wE_var rfl (wL_nil ?_))⟩))
        refine wM_of (run_closed n k _ r q1 μ0.length b l (bxs bs) (t ++ [e]) hr2 (by rw [set_ne (by omega)]; exact hm1) (by rw [set_ne (by omega)]; exact hb1) (by omega) (by omega) (by omega) (shut_rd s1 r q1 l)) ?_
        have hmm : ((μ2.set r (rd l q1)).set r (rd l (q1 + 1)))[μ0.length]? = some (.lst (bxs bs ++ [.box b])) := by rw [set_ne (by omega), set_ne (by omega)]; exact hm1
        refine ⟨T.length, by rw [List.length_cons]; omega, q1 + 1, T, _, rfl, rfl, ⟨⟨bs, set_get hmm, ?_, hnb.2, fun b hb => h4 b (List.mem_cons_of_mem _ hb)⟩, ?_, hr, ?_, fun ds hd => ?_, hq1⟩, hE1, by rw [List.length_set, List.length_set, List.length_set]; exact l1⟩
        · refine boxes_set (fun hm => ?_) (boxes_set (fun hm => ?_) (boxes_set (fun hm => ?_) x1))
          · have := h4 _ (List.mem_cons_of_mem _ hm); omega
          · have := h4 _ (List.mem_cons_of_mem _ hm); omega
          · have := h4 _ (List.mem_cons_of_mem _ hm); omega
        · rw [take_set2 (Nat.le_refl _), take_set hr, take_set hr, b1, List.set_set, List.set_set]
        · refine shut_set (shut_rd (shut_rd s1 r q1 l) r (q1 + 1) l) ?_
          have := List.all_eq_true.mp s1 _ (List.mem_of_getElem? hm1)
          simp only [soOk, List.all_append, Bool.and_eq_true] at this ⊢
          rw [List.length_set, List.length_set]
          exact this.1
        · have := hI.small ds (List.mem_cons_of_mem _ hd)
          omega
      refine kSeq_nx (wS_seq (wS_ifs (wT_bv (wE_app (wL_cons (wE_ns rfl hr1 hl s1 (wL_cons (wE_str (wL_nil ?_)))))))))
      rw [lit_c]
      refine wM_eqT (nx1_ok hA) (by decide) ?_
      rw [endM] at hE
      by_cases c1 : nx1 l q = [44]
      · rw [if_pos c1] at hE
        have hq := nx1_lt c1
        rw [decide_eq_true c1]
        refine ⟨_, rfl, iteY rfl ?_⟩
        refine wS_seq (wS_adv (d := 1) rfl hr1 ?_)
        have hr2 := set_get (s := rd l (q + 1)) hr1
        have s2 := shut_rd s1 r (q + 1) l
        refine kSeq_nx (wS_ifs (wT_bv (wE_app (wL_cons (wE_ns rfl hr2 hl s2 (wL_cons (wE_str (wL_nil ?_))))))))
        rw [lit_s]
        refine wM_neT (nx1_ok hA) (by decide) ?_
        by_cases c2 : nx1 l (q + 1) = [41]
        · rw [if_pos c2] at hE
          rw [decide_eq_true c2]
          refine ⟨_, rfl, iteZ rfl (wS_nx (kSeq_nx ?_))⟩
          obtain ⟨o, ρ', μ', e1, hh⟩ := close (q + 1) (nx1_lt c2) (by omega) hE
          cases o with
          | nx => exact ⟨_, _, _, e1, hh⟩
          | bk => exact hh.elim
          | ct => exact hh.elim
          | rt v => exact hh.elim
        · rw [if_neg c2] at hE
          cases hE
          rw [decide_eq_false c2]
          refine ⟨_, rfl, iteY rfl (wS_brk (kSeq_bk ?_))⟩
          refine kSeq_nx (wS_ret (wE_var rfl ?_))
          refine ⟨_, _, fin_len s2 (by rw [List.length_set]; exact l1.symm), rfl, ⟨⟨b :: bs, ?_, ?_, h3, h4⟩, ?_, hr, s2, fun ds hd => ?_, hq⟩, by rw [List.length_set]; exact l1⟩
          · rw [set_ne (by omega), ebx]; exact hm1
          · refine ⟨by rw [set_ne (by omega)]; exact hb1, boxes_set (fun hm => ?_) x1⟩
            have := h4 _ (List.mem_cons_of_mem _ hm); omega
          · rw [take_set hr, b1, List.set_set]
          · rcases List.mem_cons.mp hd with rfl | hd
            · rw [List.length_append, List.length_singleton]; omega
            · have := hI.small ds (List.mem_cons_of_mem _ hd); omega
      · rw [if_neg c1] at hE
        rw [decide_eq_false c1]
        refine ⟨_, rfl, iteZ rfl ?_⟩
        refine wS_ifs (wT_bv (wE_app (wL_cons (wE_ns rfl hr1 hl s1 (wL_cons (wE_str (wL_nil ?_)))))))
        rw [lit_s]
        refine wM_neT (nx1_ok hA) (by decide) ?_
        by_cases c2 : nx1 l q = [41]
        · rw [if_pos c2] at hE
          rw [decide_eq_true c2]
          refine ⟨_, rfl, iteZ rfl (wS_nx (kSeq_nx ?_))⟩
          obtain ⟨o, ρ', μ', e1, hh⟩ := close q (nx1_lt c2) (Nat.le_refl _) hE
          rw [← rd_self hr1] at e1
          cases o with
          | nx => exact ⟨_, _, _, e1, hh⟩
          | bk => exact hh.elim
          | ct => exact hh.elim
          | rt v => exact hh.elim
        · rw [if_neg c2] at hE
          subst hE
          rw [decide_eq_false c2]
          refine ⟨_, rfl, iteY rfl (wS_ret (wE_non ?_))⟩
          exact ⟨_, _, fin_len s1 l1.symm, rfl, ⟨q, b1, hpl⟩, s1, l1⟩
end K54

namespace K54
open PySem PySem.Spec PyProof.Rows L2 EV
local macro_rules | `(tactic| walk_at "ev1") => `(tactic| with_reducible first
  | (refine' wE_var ?hh ?_; (case hh => with_unfolding_all exact rfl)) | refine wE_int ?_ | refine wE_str ?_ | refine wE_non ?_ | refine wE_bl ?_ | refine wL_nil ?_ | refine wL_cons ?_
  | refine wE_app ?_ | refine wE_bm ?_ | refine wE_sl ?_ | refine wO_no ?_ | refine wO_so ?_ | refine wE_call ?_
  | refine wE_ifx ?_ | refine wE_and ?_ | refine wE_or ?_ | refine wE_chain ?_ | refine wE_frz ?_ | refine wE_lc ?_
  | refine wT_tr ?_ | refine wT_bv ?_ | refine wT_and ?_ | refine wT_or ?_ | refine wT_not ?_ | refine wT_yes ?_
  | refine wS_seq ?_ | refine wS_set ?_ | refine wS_asg ?_ | refine wS_setI ?_ | refine wS_drop ?_ | refine wS_ret ?_ | refine wS_retN ?_ | refine wS_nx ?_ | refine wS_brk ?_ | refine wS_cnt ?_
  | refine kSeq_nx ?_ | refine kSeq_rt ?_ | refine kSeq_bk ?_ | refine kSeq_ct ?_)
local macro_rules | `(tactic| walk_at "ev2") => `(tactic| first
  | ((with_reducible refine' wM_ixB ?hh ?hi ?_); (case hh => first | assumption | exact get_snoc_eq); (case hi => exact rfl)) | (with_reducible refine wM_lenDL ?_) | (with_reducible refine wM_eqI ?_) | (with_reducible refine wM_neI ?_) | (with_reducible refine wM_slL ?_) | (with_reducible refine wM_mul (by omega) ?_) | (with_reducible refine wM_mod (by first | assumption | decide) ?_) | (with_reducible refine wM_div (by first | assumption | decide) ?_)
  | ((with_reducible refine' wM_of ?hh ?_); (case hh => exact rfl)) | ((with_reducible refine' wB_of ?hh ?_); (case hh => exact rfl))
  | ((with_reducible refine' iteY ?hb ?_); (case hb => exact rfl)) | ((with_reducible refine' iteZ ?hb ?_); (case hb => exact rfl)) | refine ⟨_, rfl, ?_⟩ | refine ⟨rfl, ?_⟩ | refine ⟨_, _, _, _, rfl, rfl, (by first | assumption | exact get_snoc_eq), rfl, ?_⟩ | refine ⟨_, _, _, _, rfl, rfl, rfl, rfl, ?_⟩ | refine ⟨_, _, _, rfl, rfl, rfl, rfl, ?_⟩ | refine ⟨_, _, rfl, rfl, rfl, ?_⟩)
local macro_rules | `(tactic| walk_at "done") => `(tactic| first | exact rfl | exact ⟨rfl, rfl⟩ | exact ⟨_, rfl, rfl⟩ | exact ⟨_, _, rfl, rfl⟩ | exact ⟨rfl, _, rfl, rfl⟩ | exact ⟨rfl, _, _, rfl, rfl⟩)
local macro_rules | `(tactic| walk_at "ev") => `(tactic| repeat (first | walk_at "ev1" | walk_at "ev2"))
/-! ### value, whatever comes -/
theorem endM_nn {l : List Nat} : ∀ {S : List (List D)} {p p' : Nat} {S' : List (List D)} {d d' : D}, endM l p S d = some (p', S', d') → d ≠ .non → d' ≠ .non
  | [], p, p', S', d, d', h, hd => by cases h; exact hd
  | t :: S, p, p', S', d, d', h, hd => by
    rw [endM] at h
    split at h
    · split at h
      · exact endM_nn h (fun e => nomatch e)
      · cases h; exact hd
    · split at h
      · exact endM_nn h (fun e => nomatch e)
      · cases h
theorem endM_len {l : List Nat} : ∀ {S : List (List D)} {p p' : Nat} {S' : List (List D)} {d d' : D}, endM l p S d = some (p', S', d') → S'.length ≤ S.length
  | [], p, p', S', d, d', h => by cases h; exact Nat.le_refl _
  | t :: S, p, p', S', d, d', h => by
    rw [endM] at h
    split at h
    · split at h
      · have := endM_len h; rw [List.length_cons]; omega
      · cases h; exact Nat.le_refl _
    · split at h
      · have := endM_len h; rw [List.length_cons]; omega
      · cases h
theorem nonV_dat {d : D} (h : d ≠ .non) : isNonV (.dat d) = false := by cases d <;> first | rfl | exact absurd rfl h
theorem wT_then {c : Ev} {t : RT} {ρ : Rho} {μ : Store} {B : Bool} {Q : Bool → Store → Prop} (h : wT c t ρ μ fun b μ1 => b = B ∧ μ1 = μ) (q : Q B μ) : wT c t ρ μ Q := by
  obtain ⟨b, μ1, e, rfl, rfl⟩ := h
  exact ⟨_, _, e, q⟩
theorem wS_mono {c : Ev} {s : RS} {ρ : Rho} {μ : Store} {Q Q' : KS} (h : wS c s ρ μ Q) (q : ∀ o ρ' μ', Q o ρ' μ' → Q' o ρ' μ') : wS c s ρ μ Q' := by
  obtain ⟨o, ρ', μ', e, h⟩ := h
  exact ⟨o, ρ', μ', e, q _ _ _ h⟩
/-- scanning: within a string, how many lists are open, how many at most -/
def sc1 (s : Bool × Nat × Nat) (c : Nat) : Bool × Nat × Nat :=
  if s.1 = true then (c != 34, s.2.1, s.2.2) else if c = 34 then (true, s.2.1, s.2.2) else if c = 40 then (false, s.2.1 + 1, max s.2.2 (s.2.1 + 1)) else if c = 41 then (false, s.2.1 - 1, s.2.2) else s
def scan (l : List Nat) (s : Bool × Nat × Nat) : Bool × Nat × Nat := l.foldl sc1 s
def Sc (l : List Nat) (p h M : Nat) : Prop := scan (l.take p) (false, 0, 0) = (false, h, M) ∧ h ≤ M
theorem scan_app (a b : List Nat) (s : Bool × Nat × Nat) : scan (a ++ b) s = scan b (scan a s) := List.foldl_append
theorem Sc.more {l : List Nat} {p k h M h' M' : Nat} (x : Sc l p h M) (e : scan ((l.drop p).take k) (false, h, M) = (false, h', M')) (hm : h' ≤ M') : Sc l (p + k) h' M' := by
  refine ⟨?_, hm⟩
  rw [List.take_add, scan_app, x.1, e]
theorem sc1_no {h M c : Nat} (h1 : c ≠ 34) (h2 : c ≠ 40) (h3 : c ≠ 41) : sc1 (false, h, M) c = (false, h, M) := by
  unfold sc1
  rw [if_neg (by simp), if_neg h1, if_neg h2, if_neg h3]
theorem sc1_op (h M : Nat) : sc1 (false, h, M) 40 = (false, h + 1, max M (h + 1)) := rfl
theorem sc1_cl (h M : Nat) : sc1 (false, h, M) 41 = (false, h - 1, M) := rfl
theorem scan_no {h M : Nat} : ∀ {l : List Nat}, (∀ c ∈ l, c ≠ 34 ∧ c ≠ 40 ∧ c ≠ 41) → scan l (false, h, M) = (false, h, M)
  | [], _ => rfl
  | c :: l, hl => by
    obtain ⟨h1, h2, h3⟩ := hl c (List.mem_cons_self ..)
    show scan l (sc1 (false, h, M) c) = _
    rw [sc1_no h1 h2 h3]
    exact scan_no fun d hd => hl d (List.mem_cons_of_mem _ hd)
theorem scan_in {h M : Nat} : ∀ {l : List Nat}, 34 ∉ l → scan l (true, h, M) = (true, h, M)
  | [], _ => rfl
  | c :: l, hl => by
    have hc : c ≠ 34 := fun e => hl (by rw [e]; exact List.mem_cons_self ..)
    show scan l (sc1 (true, h, M) c) = _
    have : sc1 (true, h, M) c = (true, h, M) := by
      unfold sc1
      rw [if_pos rfl]
      simp [hc]
    rw [this]
    exact scan_in fun hm => hl (List.mem_cons_of_mem _ hm)
theorem scan_str {h M : Nat} {s : List Nat} (hs : 34 ∉ s) : scan (34 :: (s ++ [34])) (false, h, M) = (false, h, M) := by
  show scan (s ++ [34]) (true, h, M) = _
  rw [scan_app, scan_in hs]
  rfl
theorem Sc.op {l : List Nat} {p h M : Nat} (x : Sc l p h M) (e : nx1 l p = [40]) : Sc l (p + 1) (h + 1) (max M (h + 1)) := by
  refine x.more (k := 1) ?_ (Nat.le_max_right ..)
  unfold nx1 at e
  rw [e]
  rfl
theorem Sc.cl {l : List Nat} {p h M : Nat} (x : Sc l p (h + 1) M) (e : nx1 l p = [41]) : Sc l (p + 1) h M := by
  refine x.more (k := 1) ?_ (by have := x.2; omega)
  unfold nx1 at e
  rw [e]
  rfl
theorem Sc.co {l : List Nat} {p h M : Nat} (x : Sc l p h M) (e : nx1 l p = [44]) : Sc l (p + 1) h M := by
  refine x.more (k := 1) ?_ x.2
  unfold nx1 at e
  rw [e]
  rfl
theorem Sc.sing {l : List Nat} {p q h M : Nat} {d : D} (x : Sc l p h M) (e : SingR l p q d) (hnd : d ≠ .non) : Sc l q h M := by
  rcases e with ⟨_, q0, neg, ds, rest, hI, rfl, rfl⟩ | ⟨s, rest, hI, rfl, rfl⟩ | ⟨_, _, _, rfl⟩
  · have hdg : ∀ c ∈ ds, c ≠ 34 ∧ c ≠ 40 ∧ c ≠ 41 := fun c hc => by
      have := of_decide_eq_true (hI.dig c hc)
      omega
    have two : Sc l q0 h M := by
      rcases hI.sg with ⟨_, h1, rfl⟩ | ⟨_, _, rfl⟩
      · refine x.more (k := 1) ?_ x.2
        unfold nx1 at h1
        rw [h1]
        rfl
      · exact x
    refine two.more ?_ x.2
    rw [hI.at', List.take_left]
    exact scan_no hdg
  · refine x.more (k := s.length + 2) ?_ x.2
    rw [hI.at', show 34 :: (s ++ 34 :: rest) = (34 :: (s ++ [34])) ++ rest by simp, List.take_left' (by simp)]
    exact scan_str hI.no
  · exact absurd rfl hnd
def okV (M h : Nat) (d : D) : Prop := plain d = true ∧ dep d + h ≤ M + 1
def okH (M : Nat) : List (List D) → Prop
  | [] => True
  | t :: S => (∀ e ∈ t, okV M (S.length + 1) e) ∧ okH M S
theorem okV.mono {M M' h : Nat} {d : D} (x : okV M h d) (hm : M ≤ M') : okV M' h d := ⟨x.1, by have := x.2; omega⟩
theorem okH.mono {M M' : Nat} (hm : M ≤ M') : ∀ {S : List (List D)}, okH M S → okH M' S
  | [], _ => trivial
  | _ :: _, x => ⟨fun e he => (x.1 e he).mono hm, okH.mono hm x.2⟩
theorem plains_of : ∀ {ds : List D}, (∀ d ∈ ds, plain d = true) → plains ds = true
  | [], _ => rfl
  | d :: ds, h => by
    rw [plains, h d (List.mem_cons_self ..), plains_of fun e he => h e (List.mem_cons_of_mem _ he)]
    rfl
theorem deps_le {m : Nat} : ∀ {ds : List D}, (∀ d ∈ ds, dep d ≤ m) → deps ds ≤ m
  | [], _ => Nat.zero_le _
  | d :: ds, h => by
    rw [deps]
    exact Nat.max_le.mpr ⟨h d (List.mem_cons_self ..), deps_le fun e he => h e (List.mem_cons_of_mem _ he)⟩
theorem okV_tup {M h : Nat} {ds : List D} (hh : ∀ d ∈ ds, okV M (h + 1) d) (hm : h ≤ M) : okV M h (.tup ds) := by
  refine ⟨plains_of fun d hd => (hh d hd).1, ?_⟩
  have := deps_le (m := M - h) fun d hd => by have := (hh d hd).2; omega
  show deps ds + 1 + h ≤ _
  omega
theorem endM_ok {l : List Nat} {M : Nat} : ∀ {S : List (List D)} {p p' : Nat} {S' : List (List D)} {d d' : D}, endM l p S d = some (p', S', d') → Sc l p S.length M → okH M S → okV M S.length d → Sc l p' S'.length M ∧ okH M S' ∧ okV M S'.length d'
  | [], p, p', S', d, d', h, hs, hS, hd => by cases h; exact ⟨hs, hS, hd⟩
  | t :: S, p, p', S', d, d', h, hs, hS, hd => by
    have ht : ∀ e ∈ t ++ [d], okV M (S.length + 1) e := fun e he => by
      rcases List.mem_append.mp he with he | he
      · exact hS.1 e he
      · rw [List.eq_of_mem_singleton he]; exact hd
    have hM : S.length + 1 ≤ M := hs.2
    rw [endM] at h
    split at h
    · rename_i c1
      have h1 := hs.co c1
      split at h
      · rename_i c2
        exact endM_ok h (Sc.cl h1 c2) hS.2 (okV_tup ht (by omega))
      · cases h
        exact ⟨h1, ⟨ht, hS.2⟩, hd⟩
    · split at h
      · rename_i c2
        exact endM_ok h (Sc.cl hs c2) hS.2 (okV_tup ht (by omega))
      · cases h
theorem endM_le {l : List Nat} : ∀ {S : List (List D)} {p p' : Nat} {S' : List (List D)} {d d' : D}, endM l p S d = some (p', S', d') → p ≤ p'
  | [], p, p', S', d, d', h => by cases h; exact Nat.le_refl _
  | t :: S, p, p', S', d, d', h => by
    rw [endM] at h
    split at h
    · split at h
      · have := endM_le h; omega
      · cases h; omega
    · split at h
      · have := endM_le h; omega
      · cases h
/-- the signs of what the open lists hold -/
def wl (t : List D) : Nat := (t.map fun e => (sgD e).length + 1).sum
def wt : List (List D) → Nat
  | [] => 0
  | t :: S => 2 + wl t + wt S
theorem wl_app (t : List D) (d : D) : wl (t ++ [d]) = wl t + ((sgD d).length + 1) := by
  unfold wl
  rw [List.map_append, List.sum_append]
  rfl
theorem wl_tup (t : List D) : (sgD (.tup t)).length ≤ 2 + wl t := by
  have h := joinC_len (t.map sgD)
  rw [sgD, List.length_cons, List.length_append, sgs_map, ← h, List.length_map]
  have e : ∀ t : List D, ((t.map sgD).map List.length).sum + t.length = wl t := fun t => by
    induction t with
    | nil => rfl
    | cons x t ih =>
      show (sgD x).length + ((t.map sgD).map List.length).sum + (t.length + 1) = (sgD x).length + 1 + wl t
      omega
  have := e t
  unfold endC
  split
  · show _ + 2 + 1 ≤ _; omega
  · rename_i h1
    show _ + 1 + 1 ≤ _
    by_cases h0 : t.length = 0
    · omega
    · omega
theorem endM_wt {l : List Nat} : ∀ {S : List (List D)} {p p' : Nat} {S' : List (List D)} {d d' : D}, endM l p S d = some (p', S', d') → wt S + (sgD d).length ≤ 2 * p → wt S' ≤ 2 * p' ∧ (S' = [] → (sgD d').length ≤ 2 * p')
  | [], p, p', S', d, d', h, hd => by cases h; exact ⟨by omega, fun _ => by omega⟩
  | t :: S, p, p', S', d, d', h, hd => by
    have e := wl_app t d
    have e2 := wl_tup (t ++ [d])
    have e3 : wt (t :: S) = 2 + wl t + wt S := rfl
    rw [endM] at h
    split at h
    · split at h
      · exact endM_wt h (by omega)
      · cases h
        exact ⟨by show 2 + wl (t ++ [d]) + wt S ≤ _; omega, fun h => by cases h⟩
    · split at h
      · exact endM_wt h (by omega)
      · cases h
theorem sgI_len {i : Int} {k : Nat} (hk : 0 < k) (h : i.natAbs < 10 ^ k) : (sgI i).length ≤ k + 1 := by
  unfold sgI
  split
  · rw [List.length_cons]
    have := TL.numL_len hk (n := (-i).toNat) (by rw [show (-i).toNat = i.natAbs by omega]; exact h)
    omega
  · have := TL.numL_len hk (n := i.toNat) (by rw [show i.toNat = i.natAbs by omega]; exact h)
    omega
def PVT (μ0 : Store) (r : Nat) (l : List Nat) (m : Nat) (ρ' : Rho) (μ' : Store) : Prop := ∃ p S f M, ρ' = [some (.box r), some (.box μ0.length), some f] ∧ IS μ0 r l μ' p S ∧ S.length ≤ p ∧ Sc l p S.length M ∧ okH M S ∧ wt S ≤ 2 * p ∧
      ((m = l.length + 1 - p ∧ (S = [] → isNonV f = true)) ∨ (S = [] ∧ ∃ d, f = .dat d ∧ d ≠ .non ∧ okV M 0 d ∧ (sgD d).length ≤ 2 * p))
/-- what value leaves -/
def ValP (μ0 : Store) (r : Nat) (l : List Nat) (v : Val) (μ' : Store) : Prop := ∃ q, q ≤ l.length ∧ μ' = μ0.set r (rd l q) ∧ (v = .dat .non ∨ ∃ d M, v = .dat d ∧ d ≠ .non ∧ Sc l q 0 M ∧ okV M 0 d ∧ (sgD d).length ≤ 2 * q)
theorem finN {μ0 μ' : Store} {r q : Nat} {l : List Nat} {d : D} (hS : Shut μ0) (hb : μ'.take μ0.length = μ0.set r (rd l q)) (hl : μ0.length ≤ μ'.length) : fin μ0.length (.dat d) μ' = some (.dat d, μ0.set r (rd l q)) := by
  rw [fin_dat (by rw [hb]; have := shut_rd hS r q l; unfold Shut at this; rwa [List.length_set] at this) hl, hb]
theorem boxes_len {μ : Store} : ∀ {bs : List Nat} {S : List (List D)}, Boxes μ bs S → bs.length = S.length
  | [], [], _ => rfl
  | b :: bs, ds :: S, h => by rw [List.length_cons, List.length_cons, boxes_len h.2]
  | [], _ :: _, h => h.elim
  | _ :: _, [], h => h.elim
theorem fold_lt : ∀ (ds : List Nat) (a : Nat), (∀ c ∈ ds, isDig c = true) → ds.foldl (fun acc c => acc * 10 + (c - 48)) a < (a + 1) * 10 ^ ds.length
  | [], a, _ => by simp
  | c :: ds, a, h => by
    have hc := of_decide_eq_true (h c (List.mem_cons_self ..))
    have ih := fold_lt ds (a * 10 + (c - 48)) fun d hd => h d (List.mem_cons_of_mem _ hd)
    rw [List.foldl_cons, List.length_cons, Nat.pow_succ]
    refine Nat.lt_of_lt_of_le ih ?_
    have h1 : a * 10 + (c - 48) + 1 ≤ (a + 1) * 10 := by omega
    calc (a * 10 + (c - 48) + 1) * 10 ^ ds.length ≤ ((a + 1) * 10) * 10 ^ ds.length := Nat.mul_le_mul_right _ h1
      _ = (a + 1) * (10 ^ ds.length * 10) := by rw [Nat.mul_assoc, Nat.mul_comm 10]
theorem intV_bd {neg : Bool} {ds : List Nat} (h : ∀ c ∈ ds, isDig c = true) (hl : ds.length ≤ 400) : (intV neg ds).natAbs < 10 ^ 400 := by
  have h1 := fold_lt ds 0 h
  have h2 : (10 : Nat) ^ ds.length ≤ 10 ^ 400 := Nat.pow_le_pow_right (by decide) hl
  have h3 : NumText.digitsVal ds < 10 ^ 400 := by
    have : NumText.digitsVal ds < (0 + 1) * 10 ^ ds.length := h1
    rw [Nat.zero_add, Nat.one_mul] at this
    exact Nat.lt_of_lt_of_le this h2
  unfold intV
  split
  · rw [Int.natAbs_neg, Int.natAbs_natCast]
    exact h3
  · rw [Int.natAbs_natCast]
    exact h3
theorem run_valueT (n k : Nat) (μ0 : Store) (r : Nat) (l : List Nat) (hr0 : μ0[r]? = some (rd l 0)) (hR : RunOk l) (hs : ∀ c ∈ l, c ∈ sgL) (hl : l.length ≤ 40000) (hn : 100000 < n) (hS : Shut μ0) :
    ∃ v μ', evCall pr n (k + 4) 9 [.box r] μ0 = some (v, μ') ∧ ValP μ0 r l v μ' := by
  have hrN : r < μ0.length := (List.getElem?_eq_some_iff.mp hr0).1
  have hA : ∀ c ∈ l, c < 128 := fun c hc => (sg_lt c (hs c hc)).1
  refine run_ex [some (.box r), none, none] rfl rfl rfl ?_
  unfold R_Reader_value
  walk_at "ev"
  refine wS_whileI (PVT μ0 r l) ?_ (l.length + 1) ⟨0, [], .dat .non, 0, rfl, ⟨⟨[], get_snoc_eq, trivial, List.nodup_nil, fun b h => by cases h⟩, by rw [List.take_left]; exact rd_self hr0, hrN, shut_app hS rfl, fun ds h => (by cases h), Nat.zero_le _⟩, Nat.le_refl _, ⟨rfl, Nat.le_refl _⟩, trivial, Nat.le_refl _, .inl ⟨rfl, fun _ => rfl⟩⟩ (by show _ < n; omega)
  rintro m _ μ1 ⟨p, S, f, M, rfl, hI, hSp, hsc, hok, hwt, hc⟩
  obtain ⟨bs, h1, h2, h3, h4⟩ := hI.box
  have hr1 := hI.rdr
  have hr := hI.rN
  have hlen := hI.len
  have hpl := hI.pl
  rcases hc with ⟨hm, hf⟩ | ⟨rfl, d, rfl, hnd, hdok, hdw⟩
  · refine wT_then (B := true) ?_ (iteY rfl ?_)
    · refine wT_or (wT_bv (wE_app (wL_cons (wE_var rfl (wL_cons (wE_non (wL_nil ?_)))))))
      refine wM_of (v := .dat (.bl (isNonV f))) (μ' := μ1) rfl ⟨_, rfl, ?_⟩
      cases hf2 : isNonV f with
      | true => exact ⟨rfl, rfl⟩
      | false =>
        refine iteZ rfl (wT_tr (wE_var rfl (wB_of (tr_box h1) ⟨?_, rfl⟩)))
        cases S with
        | nil => rw [hf rfl] at hf2; cases hf2
        | cons t S =>
          cases bs with
          | nil => exact h2.elim
          | cons b bs => simp
    -- what comes behind a value that is read
    have tail : ∀ {Q : KS} (μ2 : Store) (p1 : Nat) (d1 : D) (S1 : List (List D)) (M1 : Nat), IS μ0 r l μ2 p1 S1 → S1.length ≤ p1 → Sc l p1 S1.length M1 → okH M1 S1 → d1 ≠ .non → okV M1 S1.length d1 → wt S1 + (sgD d1).length ≤ 2 * p1 → p < p1 →
        (∀ ρ' μ', (∃ m', m' < m ∧ PVT μ0 r l m' ρ' μ') → Q .nx ρ' μ') → (∀ ρ' μ', ∀ q, μ'.take μ0.length = μ0.set r (rd l q) → q ≤ l.length → μ0.length ≤ μ'.length → Q (.rt (.dat .non)) ρ' μ') →
        wS ⟨evCall pr n (k + 3), n, pr.fs⟩ (.seq (.asg (.nm 2) (.ifx (.bv (.app (oIs false) (.cons (.var 2) (.cons (.cst .non) .nil)))) (.cst .non) (.mth 0 (Str.ofString "ended") 8 (.var 0) (.cons (.var 1) (.cons (.var 2) .nil))))) (.ifs (.bv (.app (oIs false) (.cons (.var 2) (.cons (.cst .non) .nil)))) (.ret (.cst .non)) .nx))
          [some (.box r), some (.box μ0.length), some (.dat d1)] μ2 Q := by
      intro Q μ2 p1 d1 S1 M1 hI2 hS1 hsc1 hok1 hd1 hdo1 hdw1 hpp qn qr
      have hp1l := hI2.pl
      obtain ⟨v, μ3, e3, hP⟩ := run_ended n (k + 1) μ0 μ2 r p1 l S1 d1 hI2 _ rfl hA hl (by omega) hn
      refine wS_seq (wS_set (wE_ifx (wT_bv (wE_app (wL_cons (wE_var rfl (wL_cons (wE_non (wL_nil ?_)))))))))
      refine wM_of (v := .dat (.bl (isNonV (.dat d1)))) (μ' := μ2) rfl ⟨_, rfl, iteZ (nonV_dat hd1) ?_⟩
      refine wE_rdM nm_en (wE_var rfl ⟨r, l, p1, rfl, hI2.rdr, wL_cons (wE_var rfl (wL_cons (wE_var rfl (wL_nil (wM_of e3 ?_)))))⟩)
      have hl2 := hI2.len
      cases hE : endM l p1 S1 d1 with
      | none =>
        rw [hE] at hP
        obtain ⟨rfl, ⟨q, hb, hq⟩, hs3, hl3⟩ := hP
        refine kSeq_nx (wS_ifs (wT_bv (wE_app (wL_cons (wE_var rfl (wL_cons (wE_non (wL_nil ?_))))))))
        refine wM_of (v := .dat (.bl true)) (μ' := μ3) rfl ⟨_, rfl, iteY rfl (wS_ret (wE_non ?_))⟩
        exact qr _ _ q hb hq (by omega)
      | some t =>
        obtain ⟨p', S', d'⟩ := t
        rw [hE] at hP
        obtain ⟨rfl, hI3, hl3⟩ := hP
        have hSl := endM_len hE
        have hd' := endM_nn hE hd1
        obtain ⟨o0, o1, o2⟩ := endM_ok hE hsc1 hok1 hdo1
        have o3 := endM_le hE
        obtain ⟨w1, w2⟩ := endM_wt hE hdw1
        have hp'l := hI3.pl
        refine kSeq_nx (wS_ifs (wT_bv (wE_app (wL_cons (wE_var rfl (wL_cons (wE_non (wL_nil ?_))))))))
        refine wM_of (v := .dat (.bl (isNonV (.dat d')))) (μ' := μ3) rfl ⟨_, rfl, iteZ (nonV_dat hd') (wS_nx (qn _ _ ?_))⟩
        by_cases hS0 : S' = []
        · exact ⟨0, by omega, p', S', _, M1, rfl, hI3, by omega, o0, o1, w1, .inr ⟨hS0, d', rfl, hd', by rw [hS0] at o2; exact o2, w2 hS0⟩⟩
        · exact ⟨l.length + 1 - p', by omega, p', S', _, M1, rfl, hI3, by omega, o0, o1, w1, .inl ⟨rfl, fun e => absurd e hS0⟩⟩
    have fin2 : ∀ (ρ' : Rho) (μ' : Store) (q : Nat), μ'.take μ0.length = μ0.set r (rd l q) → q ≤ l.length → μ0.length ≤ μ'.length → ∃ v μ'', fin μ0.length (.dat .non) μ' = some (v, μ'') ∧ ValP μ0 r l v μ'' := fun ρ' μ' q hb hq hl' => ⟨_, _, finN hS hb hl', q, hq, rfl, .inl rfl⟩
    refine wS_seq (wS_ifs (wT_bv (wE_app (wL_cons (wE_ns rfl hr1 hl hI.shut (wL_cons (wE_str (wL_nil ?_))))))))
    rw [lit_o]
    refine wM_eqT (nx1_ok hA) (by decide) ?_
    by_cases c1 : nx1 l p = [40]
    · have hp := nx1_lt c1
      rw [decide_eq_true c1]
      refine ⟨_, rfl, iteY rfl ?_⟩
      have hI2 := hI.move (q := p + 1) (by omega) hp
      refine wS_seq (wS_adv (d := 1) rfl hr1 ?_)
      have hr2 := hI2.rdr
      obtain ⟨bs2, g1, g2, g3, g4⟩ := hI2.box
      have hbl : bs2.length = S.length := boxes_len g2
      have s2 := hI2.shut
      have base2 := hI2.base
      have len2 := hI2.len
      generalize μ1.set r (rd l (p + 1)) = μ2 at *
      refine kSeq_nx (wS_seq (wS_drop (wE_bm (wE_var rfl ⟨isLst_box g1, wL_cons (wE_app (wL_nil ?_))⟩))))
      refine wM_of (v := .box μ2.length) (μ' := μ2 ++ [.lst []]) rfl (wL_nil ?_)
      refine wM_appB (get_snoc_lt g1) (by rw [List.length_map, List.length_reverse, szl]; omega) ?_
      have gN : (μ2 ++ [SO.lst []])[μ0.length]? = some (.lst (bxs bs2)) := get_snoc_lt g1
      have hlast : ((μ2 ++ [SO.lst []]).set μ0.length (.lst (bxs bs2 ++ [.box μ2.length])))[μ2.length]? = some (.lst []) := by rw [set_ne (by omega)]; exact get_snoc_eq
      have nmem : μ2.length ∉ bs2 := fun h => Nat.lt_irrefl _ (boxes_lt g2 _ h)
      have hIp : IS μ0 r l ((μ2 ++ [SO.lst []]).set μ0.length (.lst (bxs bs2 ++ [.box μ2.length]))) (p + 1) ([] :: S) := by
        refine ⟨⟨μ2.length :: bs2, ?_, ⟨hlast, boxes_set (fun h => by have := g4 _ h; omega) (boxes_app g2)⟩, List.nodup_cons.mpr ⟨nmem, g3⟩, fun b hb => ?_⟩, ?_, hr, ?_, fun ds hd => ?_, hp⟩
        · rw [set_get gN]
          simp [bxs]
        · rcases List.mem_cons.mp hb with rfl | hb
          · exact len2
          · exact g4 b hb
        · rw [take_set2 (Nat.le_refl _), List.take_append_of_le_length (by omega)]
          exact base2
        · refine shut_set (shut_app s2 rfl) ?_
          have a2 := List.all_eq_true.mp (shut_app (s := .lst []) s2 rfl) _ (List.mem_of_getElem? gN)
          simp only [soOk, List.all_append, Bool.and_eq_true] at a2 ⊢
          refine ⟨a2, ?_⟩
          simp [valOk]
        · rcases List.mem_cons.mp hd with rfl | hd
          · exact Nat.zero_le _
          · have := hI.small ds hd; omega
      generalize (μ2 ++ [SO.lst []]).set μ0.length (.lst (bxs bs2 ++ [.box μ2.length])) = μ3 at *
      have hr3 := hIp.rdr
      have hok1 : okH (max M (S.length + 1)) S := hok.mono (Nat.le_max_left ..)
      have hsc1 := hsc.op c1
      refine kSeq_nx (wS_seq (wS_ifs (wT_bv (wE_app (wL_cons (wE_ns rfl hr3 hl hIp.shut (wL_cons (wE_str (wL_nil ?_)))))))))
      rw [lit_s]
      refine wM_neT (nx1_ok hA) (by decide) ?_
      by_cases c2 : nx1 l (p + 1) = [41]
      · rw [decide_eq_true c2]
        refine ⟨_, rfl, iteZ rfl (wS_nx (kSeq_nx ?_))⟩
        obtain ⟨cs, i1, i2, i3, i4⟩ := hIp.box
        cases cs with
        | nil => exact i2.elim
        | cons b cs =>
          have ebx : bxs (b :: cs) = bxs cs ++ [.box b] := by simp [bxs]
          rw [ebx] at i1
          have hb := i4 b (List.mem_cons_self ..)
          have hnb := List.nodup_cons.mp i3
          refine wS_set (wE_rdM nm_cl (wE_var rfl ⟨r, l, p + 1, rfl, hr3, wL_cons (wE_var rfl (wL_nil ?_))⟩))
          refine wM_of (run_closed n (k + 2) _ r (p + 1) μ0.length b l (bxs cs) [] hr3 i1 i2.1 (by omega) (by omega) (by omega) hIp.shut) ?_
          have hmm : (μ3.set r (rd l (p + 2)))[μ0.length]? = some (.lst (bxs cs ++ [.box b])) := by rw [set_ne (by omega)]; exact i1
          have hI4 : IS μ0 r l ((μ3.set r (rd l (p + 2))).set μ0.length (.lst (bxs cs))) (p + 2) S := by
            refine ⟨⟨cs, set_get hmm, boxes_set (fun hm => ?_) (boxes_set (fun hm => ?_) i2.2), hnb.2, fun b hb => i4 b (List.mem_cons_of_mem _ hb)⟩, ?_, hr, ?_, fun ds hd => ?_, nx1_lt c2⟩
            · have := i4 _ (List.mem_cons_of_mem _ hm); omega
            · have := i4 _ (List.mem_cons_of_mem _ hm); omega
            · rw [take_set2 (Nat.le_refl _), take_set hr, hIp.base, List.set_set]
            · refine shut_set (shut_rd hIp.shut r (p + 2) l) ?_
              have := List.all_eq_true.mp hIp.shut _ (List.mem_of_getElem? i1)
              simp only [soOk, List.all_append, Bool.and_eq_true] at this ⊢
              rw [List.length_set]
              exact this.1
            · have := hI.small ds hd; omega
          exact kSeq_nx (tail _ (p + 2) (.tup []) S _ hI4 (by omega) (Sc.cl hsc1 c2) hok1 (fun e => nomatch e) ⟨rfl, by show 0 + 1 + S.length ≤ _; omega⟩ (by show wt S + 2 ≤ _; omega) (by omega) (fun _ _ h => h) (fun ρ' μ' q a b c => fin2 ρ' μ' q a b c))
      · rw [decide_eq_false c2]
        refine ⟨_, rfl, iteY rfl (wS_cnt (kSeq_ct (kSeq_ct ?_)))⟩
        exact ⟨l.length + 1 - (p + 1), by omega, p + 1, _, _, _, rfl, hIp, by rw [List.length_cons]; omega, hsc1, ⟨fun e he => (by cases he), hok1⟩, by show 2 + 0 + wt S ≤ _; omega, .inl ⟨rfl, fun e => by cases e⟩⟩
    · rw [decide_eq_false c1]
      refine ⟨_, rfl, iteZ rfl ?_⟩
      obtain ⟨p1, d1, hsg, hp1, hp2, hd1⟩ := sing_ex hpl hR hs
      refine wS_set (wE_rdM nm_si (wE_var rfl ⟨r, l, p, rfl, hr1, wL_nil ?_⟩))
      refine wM_of (run_single n k μ1 r p p1 l d1 hr1 hsg hA hl hn hI.shut) ?_
      by_cases hdn : d1 = .non
      · subst hdn
        have hIm := hI.move hp1 hp2
        refine kSeq_nx (wS_seq (wS_set (wE_ifx (wT_bv (wE_app (wL_cons (wE_var rfl (wL_cons (wE_non (wL_nil ?_))))))))))
        refine wM_of (v := .dat (.bl true)) rfl ⟨_, rfl, iteY rfl (wE_non ?_)⟩
        refine kSeq_nx (wS_ifs (wT_bv (wE_app (wL_cons (wE_var rfl (wL_cons (wE_non (wL_nil ?_))))))))
        refine wM_of (v := .dat (.bl true)) rfl ⟨_, rfl, iteY rfl (wS_ret (wE_non ?_))⟩
        exact fin2 [] _ p1 hIm.base hp2 (by have := hIm.len; omega)
      · have hsc2 := hsc.sing hsg hdn
        have hpd : okV M S.length d1 := by
          rcases hsg with ⟨_, q0, neg, ds, rest, hIa, _, rfl⟩ | ⟨s, rest, hIs, _, rfl⟩ | ⟨_, _, _, rfl⟩
          · unfold intR at hdn ⊢
            split at hdn
            · exact absurd rfl hdn
            · rename_i hno
              rw [if_neg hno]
              exact ⟨decide_eq_true (intV_bd hIa.dig hIa.len), by show 1 + _ ≤ _; have := hsc.2; omega⟩
          · refine ⟨?_, by show 1 + _ ≤ _; have := hsc.2; omega⟩
            show ((st s).cps.toList.all fun c => decide (c ∈ sgL ∧ c ≠ 34)) = true
            rw [st_toList, List.all_eq_true]
            exact fun c hc => decide_eq_true ⟨hIs.sg c hc, fun e => hIs.no (by rw [← e]; exact hc)⟩
          · exact absurd rfl hdn
        have hpw : wt S + (sgD d1).length ≤ 2 * p1 := by
          rcases hsg with ⟨_, q0, neg, ds, rest, hIa, hq1, rfl⟩ | ⟨s, rest, hIs, hq1, rfl⟩ | ⟨_, _, _, rfl⟩
          · unfold intR at hdn ⊢
            split at hdn
            · exact absurd rfl hdn
            · rename_i hno
              rw [if_neg hno, sgD]
              have hne : ds ≠ [] := fun e => hno (.inl e)
              have hpos : 0 < ds.length := List.length_pos_iff.mpr hne
              have hb : (intV neg ds).natAbs < 10 ^ ds.length := by
                have h1 := fold_lt ds 0 hIa.dig
                have h2 : NumText.digitsVal ds < (0 + 1) * 10 ^ ds.length := h1
                rw [Nat.zero_add, Nat.one_mul] at h2
                unfold intV
                split
                · rw [Int.natAbs_neg, Int.natAbs_natCast]; exact h2
                · rw [Int.natAbs_natCast]; exact h2
              have h3 := sgI_len hpos hb
              have h4 : p ≤ q0 := by rcases hIa.sg with ⟨_, _, h⟩ | ⟨_, _, h⟩ <;> omega
              omega
          · rw [sgD, st_toList, List.length_cons, List.length_append]
            show _ + (_ + 1 + 1) ≤ _
            omega
          · exact absurd rfl hdn
        exact kSeq_nx (tail _ p1 d1 S M (hI.move hp1 hp2) (by omega) hsc2 hok hdn hpd hpw (hd1 hdn) (fun _ _ h => h) (fun ρ' μ' q a b c => fin2 ρ' μ' q a b c))
  · refine wT_or (wT_bv (wE_app (wL_cons (wE_var rfl (wL_cons (wE_non (wL_nil ?_)))))))
    refine wM_of (v := .dat (.bl (isNonV (.dat d)))) (μ' := μ1) rfl ⟨_, rfl, ?_⟩
    rw [nonV_dat hnd]
    cases bs with
    | cons b bs => exact h2.elim
    | nil =>
      refine iteZ rfl (wT_tr (wE_var rfl (wB_of (tr_box h1) (iteZ rfl ?_))))
      refine kSeq_nx (wS_ret (wE_var rfl ?_))
      exact ⟨_, _, finN hS hI.base (by omega), p, hpl, rfl, .inr ⟨d, M, rfl, hnd, hsc, hdok, hdw⟩⟩
end K54

namespace K54
open PySem PySem.Spec PyProof.Rows L2 EV
local macro_rules | `(tactic| walk_at "ev1") => `(tactic| with_reducible first
  | (refine' wE_var ?hh ?_; (case hh => with_unfolding_all exact rfl)) | refine wE_int ?_ | refine wE_str ?_ | refine wE_non ?_ | refine wE_bl ?_ | refine wL_nil ?_ | refine wL_cons ?_
  | refine wE_app ?_ | refine wE_bm ?_ | refine wE_sl ?_ | refine wO_no ?_ | refine wO_so ?_ | refine wE_call ?_
  | refine wE_ifx ?_ | refine wE_and ?_ | refine wE_or ?_ | refine wE_chain ?_ | refine wE_frz ?_ | refine wE_lc ?_
  | refine wT_tr ?_ | refine wT_bv ?_ | refine wT_and ?_ | refine wT_or ?_ | refine wT_not ?_ | refine wT_yes ?_
  | refine wS_seq ?_ | refine wS_set ?_ | refine wS_asg ?_ | refine wS_setI ?_ | refine wS_drop ?_ | refine wS_ret ?_ | refine wS_retN ?_ | refine wS_nx ?_ | refine wS_brk ?_ | refine wS_cnt ?_
  | refine kSeq_nx ?_ | refine kSeq_rt ?_ | refine kSeq_bk ?_ | refine kSeq_ct ?_)
local macro_rules | `(tactic| walk_at "ev2") => `(tactic| first
  | ((with_reducible refine' wM_ixB ?hh ?hi ?_); (case hh => first | assumption | exact get_snoc_eq); (case hi => exact rfl)) | (with_reducible refine wM_lenDL ?_) | (with_reducible refine wM_eqI ?_) | (with_reducible refine wM_neI ?_) | (with_reducible refine wM_slL ?_) | (with_reducible refine wM_mul (by omega) ?_) | (with_reducible refine wM_mod (by first | assumption | decide) ?_) | (with_reducible refine wM_div (by first | assumption | decide) ?_)
  | ((with_reducible refine' wM_of ?hh ?_); (case hh => exact rfl)) | ((with_reducible refine' wB_of ?hh ?_); (case hh => exact rfl))
  | ((with_reducible refine' iteY ?hb ?_); (case hb => exact rfl)) | ((with_reducible refine' iteZ ?hb ?_); (case hb => exact rfl)) | refine ⟨_, rfl, ?_⟩ | refine ⟨rfl, ?_⟩ | refine ⟨_, _, _, _, rfl, rfl, (by first | assumption | exact get_snoc_eq), rfl, ?_⟩ | refine ⟨_, _, _, _, rfl, rfl, rfl, rfl, ?_⟩ | refine ⟨_, _, _, rfl, rfl, rfl, rfl, ?_⟩ | refine ⟨_, _, rfl, rfl, rfl, ?_⟩)
local macro_rules | `(tactic| walk_at "done") => `(tactic| first | exact rfl | exact ⟨rfl, rfl⟩ | exact ⟨_, rfl, rfl⟩ | exact ⟨_, _, rfl, rfl⟩ | exact ⟨rfl, _, rfl, rfl⟩ | exact ⟨rfl, _, _, rfl, rfl⟩)
local macro_rules | `(tactic| walk_at "ev") => `(tactic| repeat (first | walk_at "ev1" | walk_at "ev2"))
/-! ### value on told text -/
def Lp (l : List Nat) : Nat → Nat → List (List D) → Nat → D → Prop
  | 0, _, _, _, _ => False
  | m + 1, p, S, q, d => (nx1 l p = [40] ∧ nx1 l (p + 1) ≠ [41] ∧ Lp l m (p + 1) ([] :: S) q d) ∨
      ∃ p1 d1 p' S' d', ((nx1 l p = [40] ∧ nx1 l (p + 1) = [41] ∧ p1 = p + 2 ∧ d1 = .tup []) ∨ (nx1 l p ≠ [40] ∧ p ≤ p1 ∧ p1 ≤ l.length ∧ SingR l p p1 d1 ∧ d1 ≠ .non)) ∧ endM l p1 S d1 = some (p', S', d') ∧
        ((S' = [] ∧ q = p' ∧ d = d') ∨ (S' ≠ [] ∧ Lp l m p' S' q d))
def PV (μ0 : Store) (r : Nat) (l : List Nat) (q : Nat) (d : D) (m : Nat) (ρ' : Rho) (μ' : Store) : Prop := ∃ p S f, ρ' = [some (.box r), some (.box μ0.length), some f] ∧ IS μ0 r l μ' p S ∧ S.length + m ≤ 40000 ∧
      ((m ≠ 0 ∧ (S = [] → isNonV f = true) ∧ Lp l m p S q d) ∨ (S = [] ∧ p = q ∧ f = .dat d ∧ d ≠ .non))
theorem run_value (n k : Nat) (μ0 : Store) (r : Nat) (l : List Nat) (q : Nat) (d : D) (m0 : Nat) (hr0 : μ0[r]? = some (rd l 0)) (hL : Lp l m0 0 [] q d) (hm0 : m0 ≤ 40000) (hA : ∀ c ∈ l, c < 128) (hl : l.length ≤ 40000) (hn : 100000 < n) (hS : Shut μ0) :
    evCall pr n (k + 4) 9 [.box r] μ0 = some (.dat d, μ0.set r (rd l q)) := by
  have hrN : r < μ0.length := (List.getElem?_eq_some_iff.mp hr0).1
  refine run_of2 [some (.box r), none, none] rfl rfl rfl ?_
  unfold R_Reader_value
  walk_at "ev"
  refine wS_whileI (PV μ0 r l q d) ?_ m0 ⟨0, [], .dat .non, rfl, ⟨⟨[], get_snoc_eq, trivial, List.nodup_nil, fun b h => by cases h⟩, by rw [List.take_left]; exact rd_self hr0, hrN, shut_app hS rfl, fun ds h => (by cases h), Nat.zero_le _⟩, by show 0 + m0 ≤ 40000; omega, .inl ⟨fun e => by subst e; exact hL.elim, fun _ => rfl, hL⟩⟩ (by show _ < n; omega)
  rintro m _ μ1 ⟨p, S, f, rfl, hI, hSm, hc⟩
  obtain ⟨bs, h1, h2, h3, h4⟩ := hI.box
  have hr1 := hI.rdr
  have hr := hI.rN
  have hlen := hI.len
  rcases hc with ⟨hm, hf, hL⟩ | ⟨rfl, rfl, rfl, hnd⟩
  · refine wT_then (B := true) ?_ (iteY rfl ?_)
    · refine wT_or (wT_bv (wE_app (wL_cons (wE_var rfl (wL_cons (wE_non (wL_nil ?_)))))))
      refine wM_of (v := .dat (.bl (isNonV f))) (μ' := μ1) rfl ⟨_, rfl, ?_⟩
      cases hf2 : isNonV f with
      | true => exact ⟨rfl, rfl⟩
      | false =>
        refine iteZ rfl (wT_tr (wE_var rfl (wB_of (tr_box h1) ⟨?_, rfl⟩)))
        cases S with
        | nil => rw [hf rfl] at hf2; cases hf2
        | cons t S =>
          cases bs with
          | nil => exact h2.elim
          | cons b bs => simp
    cases m with
    | zero => exact hL.elim
    | succ m =>
      have tail : ∀ (μ2 : Store) (p1 : Nat) (d1 : D) (p' : Nat) (S' : List (List D)) (d' : D), IS μ0 r l μ2 p1 S → d1 ≠ .non → endM l p1 S d1 = some (p', S', d') → ((S' = [] ∧ q = p' ∧ d = d') ∨ (S' ≠ [] ∧ Lp l m p' S' q d)) →
          wS ⟨evCall pr n (k + 3), n, pr.fs⟩ (.seq (.asg (.nm 2) (.ifx (.bv (.app (oIs false) (.cons (.var 2) (.cons (.cst .non) .nil)))) (.cst .non) (.mth 0 (Str.ofString "ended") 8 (.var 0) (.cons (.var 1) (.cons (.var 2) .nil))))) (.ifs (.bv (.app (oIs false) (.cons (.var 2) (.cons (.cst .non) .nil)))) (.ret (.cst .non)) .nx))
            [some (.box r), some (.box μ0.length), some (.dat d1)] μ2 (fun o ρ' μ' => o = .nx ∧ ∃ m', m' < m + 1 ∧ PV μ0 r l q d m' ρ' μ') := by
        intro μ2 p1 d1 p' S' d' hI2 hd1 hE hA2
        have hSl := endM_len hE
        have hd' := endM_nn hE hd1
        obtain ⟨v, μ3, e3, hP⟩ := run_ended n (k + 1) μ0 μ2 r p1 l S d1 hI2 _ hE hA hl (by omega) hn
        obtain ⟨rfl, hI3, hl3⟩ := hP
        refine wS_seq (wS_set (wE_ifx (wT_bv (wE_app (wL_cons (wE_var rfl (wL_cons (wE_non (wL_nil ?_)))))))))
        refine wM_of (v := .dat (.bl (isNonV (.dat d1)))) (μ' := μ2) rfl ⟨_, rfl, iteZ (nonV_dat hd1) ?_⟩
        refine wE_rdM nm_en (wE_var rfl ⟨r, l, p1, rfl, hI2.rdr, wL_cons (wE_var rfl (wL_cons (wE_var rfl (wL_nil (wM_of e3 ?_)))))⟩)
        refine kSeq_nx (wS_ifs (wT_bv (wE_app (wL_cons (wE_var rfl (wL_cons (wE_non (wL_nil ?_))))))))
        refine wM_of (v := .dat (.bl (isNonV (.dat d')))) (μ' := μ3) rfl ⟨_, rfl, iteZ (nonV_dat hd') (wS_nx ⟨rfl, ?_⟩)⟩
        rcases hA2 with ⟨rfl, rfl, rfl⟩ | ⟨h5, h6⟩
        · exact ⟨0, by omega, _, [], _, rfl, hI3, by rw [List.length_nil]; omega, .inr ⟨rfl, rfl, rfl, hd'⟩⟩
        · exact ⟨m, by omega, _, S', _, rfl, hI3, by omega, .inl ⟨fun e => by subst e; exact h6.elim, fun e => absurd e h5, h6⟩⟩
      refine wS_seq (wS_ifs (wT_bv (wE_app (wL_cons (wE_ns rfl hr1 hl hI.shut (wL_cons (wE_str (wL_nil ?_))))))))
      rw [lit_o]
      refine wM_eqT (nx1_ok hA) (by decide) ?_
      have fin1 : ∀ {s : RS} {ρ : Rho} {μ2 : Store} {Q : KS}, wS ⟨evCall pr n (k + 3), n, pr.fs⟩ s ρ μ2 (fun o ρ' μ' => o = .nx ∧ ∃ m', m' < m + 1 ∧ PV μ0 r l q d m' ρ' μ') → (∀ ρ' μ', (∃ m', m' < m + 1 ∧ PV μ0 r l q d m' ρ' μ') → Q .nx ρ' μ') → wS ⟨evCall pr n (k + 3), n, pr.fs⟩ s ρ μ2 Q := fun h hq => wS_mono h fun o ρ' μ' ⟨e, h⟩ => by subst e; exact hq _ _ h
      -- push of a list
      by_cases c1 : nx1 l p = [40]
      · have hp := nx1_lt c1
        rw [decide_eq_true c1]
        refine ⟨_, rfl, iteY rfl ?_⟩
        have hI2 := hI.move (q := p + 1) (by omega) hp
        refine wS_seq (wS_adv (d := 1) rfl hr1 ?_)
        have hr2 := hI2.rdr
        obtain ⟨bs2, g1, g2, g3, g4⟩ := hI2.box
        have hbl : bs2.length = S.length := by
          have : ∀ (bs : List Nat) (S : List (List D)), Boxes (μ1.set r (rd l (p + 1))) bs S → bs.length = S.length := fun bs => by
            induction bs with
            | nil => intro S h; cases S with | nil => rfl | cons _ _ => exact h.elim
            | cons b bs ih => intro S h; cases S with | nil => exact h.elim | cons _ S => rw [List.length_cons, List.length_cons, ih S h.2]
          exact this _ _ g2
        have s2 := hI2.shut
        have base2 := hI2.base
        have len2 := hI2.len
        generalize μ1.set r (rd l (p + 1)) = μ2 at *
        refine kSeq_nx (wS_seq (wS_drop (wE_bm (wE_var rfl ⟨isLst_box g1, wL_cons (wE_app (wL_nil ?_))⟩))))
        refine wM_of (v := .box μ2.length) (μ' := μ2 ++ [.lst []]) rfl (wL_nil ?_)
        refine wM_appB (get_snoc_lt g1) (by rw [List.length_map, List.length_reverse, szl]; omega) ?_
        have gN : (μ2 ++ [SO.lst []])[μ0.length]? = some (.lst (bxs bs2)) := get_snoc_lt g1
        have hlast : ((μ2 ++ [SO.lst []]).set μ0.length (.lst (bxs bs2 ++ [.box μ2.length])))[μ2.length]? = some (.lst []) := by rw [set_ne (by omega)]; exact get_snoc_eq
        have nmem : μ2.length ∉ bs2 := fun h => Nat.lt_irrefl _ (boxes_lt g2 _ h)
        have hIp : IS μ0 r l ((μ2 ++ [SO.lst []]).set μ0.length (.lst (bxs bs2 ++ [.box μ2.length]))) (p + 1) ([] :: S) := by
          refine ⟨⟨μ2.length :: bs2, ?_, ⟨hlast, boxes_set (fun h => by have := g4 _ h; omega) (boxes_app g2)⟩, List.nodup_cons.mpr ⟨nmem, g3⟩, fun b hb => ?_⟩, ?_, hr, ?_, fun ds hd => ?_, hp⟩
          · rw [set_get gN]
            simp [bxs]
          · rcases List.mem_cons.mp hb with rfl | hb
            · exact len2
            · exact g4 b hb
          · rw [take_set2 (Nat.le_refl _), List.take_append_of_le_length (by omega)]
            exact base2
          · refine shut_set (shut_app s2 rfl) ?_
            have := List.all_eq_true.mp s2 _ (List.mem_of_getElem? g1)
            have a2 := List.all_eq_true.mp (shut_app (s := .lst []) s2 rfl) _ (List.mem_of_getElem? gN)
            simp only [soOk, List.all_append, Bool.and_eq_true] at a2 ⊢
            refine ⟨a2, ?_⟩
            simp [valOk]
          · rcases List.mem_cons.mp hd with rfl | hd
            · exact Nat.zero_le _
            · have := hI.small ds hd; omega
        generalize (μ2 ++ [SO.lst []]).set μ0.length (.lst (bxs bs2 ++ [.box μ2.length])) = μ3 at *
        have hr3 := hIp.rdr
        refine kSeq_nx (wS_seq (wS_ifs (wT_bv (wE_app (wL_cons (wE_ns rfl hr3 hl hIp.shut (wL_cons (wE_str (wL_nil ?_)))))))))
        rw [lit_s]
        refine wM_neT (nx1_ok hA) (by decide) ?_
        rcases hL with ⟨_, c2, hL⟩ | ⟨p1, d1, p', S', d', hd, hE, hA2⟩
        · rw [decide_eq_false c2]
          refine ⟨_, rfl, iteY rfl (wS_cnt (kSeq_ct (kSeq_ct ?_)))⟩
          exact ⟨m, by omega, _, _, _, rfl, hIp, by rw [List.length_cons]; omega, .inl ⟨fun e => by subst e; exact hL.elim, (fun e => by cases e), hL⟩⟩
        · rcases hd with ⟨_, c2, rfl, rfl⟩ | ⟨c3, _⟩
          · rw [decide_eq_true c2]
            refine ⟨_, rfl, iteZ rfl (wS_nx (kSeq_nx ?_))⟩
            obtain ⟨cs, i1, i2, i3, i4⟩ := hIp.box
            cases cs with
            | nil => exact i2.elim
            | cons b cs =>
              have ebx : bxs (b :: cs) = bxs cs ++ [.box b] := by simp [bxs]
              rw [ebx] at i1
              have hb := i4 b (List.mem_cons_self ..)
              have hnb := List.nodup_cons.mp i3
              refine wS_set (wE_rdM nm_cl (wE_var rfl ⟨r, l, p + 1, rfl, hr3, wL_cons (wE_var rfl (wL_nil ?_))⟩))
              refine wM_of (run_closed n (k + 2) _ r (p + 1) μ0.length b l (bxs cs) [] hr3 i1 i2.1 (by omega) (by omega) (by omega) hIp.shut) ?_
              have hmm : (μ3.set r (rd l (p + 2)))[μ0.length]? = some (.lst (bxs cs ++ [.box b])) := by rw [set_ne (by omega)]; exact i1
              have hI4 : IS μ0 r l ((μ3.set r (rd l (p + 2))).set μ0.length (.lst (bxs cs))) (p + 2) S := by
                refine ⟨⟨cs, set_get hmm, boxes_set (fun hm => ?_) (boxes_set (fun hm => ?_) i2.2), hnb.2, fun b hb => i4 b (List.mem_cons_of_mem _ hb)⟩, ?_, hr, ?_, fun ds hd => ?_, nx1_lt c2⟩
                · have := i4 _ (List.mem_cons_of_mem _ hm); omega
                · have := i4 _ (List.mem_cons_of_mem _ hm); omega
                · rw [take_set2 (Nat.le_refl _), take_set hr, hIp.base, List.set_set]
                · refine shut_set (shut_rd hIp.shut r (p + 2) l) ?_
                  have := List.all_eq_true.mp hIp.shut _ (List.mem_of_getElem? i1)
                  simp only [soOk, List.all_append, Bool.and_eq_true] at this ⊢
                  rw [List.length_set]
                  exact this.1
                · have := hI.small ds hd; omega
              exact kSeq_nx (fin1 (tail _ (p + 2) (.tup []) p' S' d' hI4 (fun e => nomatch e) hE hA2) fun ρ' μ' h => h)
          · exact absurd c1 c3
      · rw [decide_eq_false c1]
        refine ⟨_, rfl, iteZ rfl ?_⟩
        rcases hL with ⟨c2, _⟩ | ⟨p1, d1, p', S', d', hd, hE, hA2⟩
        · exact absurd c2 c1
        rcases hd with ⟨c2, _⟩ | ⟨_, hp1, hp2, hsg, hsn⟩
        · exact absurd c2 c1
        refine wS_set (wE_rdM nm_si (wE_var rfl ⟨r, l, p, rfl, hr1, wL_nil ?_⟩))
        refine wM_of (run_single n k μ1 r p p1 l d1 hr1 hsg hA hl hn hI.shut) ?_
        exact kSeq_nx (fin1 (tail _ p1 d1 p' S' d' (hI.move hp1 hp2) hsn hE hA2) fun ρ' μ' h => h)
  · refine wT_or (wT_bv (wE_app (wL_cons (wE_var rfl (wL_cons (wE_non (wL_nil ?_)))))))
    refine wM_of (v := .dat (.bl (isNonV (.dat d)))) (μ' := μ1) rfl ⟨_, rfl, ?_⟩
    rw [nonV_dat hnd]
    cases bs with
    | cons b bs => exact h2.elim
    | nil =>
      refine iteZ rfl (wT_tr (wE_var rfl (wB_of (tr_box h1) (iteZ rfl ?_))))
      refine kSeq_nx (wS_ret (wE_var rfl ?_))
      show fin μ0.length (.dat d) μ1 = _
      rw [fin_dat (by rw [hI.base]; have := shut_rd hS r p l; unfold Shut at this; rwa [List.length_set] at this) (by omega), hI.base]
end K54

namespace K54
open PySem PySem.Spec PyProof.Rows L2 EV
local macro_rules | `(tactic| walk_at "ev1") => `(tactic| with_reducible first
  | (refine' wE_var ?hh ?_; (case hh => with_unfolding_all exact rfl)) | refine wE_int ?_ | refine wE_str ?_ | refine wE_non ?_ | refine wE_bl ?_ | refine wL_nil ?_ | refine wL_cons ?_
  | refine wE_app ?_ | refine wE_bm ?_ | refine wE_sl ?_ | refine wO_no ?_ | refine wO_so ?_ | refine wE_call ?_
  | refine wE_ifx ?_ | refine wE_and ?_ | refine wE_or ?_ | refine wE_chain ?_ | refine wE_frz ?_ | refine wE_lc ?_
  | refine wT_tr ?_ | refine wT_bv ?_ | refine wT_and ?_ | refine wT_or ?_ | refine wT_not ?_ | refine wT_yes ?_
  | refine wS_seq ?_ | refine wS_set ?_ | refine wS_asg ?_ | refine wS_setI ?_ | refine wS_drop ?_ | refine wS_ret ?_ | refine wS_retN ?_ | refine wS_nx ?_ | refine wS_brk ?_ | refine wS_cnt ?_
  | refine kSeq_nx ?_ | refine kSeq_rt ?_ | refine kSeq_bk ?_ | refine kSeq_ct ?_)
local macro_rules | `(tactic| walk_at "ev2") => `(tactic| first
  | ((with_reducible refine' wM_ixB ?hh ?hi ?_); (case hh => first | assumption | exact get_snoc_eq); (case hi => exact rfl)) | (with_reducible refine wM_lenDL ?_) | (with_reducible refine wM_eqI ?_) | (with_reducible refine wM_neI ?_) | (with_reducible refine wM_slL ?_) | (with_reducible refine wM_mul (by omega) ?_) | (with_reducible refine wM_mod (by first | assumption | decide) ?_) | (with_reducible refine wM_div (by first | assumption | decide) ?_)
  | ((with_reducible refine' wM_of ?hh ?_); (case hh => exact rfl)) | ((with_reducible refine' wB_of ?hh ?_); (case hh => exact rfl))
  | ((with_reducible refine' iteY ?hb ?_); (case hb => exact rfl)) | ((with_reducible refine' iteZ ?hb ?_); (case hb => exact rfl)) | refine ⟨_, rfl, ?_⟩ | refine ⟨rfl, ?_⟩ | refine ⟨_, _, _, _, rfl, rfl, (by first | assumption | exact get_snoc_eq), rfl, ?_⟩ | refine ⟨_, _, _, _, rfl, rfl, rfl, rfl, ?_⟩ | refine ⟨_, _, _, rfl, rfl, rfl, rfl, ?_⟩ | refine ⟨_, _, rfl, rfl, rfl, ?_⟩)
local macro_rules | `(tactic| walk_at "done") => `(tactic| first | exact rfl | exact ⟨rfl, rfl⟩ | exact ⟨_, rfl, rfl⟩ | exact ⟨_, _, rfl, rfl⟩ | exact ⟨rfl, _, rfl, rfl⟩ | exact ⟨rfl, _, _, rfl, rfl⟩)
local macro_rules | `(tactic| walk_at "ev") => `(tactic| repeat (first | walk_at "ev1" | walk_at "ev2"))
/-! ### the reader reads what is told -/
mutual
def szD : D → Nat
  | .tup ds => 1 + szs ds
  | _ => 1
def szs : List D → Nat
  | [] => 0
  | d :: ds => szD d + szs ds
end
def After (l : List Nat) (m p : Nat) (S : List (List D)) (d : D) (q : Nat) (dd : D) : Prop := (S = [] ∧ q = p ∧ dd = d) ∨ (S ≠ [] ∧ Lp l m p S q dd)
theorem numL_head : ∀ (m n : Nat), n ≤ m → 0 < n → ∃ c t, TL.numL n = c :: t ∧ c ≠ 48 ∧ isDig c = true
  | 0, n, h, h0 => by omega
  | m + 1, n, h, h0 => by
    by_cases hn : n < 10
    · exact ⟨48 + n, [], TL.numL_lt hn, by omega, decide_eq_true (by omega)⟩
    · obtain ⟨c, t, e, h1, h2⟩ := numL_head m (n / 10) (by omega) (by omega)
      exact ⟨c, t ++ [48 + n % 10], by rw [TL.numL_step (by omega), e]; rfl, h1, h2⟩
theorem sgI_head (i : Int) : ∃ c t, sgI i = c :: t ∧ (c = 45 ∨ isDig c = true) := by
  unfold sgI
  split
  · exact ⟨45, _, rfl, .inl rfl⟩
  · cases e : TL.numL i.toNat with
    | nil => exact absurd e (TL.numL_ne _)
    | cons c t => exact ⟨c, t, rfl, .inr (numL_dig c (by rw [e]; exact List.mem_cons_self ..))⟩
theorem sgD_head {d : D} (h : plain d = true) : ∃ c t, sgD d = c :: t ∧ c ≠ 41 := by
  cases d with
  | str s => exact ⟨34, _, by rw [sgD], by decide⟩
  | int i =>
    obtain ⟨c, t, e, hc⟩ := sgI_head i
    refine ⟨c, t, by rw [sgD]; exact e, ?_⟩
    rcases hc with rfl | hc
    · decide
    · have := of_decide_eq_true hc; omega
  | tup ds => exact ⟨40, _, by rw [sgD], by decide⟩
  | non => cases h
  | bl b => cases h
  | lst xs => cases h
  | scr ns => cases h
theorem lp_one {l : List Nat} {p p1 : Nat} {S : List (List D)} {d : D} {q : Nat} {dd : D} {m : Nat} (hs : SingR l p p1 d) (hsn : d ≠ .non) (h40 : nx1 l p ≠ [40]) (hp : p ≤ p1 ∧ p1 ≤ l.length) {p' : Nat} {S' : List (List D)} {d' : D} (hE : endM l p1 S d = some (p', S', d')) (hA : After l m p' S' d' q dd) : Lp l (m + 1) p S q dd :=
  .inr ⟨p1, d, p', S', d', .inr ⟨h40, hp.1, hp.2, hs, hsn⟩, hE, hA⟩
def endC' (acc : List D) (m : Nat) : List Nat := if acc = [] ∧ m = 1 then [44, 41] else [41]
theorem nx1_cons {l t : List Nat} {p c : Nat} (h : l.drop p = c :: t) : nx1 l p = [c] := by
  unfold nx1
  rw [h]
  rfl
theorem drop_more {l a b : List Nat} {p : Nat} (h : l.drop p = a ++ b) : l.drop (p + a.length) = b := by rw [← List.drop_drop, h, List.drop_left]
theorem drop_len {l a : List Nat} {p : Nat} (h : l.drop p = a) (hne : a ≠ []) : p + a.length = l.length := by
  have := congrArg List.length h
  rw [List.length_drop] at this
  have : a.length ≠ 0 := fun e => hne (List.eq_nil_of_length_eq_zero e)
  omega
mutual
theorem lp_of {l : List Nat} {q : Nat} {dd : D} : ∀ (d : D), plain d = true → ∀ (p : Nat) (S : List (List D)) (rest : List Nat) (m : Nat), l.drop p = sgD d ++ rest → (∀ c, rest.head? = some c → isDig c = false) →
    ∀ (p' : Nat) (S' : List (List D)) (d' : D), endM l (p + (sgD d).length) S d = some (p', S', d') → After l m p' S' d' q dd → Lp l (m + szD d) p S q dd
  | .str s, h, p, S, rest, m, hd, hr, p', S', d', hE, hA => by
    have h : (s.cps.toList.all fun c => decide (c ∈ sgL ∧ c ≠ 34)) = true := h
    have hall := fun c hc => of_decide_eq_true (List.all_eq_true.mp h c hc)
    rw [sgD] at hd hE
    have hI : StrAt l p s.cps.toList rest := ⟨by rw [hd]; simp, fun hm => (hall 34 hm).2 rfl, fun c hc => (hall c hc).1⟩
    have hlen := drop_len hd (by simp)
    simp only [List.length_append, List.length_cons, List.length_nil] at hlen hE
    refine lp_one (p1 := p + s.cps.toList.length + 2) (d := .str s) (.inr (.inl ⟨s.cps.toList, rest, hI, rfl, by rw [st_cps]⟩)) (fun e => nomatch e) ?_ ⟨by omega, by omega⟩ ?_ hA
    · rw [nx1_cons (c := 34) (by rw [hd]; rfl)]
      decide
    · rw [show p + s.cps.toList.length + 2 = p + (s.cps.toList.length + (0 + 1) + 1) by omega]
      exact hE
  | .int i, h, p, S, rest, m, hd, hr, p', S', d', hE, hA => by
    have hi : i.natAbs < 10 ^ 400 := of_decide_eq_true h
    have hp := drop_len hd (by
      obtain ⟨c, t, e, _⟩ := sgI_head i
      rw [sgD, e]
      simp)
    rw [List.length_append] at hp
    obtain ⟨c, t, e, hc⟩ := sgI_head i
    have hnx : nx1 l p = [c] := nx1_cons (t := t ++ rest) (by rw [hd, sgD, e]; rfl)
    have hc2 : c ≠ 34 ∧ c ≠ 40 := by
      rcases hc with rfl | hc
      · exact ⟨by decide, by decide⟩
      · have := of_decide_eq_true hc; exact ⟨by omega, by omega⟩
    have key : SingR l p (p + (sgD (.int i)).length) (.int i) := by
      rw [sgD] at hd ⊢
      refine .inl ⟨by rw [hnx]; intro h; cases h; exact hc2.1 rfl, ?_⟩
      unfold sgI at hd ⊢
      split
      · rename_i hneg
        rw [if_pos hneg] at hd
        obtain ⟨c0, t0, e0, h48, _⟩ := numL_head (-i).toNat (-i).toNat (Nat.le_refl _) (by omega)
        refine ⟨p + 1, true, TL.numL (-i).toNat, rest, ⟨.inl ⟨rfl, nx1_cons (by rw [hd]; rfl), rfl⟩, drop_more (a := [45]) hd, numL_dig, hr, TL.numL_len (by decide) (by omega)⟩, by rw [List.length_cons]; omega, ?_⟩
        unfold intR
        rw [if_neg (fun hno => by
          rcases hno with h | ⟨h, _⟩
          · exact TL.numL_ne _ h
          · rw [e0] at h
            cases h
            exact h48 rfl)]
        unfold intV
        rw [if_pos rfl, TL.numL_val]
        congr 1
        omega
      · rename_i hneg
        rw [if_neg hneg] at hd
        refine ⟨p, false, TL.numL i.toNat, rest, ⟨.inr ⟨rfl, ?_, rfl⟩, hd, numL_dig, hr, TL.numL_len (by decide) (by omega)⟩, rfl, ?_⟩
        · rw [hnx]
          intro h
          cases h
          cases e2 : TL.numL i.toNat with
          | nil => exact TL.numL_ne _ e2
          | cons x xs =>
            have h3 := nx1_cons (l := l) (p := p) (c := x) (t := xs ++ rest) (by rw [hd, e2]; rfl)
            rw [hnx] at h3
            cases h3
            have := of_decide_eq_true (numL_dig (n := i.toNat) 45 (by rw [e2]; exact List.mem_cons_self ..))
            omega
        · unfold intR
          rw [if_neg (fun hno => by
            rcases hno with h | ⟨h, h2⟩
            · exact TL.numL_ne _ h
            · by_cases h0 : i.toNat = 0
              · exact h2 ⟨rfl, by rw [h0]; decide +kernel⟩
              · obtain ⟨c0, t0, e0, h48, _⟩ := numL_head i.toNat i.toNat (Nat.le_refl _) (by omega)
                rw [e0] at h
                cases h
                exact h48 rfl)]
          unfold intV
          rw [if_neg (by decide), TL.numL_val]
          congr 1
          omega
    refine lp_one key (fun e => nomatch e) ?_ ⟨by omega, by omega⟩ hE hA
    rw [hnx]
    intro h
    cases h
    exact hc2.2 rfl
  | .tup [], h, p, S, rest, m, hd, hr, p', S', d', hE, hA => by
    rw [sgD] at hd hE
    have e : 40 :: (joinC (sgs []) ++ endC ([] : List D).length) = [40, 41] := rfl
    rw [e] at hd hE
    have hd2 : l.drop (p + 1) = 41 :: rest := drop_more (a := [40]) hd
    exact .inr ⟨p + 2, .tup [], p', S', d', .inl ⟨nx1_cons (by rw [hd]; rfl), nx1_cons hd2, rfl, rfl⟩, hE, hA⟩
  | .tup (d :: ds), h, p, S, rest, m, hd, hr, p', S', d', hE, hA => by
    have hp : plains (d :: ds) = true := h
    rw [sgD] at hd hE
    have hd1 : l.drop (p + 1) = joinC (sgs (d :: ds)) ++ (endC (d :: ds).length ++ rest) := by
      have := drop_more (l := l) (p := p) (a := [40]) (b := joinC (sgs (d :: ds)) ++ (endC (d :: ds).length ++ rest)) (by rw [hd]; simp)
      exact this
    rw [show m + szD (.tup (d :: ds)) = (m + szs (d :: ds)) + 1 by rw [szD]; omega]
    refine .inl ⟨nx1_cons (by rw [hd]; rfl), ?_, ?_⟩
    · obtain ⟨c, t, e, hc⟩ := sgD_head (plains_all hp d (List.mem_cons_self ..))
      have : ∃ t', joinC (sgs (d :: ds)) ++ (endC (d :: ds).length ++ rest) = c :: t' := by
        cases ds with
        | nil => exact ⟨t ++ (endC 1 ++ rest), by show sgD d ++ _ = _; rw [e]; rfl⟩
        | cons y r => exact ⟨_, by show (sgD d ++ 44 :: joinC (sgs (y :: r))) ++ _ = _; rw [e]; rfl⟩
      obtain ⟨t', ht⟩ := this
      rw [ht] at hd1
      rw [nx1_cons hd1]
      intro e
      exact hc (by simpa using e)
    · have ec : endC' [] (d :: ds).length = endC (d :: ds).length := by
        unfold endC' endC
        simp
      have := lps_of (l := l) (q := q) (dd := dd) (d :: ds) (by simp) hp (p + 1) [] S rest m (by rw [ec]; exact hd1) p' S' d' (by
        rw [ec]
        rw [List.length_cons, List.length_append] at hE
        rw [List.nil_append, show p + 1 + (joinC (sgs (d :: ds))).length + (endC (d :: ds).length).length = p + ((joinC (sgs (d :: ds))).length + (endC (d :: ds).length).length + 1) by omega]
        exact hE) hA
      exact this
  | .non, h, _, _, _, _, _, _, _, _, _, _, _ => by cases h
  | .bl b, h, _, _, _, _, _, _, _, _, _, _, _ => by cases h
  | .lst xs, h, _, _, _, _, _, _, _, _, _, _, _ => by cases h
  | .scr ns, h, _, _, _, _, _, _, _, _, _, _, _ => by cases h
theorem lps_of {l : List Nat} {q : Nat} {dd : D} : ∀ (ds : List D), ds ≠ [] → plains ds = true → ∀ (p : Nat) (acc : List D) (S : List (List D)) (rest : List Nat) (m : Nat), l.drop p = joinC (sgs ds) ++ (endC' acc ds.length ++ rest) →
    ∀ (p' : Nat) (S' : List (List D)) (d' : D), endM l (p + (joinC (sgs ds)).length + (endC' acc ds.length).length) S (.tup (acc ++ ds)) = some (p', S', d') → After l m p' S' d' q dd → Lp l (m + szs ds) p (acc :: S) q dd
  | [], hne, _, _, _, _, _, _, _, _, _, _, _, _ => absurd rfl hne
  | [x], _, h, p, acc, S, rest, m, hd, p', S', d', hE, hA => by
    rw [plains, Bool.and_eq_true] at h
    have hd : l.drop p = sgD x ++ (endC' acc 1 ++ rest) := hd
    have hE : endM l (p + (sgD x).length + (endC' acc 1).length) S (.tup (acc ++ [x])) = some (p', S', d') := hE
    have hd2 := drop_more hd
    have hsz : szs [x] = szD x := by simp [szs]
    rw [hsz]
    refine lp_of x h.1 p (acc :: S) _ m hd ?_ p' S' d' ?_ hA
    · intro c hc
      unfold endC' at hc
      split at hc
      · cases hc; decide
      · cases hc; decide
    · rw [endM]
      unfold endC' at hd2 hE
      split at hE
      · rename_i ha
        rw [if_pos ha] at hd2
        have n2 : nx1 l (p + (sgD x).length + 1) = [41] := nx1_cons (t := rest) (drop_more (a := [44]) hd2)
        rw [if_pos (nx1_cons hd2), if_pos n2]
        exact hE
      · rename_i ha
        rw [if_neg ha] at hd2
        have n1 : nx1 l (p + (sgD x).length) = [41] := nx1_cons hd2
        rw [if_neg (by rw [n1]; decide), if_pos n1]
        exact hE
  | x :: y :: r, _, h, p, acc, S, rest, m, hd, p', S', d', hE, hA => by
    rw [plains, Bool.and_eq_true] at h
    have e1 : joinC (sgs (x :: y :: r)) = sgD x ++ 44 :: joinC (sgs (y :: r)) := rfl
    have e2 : endC' acc (x :: y :: r).length = [41] := if_neg (fun hh => by have := hh.2; simp at this)
    have e3 : endC' (acc ++ [x]) (y :: r).length = [41] := if_neg (fun hh => by have := hh.1; simp at this)
    rw [e1, e2] at hd hE
    have hd1 : l.drop p = sgD x ++ (44 :: (joinC (sgs (y :: r)) ++ ([41] ++ rest))) := by rw [hd]; simp
    have hd2 := drop_more hd1
    have hd3 : l.drop (p + (sgD x).length + 1) = joinC (sgs (y :: r)) ++ ([41] ++ rest) := drop_more (a := [44]) hd2
    have ih := lps_of (l := l) (q := q) (dd := dd) (y :: r) (by simp) h.2 (p + (sgD x).length + 1) (acc ++ [x]) S rest m (by rw [e3]; exact hd3) p' S' d' (by
      rw [e3]
      rw [List.length_append, List.length_cons] at hE
      rw [show acc ++ [x] ++ y :: r = acc ++ x :: y :: r by simp, show p + (sgD x).length + 1 + (joinC (sgs (y :: r))).length + [41].length = p + ((sgD x).length + ((joinC (sgs (y :: r))).length + 1)) + [41].length by omega]
      exact hE) hA
    rw [show m + szs (x :: y :: r) = (m + szs (y :: r)) + szD x by rw [szs]; omega]
    refine lp_of x h.1 p (acc :: S) _ (m + szs (y :: r)) hd1 ?_ (p + (sgD x).length + 1) ((acc ++ [x]) :: S) x ?_ (.inr ⟨by simp, ih⟩)
    · intro c hc
      cases hc
      decide
    · rw [endM, if_pos (nx1_cons hd2), if_neg]
      obtain ⟨c, t, e, hc⟩ := sgD_head (plains_all h.2 y (List.mem_cons_self ..))
      have : ∃ t', joinC (sgs (y :: r)) ++ ([41] ++ rest) = c :: t' := by
        cases r with
        | nil => exact ⟨t ++ ([41] ++ rest), by show sgD y ++ _ = _; rw [e]; rfl⟩
        | cons z r => exact ⟨_, by show (sgD y ++ 44 :: joinC (sgs (z :: r))) ++ _ = _; rw [e]; rfl⟩
      obtain ⟨t', ht⟩ := this
      rw [ht] at hd3
      rw [nx1_cons hd3]
      intro e
      exact hc (by simpa using e)
end
mutual
theorem szD_le : ∀ (d : D), plain d = true → szD d ≤ (sgD d).length
  | .str s, _ => by show 1 ≤ _; rw [sgD]; simp
  | .int i, h => by
    obtain ⟨c, t, e, _⟩ := sgI_head i
    show 1 ≤ _
    rw [sgD, e]
    simp
  | .tup ds, h => by
    rw [szD, sgD, List.length_cons, List.length_append, ← joinC_len]
    have := szs_le ds h
    rw [sgs_map] at this ⊢
    omega
  | .non, h => by cases h
  | .bl b, h => by cases h
  | .lst xs, h => by cases h
  | .scr ns, h => by cases h
theorem szs_le : ∀ (ds : List D), plains ds = true → szs ds ≤ ((sgs ds).map List.length).sum
  | [], _ => Nat.le_refl _
  | d :: ds, h => by
    rw [plains, Bool.and_eq_true] at h
    have h1 := szD_le d h.1
    have h2 := szs_le ds h.2
    rw [szs, sgs, List.map_cons, List.sum_cons]
    omega
end
theorem lp_whole {d : D} (h : plain d = true) : Lp (sgD d) (szD d) 0 [] (sgD d).length d := by
  have := lp_of (l := sgD d) (q := (sgD d).length) (dd := d) d h 0 [] [] 0 (by simp) (fun c hc => by cases hc) (sgD d).length [] d (by rw [Nat.zero_add]; rfl) (.inl ⟨rfl, rfl, rfl⟩)
  rwa [Nat.zero_add] at this
/-! ### value_of -/
theorem run_init (n k : Nat) (μ : Store) (l : List Nat) (hS : Shut μ) : evCall pr n (k + 1) 2 [.box μ.length, .dat (.str (st l))] (μ ++ [.ins 0 []]) = some (.dat .non, μ ++ [rd l 0]) := by
  refine run_of2 [some (.box μ.length), some (.dat (.str (st l)))] rfl rfl rfl ?_
  unfold R_Readeru__initu_
  refine wS_seq (wS_setF (wE_var rfl (wE_var rfl ⟨μ.length, [], rfl, get_snoc_eq, has_text, by decide, ?_⟩)))
  rw [set_snoc]
  refine kSeq_nx (wS_setF (wE_int (wE_var rfl ⟨μ.length, _, rfl, get_snoc_eq, has_at, by show 1 < 1000; decide, ?_⟩)))
  rw [set_snoc]
  have e : putG (Str.ofString "at") (Val.dat (.int 0)) (putG (Str.ofString "text") (Val.dat (.str (st l))) []) = [(Str.ofString "text", Val.dat (.str (st l))), (Str.ofString "at", Val.dat (.int 0))] := by
    show (if Str.ofString "text" = Str.ofString "at" then _ else (Str.ofString "text", Val.dat (.str (st l))) :: _) = _
    rw [if_neg ne_ta]
    rfl
  rw [e]
  exact fin_len (shut_app hS rfl) (by simp)
theorem run_value_of (n k : Nat) (μ : Store) (d : D) (hp : plain d = true) (hd : dep d ≤ k) (hl : (sgD d).length ≤ 40000) (hn : 100000 < n) (hS : Shut μ) :
    evCall pr n (k + 5) 10 [.dat (.str (st (sgD d)))] μ = some (.dat d, μ) := by
  refine run_of2 [some (.dat (.str (st (sgD d)))), none, none] rfl rfl rfl ?_
  unfold R_value_of
  have hA : ∀ c ∈ sgD d, c < 128 := fun c hc => (sg_lt c (sgD_sg hp c hc)).1
  have hnd : d ≠ .non := fun e => by subst e; cases hp
  have s1 : Shut (μ ++ [rd (sgD d) 0]) := shut_app hS rfl
  have s2 : Shut (μ ++ [rd (sgD d) (sgD d).length]) := shut_app hS rfl
  refine wS_seq (wS_set (wE_new (wL_cons (wE_var rfl (wL_nil (wM_of (run_init n (k + 3) μ (sgD d) hS) ⟨rfl, ?_⟩))))))
  refine kSeq_nx (wS_seq (wS_set (wE_rdM nm_va (wE_var rfl ⟨_, sgD d, 0, rfl, get_snoc_eq, wL_nil ?_⟩))))
  refine wM_of (run_value n k _ μ.length (sgD d) (sgD d).length d (szD d) get_snoc_eq (lp_whole hp) (Nat.le_trans (szD_le d hp) hl) hA hl hn s1) ?_
  rw [set_snoc]
  refine kSeq_nx (wS_ret ?_)
  refine wE_ifx (wT_and (wT_bv (wE_app (wL_cons (wE_var rfl (wL_cons (wE_non (wL_nil ?_))))))))
  refine wM_of (v := .dat (.bl (!isNonV (.dat d)))) (μ' := μ ++ [rd (sgD d) (sgD d).length]) rfl ⟨_, rfl, iteY (by rw [nonV_dat hnd]; rfl) ?_⟩
  refine wT_and (wT_bv (wE_app (wL_cons (wE_at rfl get_snoc_eq (wL_cons (wE_app (wL_cons (wE_var rfl (wL_nil ?_)))))))))
  refine wM_lenT (by rw [szl]; omega) (wL_nil ?_)
  refine wM_eqI ⟨_, rfl, iteY (decide_eq_true rfl) ?_⟩
  refine wT_bv (wE_app (wL_cons (wE_call (wL_cons (wE_var rfl (wL_nil ?_))))))
  refine wM_of (run_signs_of n _ hn s2 (k + 4) d hp (by omega) hl) (wL_cons (wE_var rfl (wL_nil ?_)))
  refine wM_eqT (big_ok hA) (big_ok hA) ⟨_, rfl, iteY (decide_eq_true rfl) ?_⟩
  refine wE_var rfl ?_
  exact fin_junk hS
end K54

namespace K54
open PySem PySem.Spec PyProof.Rows L2 EV
local macro_rules | `(tactic| walk_at "ev1") => `(tactic| with_reducible first
  | (refine' wE_var ?hh ?_; (case hh => with_unfolding_all exact rfl)) | refine wE_int ?_ | refine wE_str ?_ | refine wE_non ?_ | refine wE_bl ?_ | refine wL_nil ?_ | refine wL_cons ?_
  | refine wE_app ?_ | refine wE_bm ?_ | refine wE_sl ?_ | refine wO_no ?_ | refine wO_so ?_ | refine wE_call ?_
  | refine wE_ifx ?_ | refine wE_and ?_ | refine wE_or ?_ | refine wE_chain ?_ | refine wE_frz ?_ | refine wE_lc ?_
  | refine wT_tr ?_ | refine wT_bv ?_ | refine wT_and ?_ | refine wT_or ?_ | refine wT_not ?_ | refine wT_yes ?_
  | refine wS_seq ?_ | refine wS_set ?_ | refine wS_asg ?_ | refine wS_setI ?_ | refine wS_drop ?_ | refine wS_ret ?_ | refine wS_retN ?_ | refine wS_nx ?_ | refine wS_brk ?_ | refine wS_cnt ?_
  | refine kSeq_nx ?_ | refine kSeq_rt ?_ | refine kSeq_bk ?_ | refine kSeq_ct ?_)
local macro_rules | `(tactic| walk_at "ev2") => `(tactic| first
  | ((with_reducible refine' wM_ixB ?hh ?hi ?_); (case hh => first | assumption | exact get_snoc_eq); (case hi => exact rfl)) | (with_reducible refine wM_lenDL ?_) | (with_reducible refine wM_eqI ?_) | (with_reducible refine wM_neI ?_) | (with_reducible refine wM_slL ?_) | (with_reducible refine wM_mul (by omega) ?_) | (with_reducible refine wM_mod (by first | assumption | decide) ?_) | (with_reducible refine wM_div (by first | assumption | decide) ?_)
  | ((with_reducible refine' wM_of ?hh ?_); (case hh => exact rfl)) | ((with_reducible refine' wB_of ?hh ?_); (case hh => exact rfl))
  | ((with_reducible refine' iteY ?hb ?_); (case hb => exact rfl)) | ((with_reducible refine' iteZ ?hb ?_); (case hb => exact rfl)) | refine ⟨_, rfl, ?_⟩ | refine ⟨rfl, ?_⟩ | refine ⟨_, _, _, _, rfl, rfl, (by first | assumption | exact get_snoc_eq), rfl, ?_⟩ | refine ⟨_, _, _, _, rfl, rfl, rfl, rfl, ?_⟩ | refine ⟨_, _, _, rfl, rfl, rfl, rfl, ?_⟩ | refine ⟨_, _, rfl, rfl, rfl, ?_⟩)
local macro_rules | `(tactic| walk_at "done") => `(tactic| first | exact rfl | exact ⟨rfl, rfl⟩ | exact ⟨_, rfl, rfl⟩ | exact ⟨_, _, rfl, rfl⟩ | exact ⟨rfl, _, rfl, rfl⟩ | exact ⟨rfl, _, _, rfl, rfl⟩)
local macro_rules | `(tactic| walk_at "ev") => `(tactic| repeat (first | walk_at "ev1" | walk_at "ev2"))
/-! ### value_of on any text -/
theorem run_value_ofT (n k : Nat) (μ : Store) (l : List Nat) (hR : RunOk l) (hs : ∀ c ∈ l, c ∈ sgL) (hl : l.length ≤ 20000) (hk : ∀ M, scan l (false, 0, 0) = (false, 0, M) → M + 1 ≤ k) (hn : 100000 < n) (hS : Shut μ) :
    ∃ d, evCall pr n (k + 5) 10 [.dat (.str (st l))] μ = some (.dat d, μ) ∧ (d = .non ∨ (plain d = true ∧ sgD d = l ∧ dep d ≤ k)) := by
  have hA : ∀ c ∈ l, c < 128 := fun c hc => (sg_lt c (hs c hc)).1
  have s1 : Shut (μ ++ [rd l 0]) := shut_app hS rfl
  obtain ⟨v, μ1, e1, q, hq, rfl, hv⟩ := run_valueT n k (μ ++ [rd l 0]) μ.length l get_snoc_eq hR hs (by omega) hn s1
  rw [set_snoc] at e1
  have s2 : Shut (μ ++ [rd l q]) := shut_app hS rfl
  suffices h : ∃ d, wS ⟨evCall pr n (k + 4), n, pr.fs⟩ R_value_of [some (.dat (.str (st l))), none, none] μ (kFn μ.length (.dat d) μ) ∧ (d = .non ∨ (plain d = true ∧ sgD d = l ∧ dep d ≤ k)) by
    obtain ⟨d, h1, h2⟩ := h
    exact ⟨d, run_of2 [some (.dat (.str (st l))), none, none] rfl rfl rfl h1, h2⟩
  have pre : ∀ d, wS ⟨evCall pr n (k + 4), n, pr.fs⟩ (.ret (.ifx (.and (.bv (.app (oIs true) (.cons (.var 2) (.cons (.cst .non) .nil)))) (.and (.bv (.app (oEq false) (.cons (.fld 0 (.var 1) (Str.ofString "at")) (.cons (.app oLen (.cons (.var 0) .nil)) .nil)))) (.bv (.app (oEq false) (.cons (.call 0 (.cons (.var 2) .nil)) (.cons (.var 0) .nil)))))) (.var 2) (.cst .non))) [some (.dat (.str (st l))), some (.box μ.length), some v] (μ ++ [rd l q]) (kFn μ.length (.dat d) μ) →
      wS ⟨evCall pr n (k + 4), n, pr.fs⟩ R_value_of [some (.dat (.str (st l))), none, none] μ (kFn μ.length (.dat d) μ) := fun d h => by
    unfold R_value_of
    refine wS_seq (wS_set (wE_new (wL_cons (wE_var rfl (wL_nil (wM_of (run_init n (k + 3) μ l hS) ⟨rfl, ?_⟩))))))
    refine kSeq_nx (wS_seq (wS_set (wE_rdM nm_va (wE_var rfl ⟨_, l, 0, rfl, get_snoc_eq, wL_nil ?_⟩))))
    refine wM_of e1 ?_
    exact kSeq_nx h
  rcases hv with rfl | ⟨d, M, rfl, hnd, hsc, hok, hw⟩
  · refine ⟨.non, pre _ (wS_ret (wE_ifx (wT_and (wT_bv (wE_app (wL_cons (wE_var rfl (wL_cons (wE_non (wL_nil ?_))))))))) ), .inl rfl⟩
    refine wM_of (v := .dat (.bl false)) (μ' := μ ++ [rd l q]) rfl ⟨_, rfl, iteZ rfl (iteZ rfl (wE_non ?_))⟩
    exact fin_junk hS
  have go : ∀ x, (q = l.length → wE ⟨evCall pr n (k + 4), n, pr.fs⟩ (.ifx (.bv (.app (oEq false) (.cons (.call 0 (.cons (.var 2) .nil)) (.cons (.var 0) .nil)))) (.var 2) (.cst .non)) [some (.dat (.str (st l))), some (.box μ.length), some (.dat d)] (μ ++ [rd l q]) fun u μ2 => u = .dat x ∧ μ2 = μ ++ [rd l q]) → (¬ q = l.length → x = .non) →
      wS ⟨evCall pr n (k + 4), n, pr.fs⟩ R_value_of [some (.dat (.str (st l))), none, none] μ (kFn μ.length (.dat x) μ) := fun x h1 h2 => by
    refine pre x (wS_ret (wE_ifx (wT_and (wT_bv (wE_app (wL_cons (wE_var rfl (wL_cons (wE_non (wL_nil ?_)))))))))) 
    refine wM_of (v := .dat (.bl (!isNonV (.dat d)))) (μ' := μ ++ [rd l q]) rfl ⟨_, rfl, iteY (by rw [nonV_dat hnd]; rfl) ?_⟩
    refine wT_and (wT_bv (wE_app (wL_cons (wE_at rfl get_snoc_eq (wL_cons (wE_app (wL_cons (wE_var rfl (wL_nil ?_)))))))))
    refine wM_lenT (by rw [szl]; omega) (wL_nil ?_)
    refine wM_eqI ⟨_, rfl, ?_⟩
    by_cases hq2 : q = l.length
    · refine iteY (decide_eq_true (by omega)) ?_
      obtain ⟨u, μ2, e2, rfl, rfl⟩ := h1 hq2
      simp only [evE] at e2
      cases e3 : evT ⟨evCall pr n (k + 4), n, pr.fs⟩ (.bv (.app (oEq false) (.cons (.call 0 (.cons (.var 2) .nil)) (.cons (.var 0) .nil)))) [some (.dat (.str (st l))), some (.box μ.length), some (.dat d)] (μ ++ [rd l q]) with
      | none => rw [e3] at e2; cases e2
      | some bm =>
        obtain ⟨b, μ3⟩ := bm
        rw [e3] at e2
        refine ⟨b, μ3, e3, ?_⟩
        cases b with
        | true => exact ⟨_, _, e2, fin_junk hS⟩
        | false => exact ⟨_, _, e2, fin_junk hS⟩
    · refine iteZ (decide_eq_false (by omega)) (iteZ rfl (wE_non ?_))
      rw [h2 hq2]
      exact fin_junk hS
  by_cases hq2 : q = l.length
  · have hp := hok.1
    have hd := hok.2
    have hMk : M + 1 ≤ k := hk M (by
      have := hsc.1
      rwa [hq2, List.take_length] at this)
    have hlen : (sgD d).length ≤ 40000 := by omega
    have hcall := run_signs_of n (μ ++ [rd l q]) hn s2 (k + 4) d hp (by omega) hlen
    have hA2 : ∀ c ∈ sgD d, c < 128 := fun c hc => (sg_lt c (sgD_sg hp c hc)).1
    by_cases he : sgD d = l
    · refine ⟨d, go d (fun _ => ?_) (fun h => absurd hq2 h), .inr ⟨hp, he, by omega⟩⟩
      refine wE_ifx (wT_bv (wE_app (wL_cons (wE_call (wL_cons (wE_var rfl (wL_nil (wM_of hcall ?_))))))))
      refine wL_cons (wE_var rfl (wL_nil ?_))
      refine wM_eqT (big_ok hA2) (big_ok hA) ⟨_, rfl, iteY (decide_eq_true he) (wE_var rfl ⟨rfl, rfl⟩)⟩
    · refine ⟨.non, go .non (fun _ => ?_) (fun h => absurd hq2 h), .inl rfl⟩
      refine wE_ifx (wT_bv (wE_app (wL_cons (wE_call (wL_cons (wE_var rfl (wL_nil (wM_of hcall ?_))))))))
      refine wL_cons (wE_var rfl (wL_nil ?_))
      refine wM_eqT (big_ok hA2) (big_ok hA) ⟨_, rfl, iteZ (decide_eq_false he) (wE_non ⟨rfl, rfl⟩)⟩
  · exact ⟨.non, go .non (fun h => absurd h hq2) (fun _ => rfl), .inl rfl⟩
end K54

namespace K54
open PySem PySem.Spec PyProof.Rows L2 EV
local macro_rules | `(tactic| walk_at "ev1") => `(tactic| with_reducible first
  | (refine' wE_var ?hh ?_; (case hh => with_unfolding_all exact rfl)) | refine wE_int ?_ | refine wE_str ?_ | refine wE_non ?_ | refine wE_bl ?_ | refine wL_nil ?_ | refine wL_cons ?_
  | refine wE_app ?_ | refine wE_bm ?_ | refine wE_sl ?_ | refine wO_no ?_ | refine wO_so ?_ | refine wE_call ?_
  | refine wE_ifx ?_ | refine wE_and ?_ | refine wE_or ?_ | refine wE_chain ?_ | refine wE_frz ?_ | refine wE_lc ?_
  | refine wT_tr ?_ | refine wT_bv ?_ | refine wT_and ?_ | refine wT_or ?_ | refine wT_not ?_ | refine wT_yes ?_
  | refine wS_seq ?_ | refine wS_set ?_ | refine wS_asg ?_ | refine wS_setI ?_ | refine wS_drop ?_ | refine wS_ret ?_ | refine wS_retN ?_ | refine wS_nx ?_ | refine wS_brk ?_ | refine wS_cnt ?_
  | refine kSeq_nx ?_ | refine kSeq_rt ?_ | refine kSeq_bk ?_ | refine kSeq_ct ?_)
local macro_rules | `(tactic| walk_at "ev2") => `(tactic| first
  | ((with_reducible refine' wM_ixB ?hh ?hi ?_); (case hh => first | assumption | exact get_snoc_eq); (case hi => exact rfl)) | (with_reducible refine wM_lenDL ?_) | (with_reducible refine wM_eqI ?_) | (with_reducible refine wM_neI ?_) | (with_reducible refine wM_slL ?_) | (with_reducible refine wM_mul (by omega) ?_) | (with_reducible refine wM_mod (by first | assumption | decide) ?_) | (with_reducible refine wM_div (by first | assumption | decide) ?_)
  | ((with_reducible refine' wM_of ?hh ?_); (case hh => exact rfl)) | ((with_reducible refine' wB_of ?hh ?_); (case hh => exact rfl))
  | ((with_reducible refine' iteY ?hb ?_); (case hb => exact rfl)) | ((with_reducible refine' iteZ ?hb ?_); (case hb => exact rfl)) | refine ⟨_, rfl, ?_⟩ | refine ⟨rfl, ?_⟩ | refine ⟨_, _, _, _, rfl, rfl, (by first | assumption | exact get_snoc_eq), rfl, ?_⟩ | refine ⟨_, _, _, _, rfl, rfl, rfl, rfl, ?_⟩ | refine ⟨_, _, _, rfl, rfl, rfl, rfl, ?_⟩ | refine ⟨_, _, rfl, rfl, rfl, ?_⟩)
local macro_rules | `(tactic| walk_at "done") => `(tactic| first | exact rfl | exact ⟨rfl, rfl⟩ | exact ⟨_, rfl, rfl⟩ | exact ⟨_, _, rfl, rfl⟩ | exact ⟨rfl, _, rfl, rfl⟩ | exact ⟨rfl, _, _, rfl, rfl⟩)
local macro_rules | `(tactic| walk_at "ev") => `(tactic| repeat (first | walk_at "ev1" | walk_at "ev2"))
/-! ### the sums of a line -/
def s0 : List Int → Int
  | [] => 0
  | x :: xs => x + s0 xs
def s1 : Nat → List Int → Int
  | _, [] => 0
  | i, x :: xs => ((i : Int) + 1) * x + s1 (i + 1) xs
def s2 : Nat → List Int → Int
  | _, [] => 0
  | i, x :: xs => ((i : Int) + 1) * ((i : Int) + 1) * x + s2 (i + 1) xs
theorem emod_add (a b : Int) : (a % 97 + b) % 97 = (a + b) % 97 := by omega
theorem sst_eq : ∀ (xs : List Int) (i : Nat) (a b c : Int), sst i xs (a % 97, b % 97, c % 97) = ((a + s0 xs) % 97, (b + s1 i xs) % 97, (c + s2 i xs) % 97)
  | [], i, a, b, c => by simp [sst, s0, s1, s2]
  | x :: xs, i, a, b, c => by
    rw [sst, s0, s1, s2]
    simp only
    rw [emod_add, emod_add, emod_add, sst_eq xs (i + 1) (a + x) _ _, Int.add_assoc, Int.add_assoc, Int.add_assoc]
theorem sums_eq (ns : List Int) : sums ns = (s0 ns % 97, s1 0 ns % 97, s2 0 ns % 97) := by
  have := sst_eq ns 0 0 0 0
  simp only [Int.zero_add] at this
  exact this
theorem s0_app : ∀ xs ys : List Int, s0 (xs ++ ys) = s0 xs + s0 ys
  | [], ys => by simp [s0]
  | x :: xs, ys => by rw [List.cons_append, s0, s0, s0_app xs ys]; omega
theorem s1_app : ∀ (xs ys : List Int) (i : Nat), s1 i (xs ++ ys) = s1 i xs + s1 (i + xs.length) ys
  | [], ys, i => by simp [s1]
  | x :: xs, ys, i => by rw [List.cons_append, s1, s1, s1_app xs ys, List.length_cons, show i + 1 + xs.length = i + (xs.length + 1) by omega]; omega
theorem s2_app : ∀ (xs ys : List Int) (i : Nat), s2 i (xs ++ ys) = s2 i xs + s2 (i + xs.length) ys
  | [], ys, i => by simp [s2]
  | x :: xs, ys, i => by rw [List.cons_append, s2, s2, s2_app xs ys, List.length_cons, show i + 1 + xs.length = i + (xs.length + 1) by omega]; omega
theorem s0_set : ∀ (ns : List Int) (j : Nat) (x y : Int), ns[j]? = some x → s0 (ns.set j y) = s0 ns + (y - x)
  | [], j, x, y, h => by cases h
  | z :: ns, 0, x, y, h => by
    cases h
    rw [List.set_cons_zero, s0, s0]
    omega
  | z :: ns, j + 1, x, y, h => by
    rw [List.set_cons_succ, s0, s0, s0_set ns j x y (by simpa using h)]
    omega
theorem s1_set : ∀ (ns : List Int) (j i : Nat) (x y : Int), ns[j]? = some x → s1 i (ns.set j y) = s1 i ns + ((i : Int) + j + 1) * (y - x)
  | [], j, i, x, y, h => by cases h
  | z :: ns, 0, i, x, y, h => by
    cases h
    rw [List.set_cons_zero, s1, s1, Int.mul_sub]
    rw [show (i : Int) + ((0 : Nat) : Int) + 1 = (i : Int) + 1 by omega]
    omega
  | z :: ns, j + 1, i, x, y, h => by
    rw [List.set_cons_succ, s1, s1, s1_set ns j (i + 1) x y (by simpa using h), show ((i + 1 : Nat) : Int) + j + 1 = (i : Int) + ((j + 1 : Nat) : Int) + 1 by omega]
    omega
theorem s2_set : ∀ (ns : List Int) (j i : Nat) (x y : Int), ns[j]? = some x → s2 i (ns.set j y) = s2 i ns + ((i : Int) + j + 1) * ((i : Int) + j + 1) * (y - x)
  | [], j, i, x, y, h => by cases h
  | z :: ns, 0, i, x, y, h => by
    cases h
    rw [List.set_cons_zero, s2, s2, Int.mul_sub]
    rw [show (i : Int) + ((0 : Nat) : Int) + 1 = (i : Int) + 1 by omega]
    omega
  | z :: ns, j + 1, i, x, y, h => by
    rw [List.set_cons_succ, s2, s2, s2_set ns j (i + 1) x y (by simpa using h), show ((i + 1 : Nat) : Int) + j + 1 = (i : Int) + ((j + 1 : Nat) : Int) + 1 by omega]
    omega
theorem lineOf_sums {a : Int} {s : List Int} (hs : s.length = 55) : sums (lineOf a s) = (0, 0, 0) := by
  have hl : (a / 97 :: a % 97 :: s).length = 57 := by simp [hs]
  simp only [lineOf]
  rw [sums_eq (a / 97 :: a % 97 :: s)]
  simp only
  generalize (a / 97 :: a % 97 :: s) = t at *
  rw [sums_eq, s0_app, s1_app, s2_app, hl]
  generalize s0 t = Z
  generalize s1 0 t = O
  generalize s2 0 t = W
  simp only [s0, s1, s2]
  refine Prod.ext ?_ (Prod.ext ?_ ?_) <;> simp only <;> omega
theorem righted_zero {ns : List Int} (h : sums ns = (0, 0, 0)) : righted ns = some ns := by
  unfold righted
  rw [h]
  rfl
theorem mulm (a b : Int) : (a % 97 * b) % 97 = (a * b) % 97 := by rw [Int.mul_emod, Int.emod_emod, ← Int.mul_emod]
theorem mulm' (a b : Int) : (a * (b % 97)) % 97 = (a * b) % 97 := by rw [Int.mul_emod, Int.emod_emod, ← Int.mul_emod]
theorem righted_one {ns : List Int} (h : sums ns = (0, 0, 0)) (hl : ns.length = 60) {j : Nat} {x y : Int} (hx : ns[j]? = some x) (bx : 0 ≤ x ∧ x < 97) (by' : 0 ≤ y ∧ y < 97) (hne : y ≠ x) : righted (ns.set j y) = some ns := by
  have hj : j < 60 := by
    have := (List.getElem?_eq_some_iff.mp hx).1
    omega
  have e := sums_eq (ns.set j y)
  rw [s0_set ns j x y hx, s1_set ns j 0 x y hx, s2_set ns j 0 x y hx] at e
  rw [sums_eq] at h
  simp only [Prod.mk.injEq] at h
  obtain ⟨h0, h1, h2⟩ := h
  generalize s0 ns = Z at *
  generalize s1 0 ns = O at *
  generalize s2 0 ns = W at *
  have P1 : ((0 : Nat) : Int) + j + 1 = (j : Int) + 1 := by omega
  rw [P1] at e
  generalize hP : (j : Int) + 1 = P at *
  have ez : (Z + (y - x)) % 97 = (y - x) % 97 := by omega
  have eo : (O + P * (y - x)) % 97 = (P * (y - x)) % 97 := by omega
  have ew : (W + P * P * (y - x)) % 97 = (P * P * (y - x)) % 97 := by omega
  rw [ez, eo, ew] at e
  have hz : 0 < (y - x) % 97 ∧ (y - x) % 97 < 97 := by omega
  obtain ⟨i1, i2, i3⟩ := inv_ok hz
  have hp : (P * (y - x)) % 97 * inv ((y - x) % 97) % 97 = P := by
    rw [mulm, Int.mul_assoc, ← mulm', ← mulm (y - x), i1]
    omega
  unfold righted
  rw [e]
  simp only
  rw [if_neg (fun hh => by have := hh.1; omega), if_neg (by omega), hp, if_pos ⟨by omega, by omega, by rw [mulm', Int.mul_assoc]⟩]
  have ej : (P - 1).toNat = j := by omega
  rw [ej, List.getD_eq_getElem?_getD, List.getElem?_set_self (by omega)]
  show some (((ns.set j y).set j ((y - (y - x) % 97) % 97))) = _
  rw [List.set_set, show (y - (y - x) % 97) % 97 = x by omega]
  congr 1
  obtain ⟨hh, ee⟩ := List.getElem?_eq_some_iff.mp hx
  rw [← ee, List.set_getElem_self]
theorem prime97 {a b : Int} (ha : a % 97 ≠ 0) (hb : b % 97 ≠ 0) : (a * b) % 97 ≠ 0 := by
  intro h
  obtain ⟨i1, i2, i3⟩ := inv_ok (x := a % 97) (by omega)
  have : (inv (a % 97) * (a * b)) % 97 = b % 97 := by
    rw [← Int.mul_assoc, ← mulm, Int.mul_comm (inv _) a, ← mulm a, i1, Int.one_mul]
  rw [← mulm', h] at this
  simp at this
  omega
theorem righted_two {ns : List Int} (h : sums ns = (0, 0, 0)) (hl : ns.length = 60) {i j : Nat} {x1 y1 x2 y2 : Int} (hij : i ≠ j) (hx1 : ns[i]? = some x1) (hx2 : ns[j]? = some x2) (b1 : 0 ≤ x1 ∧ x1 < 97) (c1 : 0 ≤ y1 ∧ y1 < 97) (hne1 : y1 ≠ x1)
    (b2 : 0 ≤ x2 ∧ x2 < 97) (c2 : 0 ≤ y2 ∧ y2 < 97) (hne2 : y2 ≠ x2) : righted ((ns.set i y1).set j y2) = none := by
  have hi60 : i < 60 := by have := (List.getElem?_eq_some_iff.mp hx1).1; omega
  have hj60 : j < 60 := by have := (List.getElem?_eq_some_iff.mp hx2).1; omega
  have hx2' : (ns.set i y1)[j]? = some x2 := by rw [List.getElem?_set_ne hij]; exact hx2
  have e := sums_eq ((ns.set i y1).set j y2)
  rw [s0_set _ j x2 y2 hx2', s1_set _ j 0 x2 y2 hx2', s2_set _ j 0 x2 y2 hx2', s0_set ns i x1 y1 hx1, s1_set ns i 0 x1 y1 hx1, s2_set ns i 0 x1 y1 hx1] at e
  rw [sums_eq] at h
  simp only [Prod.mk.injEq] at h
  obtain ⟨h0, h1, h2⟩ := h
  generalize s0 ns = Z at *
  generalize s1 0 ns = O at *
  generalize s2 0 ns = W at *
  have P1 : ((0 : Nat) : Int) + i + 1 = (i : Int) + 1 := by omega
  have P2 : ((0 : Nat) : Int) + j + 1 = (j : Int) + 1 := by omega
  rw [P1, P2] at e
  have hPQ : ((i : Int) + 1 - ((j : Int) + 1)) % 97 ≠ 0 := by omega
  generalize (i : Int) + 1 = P at *
  generalize (j : Int) + 1 = Q at *
  have n1 : (y1 - x1) % 97 ≠ 0 := by omega
  have n2 : (y2 - x2) % 97 ≠ 0 := by omega
  generalize y1 - x1 = e1 at *
  generalize y2 - x2 = e2 at *
  have hpr := prime97 (prime97 n1 n2) (prime97 hPQ hPQ)
  unfold righted
  rw [e]
  simp only
  have ez : (Z + e1 + e2) % 97 = (e1 + e2) % 97 := by omega
  have eo : (O + P * e1 + Q * e2) % 97 = (P * e1 + Q * e2) % 97 := by omega
  have ew : (W + P * P * e1 + Q * Q * e2) % 97 = (P * P * e1 + Q * Q * e2) % 97 := by omega
  rw [ez, eo, ew]
  have io : P * e1 + Q * e2 = Q * (e1 + e2) + (P - Q) * e1 := by grind
  have key : (P * P * e1 + Q * Q * e2) * (e1 + e2) - (P * e1 + Q * e2) * (P * e1 + Q * e2) = e1 * e2 * ((P - Q) * (P - Q)) := by grind
  generalize hz : (e1 + e2) % 97 = z
  by_cases z0 : z = 0
  · have : (P * e1 + Q * e2) % 97 = ((P - Q) * e1) % 97 := by
      rw [io, Int.add_emod, ← mulm', hz, z0]
      simp
    rw [if_neg (fun hh => prime97 hPQ n1 (this.symm.trans hh.2.1)), if_pos z0]
  · rw [if_neg (fun hh => z0 hh.1), if_neg z0, if_neg]
    rintro ⟨_, _, hw⟩
    obtain ⟨i1, i2, i3⟩ := inv_ok (x := z) (by omega)
    generalize hO : P * e1 + Q * e2 = OO at *
    generalize hW : P * P * e1 + Q * Q * e2 = WW at *
    rw [mulm, mulm', Int.mul_assoc, mulm] at hw
    have h5 : (WW * (e1 + e2)) % 97 = (OO * OO) % 97 := by
      rw [← mulm', hz, ← mulm, hw, mulm]
      rw [show OO * (inv z * OO) * z = (OO * OO) * (z * inv z) by grind, ← mulm', i1, Int.mul_one]
    omega
end K54

namespace K54
open PySem PySem.Spec PyProof.Rows L2 EV
local macro_rules | `(tactic| walk_at "ev1") => `(tactic| with_reducible first
  | (refine' wE_var ?hh ?_; (case hh => with_unfolding_all exact rfl)) | refine wE_int ?_ | refine wE_str ?_ | refine wE_non ?_ | refine wE_bl ?_ | refine wL_nil ?_ | refine wL_cons ?_
  | refine wE_app ?_ | refine wE_bm ?_ | refine wE_sl ?_ | refine wO_no ?_ | refine wO_so ?_ | refine wE_call ?_
  | refine wE_ifx ?_ | refine wE_and ?_ | refine wE_or ?_ | refine wE_chain ?_ | refine wE_frz ?_ | refine wE_lc ?_
  | refine wT_tr ?_ | refine wT_bv ?_ | refine wT_and ?_ | refine wT_or ?_ | refine wT_not ?_ | refine wT_yes ?_
  | refine wS_seq ?_ | refine wS_set ?_ | refine wS_asg ?_ | refine wS_setI ?_ | refine wS_drop ?_ | refine wS_ret ?_ | refine wS_retN ?_ | refine wS_nx ?_ | refine wS_brk ?_ | refine wS_cnt ?_
  | refine kSeq_nx ?_ | refine kSeq_rt ?_ | refine kSeq_bk ?_ | refine kSeq_ct ?_)
local macro_rules | `(tactic| walk_at "ev2") => `(tactic| first
  | ((with_reducible refine' wM_ixB ?hh ?hi ?_); (case hh => first | assumption | exact get_snoc_eq); (case hi => exact rfl)) | (with_reducible refine wM_lenDL ?_) | (with_reducible refine wM_eqI ?_) | (with_reducible refine wM_neI ?_) | (with_reducible refine wM_slL ?_) | (with_reducible refine wM_mul (by omega) ?_) | (with_reducible refine wM_mod (by first | assumption | decide) ?_) | (with_reducible refine wM_div (by first | assumption | decide) ?_)
  | ((with_reducible refine' wM_of ?hh ?_); (case hh => exact rfl)) | ((with_reducible refine' wB_of ?hh ?_); (case hh => exact rfl))
  | ((with_reducible refine' iteY ?hb ?_); (case hb => exact rfl)) | ((with_reducible refine' iteZ ?hb ?_); (case hb => exact rfl)) | refine ⟨_, rfl, ?_⟩ | refine ⟨rfl, ?_⟩ | refine ⟨_, _, _, _, rfl, rfl, (by first | assumption | exact get_snoc_eq), rfl, ?_⟩ | refine ⟨_, _, _, _, rfl, rfl, rfl, rfl, ?_⟩ | refine ⟨_, _, _, rfl, rfl, rfl, rfl, ?_⟩ | refine ⟨_, _, rfl, rfl, rfl, ?_⟩)
local macro_rules | `(tactic| walk_at "done") => `(tactic| first | exact rfl | exact ⟨rfl, rfl⟩ | exact ⟨_, rfl, rfl⟩ | exact ⟨_, _, rfl, rfl⟩ | exact ⟨rfl, _, rfl, rfl⟩ | exact ⟨rfl, _, _, rfl, rfl⟩)
local macro_rules | `(tactic| walk_at "ev") => `(tactic| repeat (first | walk_at "ev1" | walk_at "ev2"))
/-! ### lines and their signs -/
theorem flatD_len (ns : List Int) : (flatD ns).length = 2 * ns.length := by
  induction ns with
  | nil => rfl
  | cons x ns ih =>
    show (dig x ++ flatD ns).length = _
    rw [List.length_append, ih]
    show 2 + _ = _
    rw [List.length_cons]
    omega
theorem flatD_dig {ns : List Int} (h : ∀ x ∈ ns, 0 ≤ x ∧ x < 97) : (flatD ns).all isDig = true := by
  rw [List.all_eq_true]
  intro c hc
  obtain ⟨x, hx, hc⟩ := List.mem_flatMap.mp hc
  have hx := h x hx
  rcases List.mem_cons.mp hc with rfl | hc
  · exact decide_eq_true (by omega)
  · have := List.eq_of_mem_singleton hc
    subst this
    exact decide_eq_true (by omega)
theorem numsIn_flat {ns : List Int} (h : ∀ x ∈ ns, 0 ≤ x ∧ x < 97) (hl : ns.length = 60) : numsIn (flatD ns) = some ns := by
  unfold numsIn
  rw [prs_flat h, if_pos ⟨by rw [flatD_len, hl], flatD_dig h, List.all_eq_true.mpr fun x hx => decide_eq_true (h x hx).2⟩]
theorem signs_right {ns : List Int} {a : Int} {s : List Int} (h : ∀ x ∈ ns, 0 ≤ x ∧ x < 97) (hl : ns.length = 60) (hr : righted ns = some (lineOf a s)) (hs : s.length = 55) : signsIn (flatD ns) a = some s := by
  unfold signsIn
  rw [numsIn_flat h hl]
  simp only
  rw [hr]
  have e : lineOf a s = a / 97 :: a % 97 :: (s ++ ((lineOf a s).drop 57)) := by
    simp only [lineOf]
    rw [List.drop_left' (by simp [hs])]
    rfl
  simp only
  rw [e]
  simp only [List.getD_cons_zero, List.getD_cons_succ, List.drop_succ_cons, List.drop_zero]
  rw [if_pos (by omega), List.take_left' hs]
theorem signs_none {ns : List Int} {a : Int} (h : ∀ x ∈ ns, 0 ≤ x ∧ x < 97) (hl : ns.length = 60) (hr : righted ns = none) : signsIn (flatD ns) a = none := by
  unfold signsIn
  rw [numsIn_flat h hl]
  simp only
  rw [hr]
/-- lines that tell a text -/
def Good (l : List Nat) (ls : List (List Nat)) : Prop := ls.length = nLines l ∧ ∀ (i : Nat) (x : List Nat), ls[i]? = some x → x.length = 120 ∧ signsIn x ((i : Int) + 1) = some (chunk l i)
theorem lineOf_len {a : Int} {s : List Int} (hs : s.length = 55) : (lineOf a s).length = 60 := by simp [lineOf, hs]
theorem line_ok {l : List Nat} (hc : ∀ c ∈ l, c ∈ sgL) (hl : l.length ≤ 40000) {i : Nat} (hi : i < nLines l) : (lineOf ((i : Int) + 1) (chunk l i)).length = 60 ∧ (∀ x ∈ lineOf ((i : Int) + 1) (chunk l i), 0 ≤ x ∧ x < 97) ∧ sums (lineOf ((i : Int) + 1) (chunk l i)) = (0, 0, 0) :=
  ⟨lineOf_len (chunk_len hi), lineOf_bd ⟨by omega, by unfold nLines at hi; omega⟩ (chunk_bd hc i), lineOf_sums (chunk_len hi)⟩
theorem linesOf_get {l : List Nat} {i : Nat} (hi : i < nLines l) : (linesOf l)[i]? = some (lineN l i) := by
  unfold linesOf
  rw [List.getElem?_map, List.getElem?_range hi, Option.map_some]
theorem linesOf_len (l : List Nat) : (linesOf l).length = nLines l := by simp [linesOf]
theorem good_lines {l : List Nat} (hc : ∀ c ∈ l, c ∈ sgL) (hl : l.length ≤ 40000) : Good l (linesOf l) := by
  refine ⟨linesOf_len l, fun i x hx => ?_⟩
  have hi : i < nLines l := by
    have := (List.getElem?_eq_some_iff.mp hx).1
    rwa [linesOf_len] at this
  rw [linesOf_get hi] at hx
  cases hx
  obtain ⟨h1, h2, h3⟩ := line_ok hc hl hi
  exact ⟨lineN_len hi, signs_right h2 h1 (righted_zero h3) (chunk_len hi)⟩
/-! the pieces of a text -/
theorem nLines_pos (l : List Nat) : 0 < nLines l := by unfold nLines; omega
theorem nLines_bd (l : List Nat) : (nLines l - 1) * 55 ≤ l.length ∧ l.length < nLines l * 55 := by unfold nLines; omega
def sgX (l : List Nat) : List Int := l.map idxS
theorem padded_eq (l : List Nat) : padded l = sgX l ++ 74 :: List.replicate (nLines l * 55 - (l.length + 1)) 0 := by simp [padded, told, sgX]
theorem chunk_in {l : List Nat} {i : Nat} (h : i + 1 < nLines l) : chunk l i = ((sgX l).drop (i * 55)).take 55 := by
  unfold chunk
  have hb := nLines_bd l
  have hlen : (sgX l).length = l.length := List.length_map ..
  have h2 : i * 55 + 55 ≤ (nLines l - 1) * 55 := by omega
  rw [padded_eq, List.drop_append_of_le_length (by omega), List.take_append_of_le_length (by rw [List.length_drop]; omega)]
theorem chunk_end {l : List Nat} : chunk l (nLines l - 1) = (sgX l).drop ((nLines l - 1) * 55) ++ 74 :: List.replicate (nLines l * 55 - (l.length + 1)) 0 := by
  unfold chunk
  have hb := nLines_bd l
  have hlen : (sgX l).length = l.length := List.length_map ..
  have hp := padded_len l
  rw [List.take_of_length_le (by rw [List.length_drop, hp]; omega), padded_eq, List.drop_append_of_le_length (by omega)]
theorem sgX_bd {l : List Nat} (hc : ∀ c ∈ l, c ∈ sgL) : ∀ x ∈ sgX l, 0 < x ∧ x ≤ 73 := by
  intro x hx
  obtain ⟨c, h, rfl⟩ := List.mem_map.mp hx
  have := idxS_bd (hc c h)
  omega
theorem no_end {A : List Int} (h : ∀ x ∈ A, 0 < x ∧ x ≤ 73) : ¬ (74 : Int) ∈ A := fun hm => by have := h 74 hm; omega
theorem areOf_in {A : List Int} (h : ∀ x ∈ A, 0 < x ∧ x ≤ 73) : areOf A = true := by
  unfold areOf
  rw [List.idxOf_eq_length (no_end h), List.take_length, List.drop_eq_nil_of_le (by omega)]
  simp only [Bool.and_eq_true]
  exact ⟨List.all_eq_true.mpr fun x hx => decide_eq_true (h x hx), rfl⟩
theorem idx_end {A Z : List Int} (h : ¬ (74 : Int) ∈ A) : (A ++ 74 :: Z).idxOf 74 = A.length := by
  rw [List.idxOf_append, if_neg h, List.idxOf_cons_self, Nat.zero_add]
theorem areOf_end {A : List Int} {m : Nat} (h : ∀ x ∈ A, 0 < x ∧ x ≤ 73) : areOf (A ++ 74 :: List.replicate m 0) = true := by
  unfold areOf
  rw [idx_end (no_end h), List.take_left, show A ++ (74 : Int) :: List.replicate m 0 = (A ++ [74]) ++ List.replicate m 0 by simp, List.drop_left' (by simp)]
  simp only [Bool.and_eq_true]
  refine ⟨List.all_eq_true.mpr fun x hx => decide_eq_true (h x hx), ?_⟩
  simp
theorem mem_drop_bd {A : List Int} (h : ∀ x ∈ A, 0 < x ∧ x ≤ 73) (k : Nat) : ∀ x ∈ A.drop k, 0 < x ∧ x ≤ 73 := fun x hx => h x (List.mem_of_mem_drop hx)
theorem mem_take_bd {A : List Int} (h : ∀ x ∈ A, 0 < x ∧ x ≤ 73) (k : Nat) : ∀ x ∈ A.take k, 0 < x ∧ x ≤ 73 := fun x hx => h x (List.mem_of_mem_take hx)
theorem textGo_good {l : List Nat} {ls : List (List Nat)} (hc : ∀ c ∈ l, c ∈ sgL) (hg : Good l ls) : ∀ (m i : Nat), i + m + 1 = nLines l → textGo (ls.drop i) i ((sgX l).take (i * 55)) = .all (padded l)
  | 0, i, hi => by
    have hlt : i < ls.length := by rw [hg.1]; omega
    rw [List.drop_eq_getElem_cons hlt, textGo, (hg.2 i _ (List.getElem?_eq_getElem hlt)).2]
    have ei : i = nLines l - 1 := by omega
    have hA := sgX_bd hc
    have ec : chunk l i = (sgX l).drop (i * 55) ++ 74 :: List.replicate (nLines l * 55 - (l.length + 1)) 0 := by rw [ei]; exact chunk_end
    simp only
    rw [ec, if_neg (by
      rintro (h | h)
      · exact no_end (mem_take_bd hA _) h
      · rw [areOf_end (mem_drop_bd hA _)] at h; cases h), List.drop_eq_nil_of_le (by rw [hg.1]; omega), textGo, padded_eq, ← List.append_assoc, List.take_append_drop]
  | m + 1, i, hi => by
    have hlt : i < ls.length := by rw [hg.1]; omega
    rw [List.drop_eq_getElem_cons hlt, textGo, (hg.2 i _ (List.getElem?_eq_getElem hlt)).2]
    have hA := sgX_bd hc
    simp only
    rw [chunk_in (by omega), if_neg (by
      rintro (h | h)
      · exact no_end (mem_take_bd hA _) h
      · rw [areOf_in (mem_take_bd (mem_drop_bd hA _) _)] at h; cases h)]
    have := textGo_good hc hg m (i + 1) (by omega)
    rw [show (i + 1) * 55 = i * 55 + 55 by omega, List.take_add] at this
    exact this
theorem sgAt_idx {c : Nat} (h : c ∈ sgL) : sgAt (idxS c) = c := by
  have := (sg_lt c h).2.2
  unfold sgAt idxS
  rw [show ((sgL.idxOf c : Nat) : Int) + 1 - 1 = ((sgL.idxOf c : Nat) : Int) by omega, Int.toNat_natCast]
  exact this
theorem textOf_good {l : List Nat} {ls : List (List Nat)} (hc : ∀ c ∈ l, c ∈ sgL) (hg : Good l ls) : textOf ls = .text l := by
  have hp := nLines_pos l
  have := textGo_good hc hg (nLines l - 1) 0 (by omega)
  rw [List.drop_zero, Nat.zero_mul, List.take_zero] at this
  unfold textOf
  rw [this]
  have hA := sgX_bd hc
  simp only
  rw [padded_eq, if_pos (by simp), idx_end (no_end hA), List.take_left]
  congr 1
  unfold sgX
  rw [List.map_map]
  refine (List.map_congr_left fun c h => sgAt_idx (hc c h)).trans ?_
  simp
/-- lines that are good up to one that tells nothing, or nothing right -/
theorem textGo_bad {l : List Nat} (hc : ∀ c ∈ l, c ∈ sgL) {ls : List (List Nat)} {j : Nat} (hj : j < ls.length) (hjn : j < nLines l) (hg : ∀ i, i < j → signsIn (ls.getD i []) ((i : Int) + 1) = some (chunk l i))
    (hb : signsIn (ls.getD j []) ((j : Int) + 1) = none ∨ ∃ t, signsIn (ls.getD j []) ((j : Int) + 1) = some t ∧ areOf t = false) : ∀ (m i : Nat), i + m = j → textGo (ls.drop i) i ((sgX l).take (i * 55)) = .line (j + 1)
  | 0, i, hi => by
    have ei : i = j := by omega
    subst ei
    have hd : ls.getD i [] = ls[i] := by rw [List.getD_eq_getElem?_getD, List.getElem?_eq_getElem hj]; rfl
    rw [hd] at hb
    rw [List.drop_eq_getElem_cons hj, textGo]
    rcases hb with hb | ⟨t, hb, ha⟩
    · rw [hb]
    · rw [hb]
      simp only
      rw [if_pos (.inr ha)]
  | m + 1, i, hi => by
    have hlt : i < ls.length := by omega
    have hd : ls.getD i [] = ls[i] := by rw [List.getD_eq_getElem?_getD, List.getElem?_eq_getElem hlt]; rfl
    have h1 := hg i (by omega)
    rw [hd] at h1
    rw [List.drop_eq_getElem_cons hlt, textGo, h1]
    have hA := sgX_bd hc
    simp only
    rw [chunk_in (by omega), if_neg (by
      rintro (h | h)
      · exact no_end (mem_take_bd hA _) h
      · rw [areOf_in (mem_take_bd (mem_drop_bd hA _) _)] at h; cases h)]
    have := textGo_bad hc hj hjn hg hb m (i + 1) (by omega)
    rw [show (i + 1) * 55 = i * 55 + 55 by omega, List.take_add] at this
    exact this
theorem textOf_bad {l : List Nat} (hc : ∀ c ∈ l, c ∈ sgL) {ls : List (List Nat)} {j : Nat} (hj : j < ls.length) (hjn : j < nLines l) (hg : ∀ i, i < j → signsIn (ls.getD i []) ((i : Int) + 1) = some (chunk l i))
    (hb : signsIn (ls.getD j []) ((j : Int) + 1) = none ∨ ∃ t, signsIn (ls.getD j []) ((j : Int) + 1) = some t ∧ areOf t = false) : textOf ls = .line (j + 1) := by
  have := textGo_bad hc hj hjn hg hb j 0 (by omega)
  rw [List.drop_zero, Nat.zero_mul, List.take_zero] at this
  unfold textOf
  rw [this]
/-- too few lines -/
theorem textGo_few {l : List Nat} (hc : ∀ c ∈ l, c ∈ sgL) {ls : List (List Nat)} {j : Nat} (hj : ls.length = j) (hjn : j < nLines l) (hg : ∀ i, i < j → signsIn (ls.getD i []) ((i : Int) + 1) = some (chunk l i)) : ∀ (m i : Nat), i + m = j → textGo (ls.drop i) i ((sgX l).take (i * 55)) = .all ((sgX l).take (j * 55))
  | 0, i, hi => by
    have ei : i = j := by omega
    subst ei
    rw [List.drop_eq_nil_of_le (by omega), textGo]
  | m + 1, i, hi => by
    have hlt : i < ls.length := by omega
    have hd : ls.getD i [] = ls[i] := by rw [List.getD_eq_getElem?_getD, List.getElem?_eq_getElem hlt]; rfl
    have h1 := hg i (by omega)
    rw [hd] at h1
    rw [List.drop_eq_getElem_cons hlt, textGo, h1]
    have hA := sgX_bd hc
    simp only
    rw [chunk_in (by omega), if_neg (by
      rintro (h | h)
      · exact no_end (mem_take_bd hA _) h
      · rw [areOf_in (mem_take_bd (mem_drop_bd hA _) _)] at h; cases h)]
    have := textGo_few hc hj hjn hg m (i + 1) (by omega)
    rw [show (i + 1) * 55 = i * 55 + 55 by omega, List.take_add] at this
    exact this
theorem textOf_few {l : List Nat} (hc : ∀ c ∈ l, c ∈ sgL) {ls : List (List Nat)} {j : Nat} (hj : ls.length = j) (hjn : j < nLines l) (hg : ∀ i, i < j → signsIn (ls.getD i []) ((i : Int) + 1) = some (chunk l i)) : textOf ls = .line (j + 1) := by
  have := textGo_few hc hj hjn hg j 0 (by omega)
  rw [List.drop_zero, Nat.zero_mul, List.take_zero] at this
  unfold textOf
  rw [this]
  simp only
  rw [if_neg (no_end (mem_take_bd (sgX_bd hc) _)), hj]
/-! a line with wrong numbers -/
theorem flatD_set : ∀ (ns : List Int) (p : Nat) (y : Int), p < ns.length → flatD (ns.set p y) = (flatD ns).take (2 * p) ++ (dig y ++ (flatD ns).drop (2 * p + 2))
  | [], p, y, h => by simp at h
  | x :: ns, 0, y, h => rfl
  | x :: ns, p + 1, y, h => by
    have ih := flatD_set ns p y (by simpa using h)
    show dig x ++ flatD (ns.set p y) = _
    rw [ih]
    have e : flatD (x :: ns) = (48 + (x / 10).toNat) :: (48 + (x % 10).toNat) :: flatD ns := rfl
    rw [e, show 2 * (p + 1) = 2 * p + 1 + 1 by omega, show 2 * p + 1 + 1 + 2 = (2 * p + 2) + 1 + 1 by omega, List.take_succ_cons, List.take_succ_cons, List.drop_succ_cons, List.drop_succ_cons]
    rfl
theorem good_one {l : List Nat} (hc : ∀ c ∈ l, c ∈ sgL) (hl : l.length ≤ 40000) {i p : Nat} {y x : Int} (hi : i < nLines l) (hp : (lineOf ((i : Int) + 1) (chunk l i))[p]? = some x) (by' : 0 ≤ y ∧ y < 97) (hne : y ≠ x) :
    signsIn (flatD ((lineOf ((i : Int) + 1) (chunk l i)).set p y)) ((i : Int) + 1) = some (chunk l i) := by
  obtain ⟨h1, h2, h3⟩ := line_ok hc hl hi
  refine signs_right (fun z hz => ?_) (by rw [List.length_set]; exact h1) (righted_one h3 h1 hp (h2 x (List.mem_of_getElem? hp)) by' hne) (chunk_len hi)
  rcases List.mem_or_eq_of_mem_set hz with h | rfl
  · exact h2 z h
  · exact by'
theorem bad_two {l : List Nat} (hc : ∀ c ∈ l, c ∈ sgL) (hl : l.length ≤ 40000) {i p q : Nat} {y1 x1 y2 x2 : Int} (hi : i < nLines l) (hpq : p ≠ q) (hp1 : (lineOf ((i : Int) + 1) (chunk l i))[p]? = some x1) (hp2 : (lineOf ((i : Int) + 1) (chunk l i))[q]? = some x2) (c1 : 0 ≤ y1 ∧ y1 < 97) (hne1 : y1 ≠ x1) (c2 : 0 ≤ y2 ∧ y2 < 97) (hne2 : y2 ≠ x2) :
    righted (((lineOf ((i : Int) + 1) (chunk l i)).set p y1).set q y2) = none ∧ signsIn (flatD (((lineOf ((i : Int) + 1) (chunk l i)).set p y1).set q y2)) ((i : Int) + 1) = none := by
  obtain ⟨h1, h2, h3⟩ := line_ok hc hl hi
  have h4 := righted_two h3 h1 hpq hp1 hp2 (h2 x1 (List.mem_of_getElem? hp1)) c1 hne1 (h2 x2 (List.mem_of_getElem? hp2)) c2 hne2
  refine ⟨h4, signs_none (fun z hz => ?_) (by rw [List.length_set, List.length_set]; exact h1) h4⟩
  rcases List.mem_or_eq_of_mem_set hz with h | rfl
  · rcases List.mem_or_eq_of_mem_set h with h | rfl
    · exact h2 z h
    · exact c1
  · exact c2
theorem good_set {l : List Nat} {ls : List (List Nat)} (hg : Good l ls) {i : Nat} {x : List Nat} (hx : x.length = 120) (hs : signsIn x ((i : Int) + 1) = some (chunk l i)) : Good l (ls.set i x) := by
  refine ⟨by rw [List.length_set]; exact hg.1, fun j y hy => ?_⟩
  rw [List.getElem?_set] at hy
  split at hy
  · rename_i e
    subst e
    split at hy
    · cases hy; exact ⟨hx, hs⟩
    · cases hy
  · exact hg.2 j y hy
end K54

namespace K54
open PySem PySem.Spec PyProof.Rows L2 EV
local macro_rules | `(tactic| walk_at "ev1") => `(tactic| with_reducible first
  | (refine' wE_var ?hh ?_; (case hh => with_unfolding_all exact rfl)) | refine wE_int ?_ | refine wE_str ?_ | refine wE_non ?_ | refine wE_bl ?_ | refine wL_nil ?_ | refine wL_cons ?_
  | refine wE_app ?_ | refine wE_bm ?_ | refine wE_sl ?_ | refine wO_no ?_ | refine wO_so ?_ | refine wE_call ?_
  | refine wE_ifx ?_ | refine wE_and ?_ | refine wE_or ?_ | refine wE_chain ?_ | refine wE_frz ?_ | refine wE_lc ?_
  | refine wT_tr ?_ | refine wT_bv ?_ | refine wT_and ?_ | refine wT_or ?_ | refine wT_not ?_ | refine wT_yes ?_
  | refine wS_seq ?_ | refine wS_set ?_ | refine wS_asg ?_ | refine wS_setI ?_ | refine wS_drop ?_ | refine wS_ret ?_ | refine wS_retN ?_ | refine wS_nx ?_ | refine wS_brk ?_ | refine wS_cnt ?_
  | refine kSeq_nx ?_ | refine kSeq_rt ?_ | refine kSeq_bk ?_ | refine kSeq_ct ?_)
local macro_rules | `(tactic| walk_at "ev2") => `(tactic| first
  | ((with_reducible refine' wM_ixB ?hh ?hi ?_); (case hh => first | assumption | exact get_snoc_eq); (case hi => exact rfl)) | (with_reducible refine wM_lenDL ?_) | (with_reducible refine wM_eqI ?_) | (with_reducible refine wM_neI ?_) | (with_reducible refine wM_slL ?_) | (with_reducible refine wM_mul (by omega) ?_) | (with_reducible refine wM_mod (by first | assumption | decide) ?_) | (with_reducible refine wM_div (by first | assumption | decide) ?_)
  | ((with_reducible refine' wM_of ?hh ?_); (case hh => exact rfl)) | ((with_reducible refine' wB_of ?hh ?_); (case hh => exact rfl))
  | ((with_reducible refine' iteY ?hb ?_); (case hb => exact rfl)) | ((with_reducible refine' iteZ ?hb ?_); (case hb => exact rfl)) | refine ⟨_, rfl, ?_⟩ | refine ⟨rfl, ?_⟩ | refine ⟨_, _, _, _, rfl, rfl, (by first | assumption | exact get_snoc_eq), rfl, ?_⟩ | refine ⟨_, _, _, _, rfl, rfl, rfl, rfl, ?_⟩ | refine ⟨_, _, _, rfl, rfl, rfl, rfl, ?_⟩ | refine ⟨_, _, rfl, rfl, rfl, ?_⟩)
local macro_rules | `(tactic| walk_at "done") => `(tactic| first | exact rfl | exact ⟨rfl, rfl⟩ | exact ⟨_, rfl, rfl⟩ | exact ⟨_, _, rfl, rfl⟩ | exact ⟨rfl, _, rfl, rfl⟩ | exact ⟨rfl, _, _, rfl, rfl⟩)
local macro_rules | `(tactic| walk_at "ev") => `(tactic| repeat (first | walk_at "ev1" | walk_at "ev2"))
/-! ### comprehensions whose turns change the store -/
theorem lc_inv {nx : Nxt} {step : Val → Store → Option (Option Val × Store)} {Q : List Val → Store → Prop} (P : Nat → List Val → Store → Prop)
    (hs : ∀ i acc μ, P i acc μ → ∃ x, nx i μ = some x ∧ match x with
      | none => Q acc μ
      | some v => ∃ u μ', step v μ = some (some u, μ') ∧ P (i + 1) (acc ++ [u]) μ')
    (m : Nat) (hm : ∀ i acc μ, P i acc μ → i ≤ m ∧ acc.length < sizeLine) : ∀ (n i : Nat) (acc : List Val) (μ : Store), P i acc μ → m < n + i → ∃ acc' μ', lcLoop nx step n i acc μ = some (acc', μ') ∧ Q acc' μ'
  | 0, i, acc, μ, p, hn => by have := (hm i acc μ p).1; omega
  | n + 1, i, acc, μ, p, hn => by
    obtain ⟨x, e, h⟩ := hs i acc μ p
    unfold lcLoop
    rw [e]
    cases x with
    | none => exact ⟨_, _, rfl, h⟩
    | some v =>
      obtain ⟨u, μ', e2, h⟩ := h
      simp only
      rw [e2]
      simp only
      rw [if_pos (hm i acc μ p).2]
      exact lc_inv P hs m hm n (i + 1) _ μ' h (by omega)
theorem lcStep_ex {c : Ev} {ρ : Rho} {μ : Store} {vs : List Nat} {g : RG} {e : RE} {v : Val} {ρ2 : Rho} {Q : Val → Store → Prop} (h : asgG g v (wipeE ρ vs) μ = some ρ2) (he : wE c e ρ2 μ Q) : ∃ u μ', lcStep c vs g .yes e ρ v μ = some (some u, μ') ∧ Q u μ' := by
  obtain ⟨u, μ1, e1, q⟩ := he
  refine ⟨u, μ1, ?_, q⟩
  unfold lcStep
  simp only [h, evT, e1]
theorem wE_then {c : Ev} {e : RE} {ρ : Rho} {μ : Store} {V : Val} {Q : KE} (h : wE c e ρ μ fun v μ1 => v = V ∧ μ1 = μ) (q : Q V μ) : wE c e ρ μ Q := by
  obtain ⟨v, μ1, e, rfl, rfl⟩ := h
  exact ⟨_, _, e, q⟩
/-! ### the pool -/
def TS (ns : List Int) (μ : Store) : Prop := (∃ a b c, μ[0]? = some (pl ns a b c) ∧ 0 ≤ a) ∧ Shut μ
/-- the pool has moved on, nothing else -/
def Mv (ns : List Int) (μ μ' : Store) : Prop := TS ns μ' ∧ μ'.length = μ.length ∧ ∀ i, i ≠ 0 → μ'[i]? = μ[i]?
theorem Mv.refl {ns : List Int} {μ : Store} (h : TS ns μ) : Mv ns μ μ := ⟨h, rfl, fun _ _ => rfl⟩
theorem Mv.trans {ns : List Int} {a b c : Store} (x : Mv ns a b) (y : Mv ns b c) : Mv ns a c := ⟨y.1, y.2.1.trans x.2.1, fun i hi => (y.2.2 i hi).trans (x.2.2 i hi)⟩
theorem ts_draw {n k : Nat} {ns : List Int} {μ : Store} (l : Int) (hl : 0 < l ∧ l < 2 ^ 64) (h : TS ns μ) : ∃ (v : Nat) (μ' : Store), evCall pr n (k + 3) 25 [.box 0, .dat (.int l)] μ = some (.dat (.int (v : Nat)), μ') ∧ (v : Int) < l ∧ Mv ns μ μ' := by
  obtain ⟨⟨a, b, c, hp, ha⟩, hS⟩ := h
  obtain ⟨r, μ', e, v, i, j, h0, h1, rfl, rfl⟩ := run_draw n k μ 0 ns a b c l hp ha hl hS
  refine ⟨v.toNat, _, ?_, by omega, ⟨⟨a, i, j, set_get hp, ha⟩, shut_set hS rfl⟩, by rw [List.length_set], fun k hk => set_ne (fun e => hk e.symm)⟩
  rw [show ((v.toNat : Nat) : Int) = v by omega]
  exact e
theorem ts_next {n k : Nat} {ns : List Int} {μ : Store} (h : TS ns μ) : ∃ (μ' : Store), evCall pr n (k + 3) 24 [.box 0] μ = some (.dat .non, μ') ∧ Mv ns μ μ' := by
  obtain ⟨⟨a, b, c, hp, ha⟩, hS⟩ := h
  obtain ⟨r, μ', e, i, rfl, rfl⟩ := run_next n k μ 0 ns a b c hp ha hS
  exact ⟨_, e, ⟨⟨a + 1, i, 0, set_get hp, by omega⟩, shut_set hS rfl⟩, by rw [List.length_set], fun k hk => set_ne (fun e => hk e.symm)⟩
theorem ts_pick {n k : Nat} {ns : List Int} {μ : Store} (ds : List D) (hd : 0 < ds.length ∧ ds.length < 1000) (h : TS ns μ) : ∃ (d : D) (μ' : Store), evCall pr n (k + 4) 26 [.box 0, .dat (.lst ds)] μ = some (.dat d, μ') ∧ d ∈ ds ∧ Mv ns μ μ' := by
  obtain ⟨v, μ1, e1, hv, hm⟩ := ts_draw (n := n) (k := k) (ds.length : Int) (by omega) h
  have hlt : v < ds.length := by omega
  refine ⟨ds[v], μ1, ?_, List.getElem_mem _, hm⟩
  refine run_of2 [some (.box 0), some (.dat (.lst ds))] rfl rfl rfl ?_
  unfold R__law_pick
  refine wS_ret (wE_app (wL_cons (wE_var rfl (wL_cons (wE_call (wL_cons (wE_var rfl (wL_cons (wE_app (wL_cons (wE_var rfl (wL_nil ?_)))))))))))) 
  refine wM_lenDL (wL_nil (wM_of e1 (wL_nil ?_)))
  refine wM_ixD (atI_at (j := v) rfl (List.getElem?_eq_getElem hlt)) ?_
  exact fin_len hm.1.2 hm.2.1.symm
/-! ### _law_different -/
def dif : List Int → List Int → List Int
  | acc, [] => acc
  | acc, x :: xs => if x ∈ acc then dif acc xs else dif (acc ++ [x]) xs
theorem run_different (n k : Nat) (μ : Store) (xs : List Int) (hl : xs.length ≤ 1000) (hn : 100000 < n) (hS : Shut μ) :
    evCall pr n (k + 1) 28 [.dat (.lst (dint xs))] μ = some (.dat (.lst (dint (dif [] xs))), μ) := by
  refine run_of2 [some (.dat (.lst (dint xs))), none, none] rfl rfl rfl ?_
  unfold R__law_different
  refine wS_seq (wS_set (wE_app (wL_nil ?_)))
  refine wM_of (v := .box μ.length) (μ' := μ ++ [.lst []]) rfl ?_
  refine kSeq_nx (wS_seq ?_)
  refine wS_mid (fun ρ' μ' => ∃ x2, ρ' = [some (.dat (.lst (dint xs))), some (.box μ.length), x2] ∧ μ' = μ ++ [.lst (vint (dif [] xs))]) (wS_for ?_) ?_
  · refine wL_cons (wE_var rfl (wL_nil ⟨_, l_sem (v := .dat (.lst (dint xs))) (us := vint xs) rfl, ?_⟩))
    refine for_inv (fun i ρ' μ' => ∃ x2 acc, ρ' = [some (.dat (.lst (dint xs))), some (.box μ.length), x2] ∧ μ' = μ ++ [.lst (vint acc)] ∧ i ≤ xs.length ∧ acc.length ≤ i ∧ dif acc (xs.drop i) = dif [] xs) ?_ xs.length (fun i ρ μ' ⟨_, _, _, _, h, _⟩ => h) n 0 _ _ ⟨none, [], rfl, rfl, Nat.zero_le _, Nat.le_refl _, rfl⟩ (by omega)
    rintro i _ _ ⟨x2, acc, rfl, rfl, hi, ha, hd⟩
    refine ⟨_, nxL_at rfl, ?_⟩
    by_cases hlt : i < xs.length
    · have he : xs.drop i = xs[i] :: xs.drop (i + 1) := List.drop_eq_getElem_cons hlt
      have hge : (vint xs)[i]? = some (.dat (.int xs[i])) := by rw [List.getElem?_map, List.getElem?_map, List.getElem?_eq_getElem hlt]; rfl
      rw [hge]
      generalize xs[i] = x at *
      rw [he, dif] at hd
      refine wR_for (ρ2 := [some (.dat (.lst (dint xs))), some (.box μ.length), some (.dat (.int x))]) rfl ?_
      refine wS_ifs (wT_bv (wE_app (wL_cons (wE_var rfl (wL_cons (wE_var rfl (wL_nil ?_)))))))
      refine wM_niI (ns := acc) (seqOf_box get_snoc_eq) ⟨_, rfl, ?_⟩
      by_cases hx : x ∈ acc
      · rw [if_pos hx] at hd
        refine iteZ (by simp [hx]) (wS_nx ⟨_, acc, rfl, rfl, hlt, by omega, hd⟩)
      · rw [if_neg hx] at hd
        refine iteY (by simp [hx]) (wS_drop (wE_bm (wE_var rfl ⟨isLst_box get_snoc_eq, wL_cons (wE_var rfl (wL_nil ?_))⟩)))
        refine wM_appB get_snoc_eq (by rw [List.length_map, List.length_map, szl]; omega) ?_
        refine ⟨_, acc ++ [x], rfl, ?_, hlt, by rw [List.length_append, List.length_singleton]; omega, hd⟩
        rw [set_snoc]
        simp [vint]
    · have hge : (vint xs)[i]? = none := by rw [List.getElem?_eq_none]; simp [vint]; omega
      rw [hge]
      rw [List.drop_eq_nil_of_le (by omega), dif] at hd
      subst hd
      exact ⟨rfl, x2, rfl, rfl⟩
  rintro _ _ ⟨x2, rfl, rfl⟩
  refine wS_ret (wE_frz (wE_var rfl (wM_frzB (dint (dif [] xs)) get_snoc_eq rfl ?_)))
  exact fin_set_junk hS (Nat.le_refl _)
/-! ### _law_numbers -/
theorem run_law_numbers (n k : Nat) (μ : Store) (ns : List Int) (hb : ∀ x ∈ ns, 0 ≤ x ∧ x < 97) (hl : ns.length = 60) (hn : 100000 < n) (hS : Shut μ) :
    evCall pr n (k + 1) 31 [.dat (.str (st (flatD ns)))] μ = some (.box μ.length, μ ++ [.lst (vint ns)]) := by
  refine run_of2 [some (.dat (.str (st (flatD ns)))), none] rfl rfl rfl ?_
  unfold R__law_numbers
  have hfl : (flatD ns).length = 120 := by rw [flatD_len, hl]
  refine wS_ret (wE_lc (wL_cons (wE_int (wL_cons (wE_app (wL_cons (wE_var rfl (wL_nil ?_))))))))
  refine wM_lenT (by rw [hfl, szl]; decide) (wL_cons (wE_int (wL_nil ?_)))
  rw [hfl]
  refine ⟨nxR 0 2 60, ?_, rfl, ?_⟩
  · show (if 0 < (2 : Int) ∧ (2 : Int) < 1073741824 ∧ Builtin.Range.small 0 ((120 : Nat) : Int) 2 = true then some (nxR 0 2 (Builtin.Range.rangeSize 0 ((120 : Nat) : Int) 2).toNat) else none) = _
    rw [if_pos (by decide)]
    rfl
  have hd := flatD_dig hb
  have hd2 : ∀ i, i < 120 → isDig ((flatD ns).getD i 0) = true := fun i hi => by
    rw [List.getD_eq_getElem?_getD, List.getElem?_eq_getElem (by omega)]
    exact List.all_eq_true.mp hd _ (List.getElem_mem _)
  refine lcMR (fun v => match v with | .dat (.int x) => .dat (.int (((((flatD ns).getD x.toNat 0 - 48) * 10 + ((flatD ns).getD (x.toNat + 1) 0 - 48) : Nat)) : Int)) | v => v) (by show 60 < n; omega) (by decide) (fun j hj => ?_) ?_
  · refine lcStep_map (ρ2 := [some (.dat (.str (st (flatD ns)))), some (.dat (.int (0 + (j : Nat) * 2)))]) rfl ?_
    refine wE_app (wL_cons (wE_sl (wE_var rfl (wO_so (wE_var rfl ⟨_, rfl, wO_so (wE_app (wL_cons (wE_var rfl (wL_cons (wE_int (wL_nil ?_))))))⟩)))))
    refine wM_of (v := .dat (.int (0 + (j : Nat) * 2 + 2))) rfl ⟨_, rfl, ?_⟩
    refine wM_slT (i := 2 * j) (j := 2 * j + 2) (by congr 1; omega) (by congr 1; omega) (by rw [hfl, szl]; decide) ?_
    rw [show 2 * j + 2 - 2 * j = 2 by omega, two_of (by omega)]
    refine wL_nil (wM_intT (int_pair (hd2 _ (by omega)) (hd2 _ (by omega))) (by simp) ⟨?_, rfl⟩)
    simp only [show (0 + (j : Int) * 2).toNat = 2 * j by omega]
  · refine ⟨_, _, rfl, ?_⟩
    have e : (rgL 0 2 60).map (fun v => match v with | .dat (.int x) => Val.dat (.int (((((flatD ns).getD x.toNat 0 - 48) * 10 + ((flatD ns).getD (x.toNat + 1) 0 - 48) : Nat)) : Int)) | v => v) = (dint ns).map .dat := by
      refine List.ext_getElem? fun i => ?_
      by_cases hi : i < 60
      · have := prs_get i (flatD ns) (by omega)
        rw [prs_flat hb] at this
        simp only [rgL, dint, List.getElem?_map, List.getElem?_range hi, this, Option.map_some]
        simp only [show (0 + (i : Int) * 2).toNat = 2 * i by omega]
      · rw [List.getElem?_eq_none (by simp [rgL]; omega), List.getElem?_eq_none (by simp [dint]; omega)]
    rw [e]
    exact fin_box hS
/-! ### _law_line -/
theorem run_law_line (n k : Nat) (μ : Store) (v : Val) (ns : List Int) (hv : rdL v μ = some (vint ns)) (hb : ∀ x ∈ ns, 0 ≤ x ∧ x < 97) (hl : ns.length ≤ 900) (hn : 1001 < n) (hS : Shut μ) :
    evCall pr n (k + 1) 33 [v] μ = some (.dat (.str (st (flatD ns))), μ) := by
  refine run_of2 [some v, none] rfl rfl rfl ?_
  unfold R__law_line
  refine wS_ret (wE_bm (wE_str ⟨rfl, wL_cons (wE_lc (wL_cons (wE_var rfl (wL_nil ⟨_, l_sem (v := v) hv, rfl, ?_⟩))))⟩))
  refine lcML (v := v) (us := vint ns) (fun v => match v with | .dat (.int x) => .dat (.str (st (dig x))) | v => v) hv ?_ ?_ (fun u hu => ?_) ?_
  · simp [vint]; omega
  · simp [vint]; exact Nat.le_trans hl (by decide)
  · simp only [vint, List.mem_map] at hu
    obtain ⟨_, ⟨x, hx, rfl⟩, rfl⟩ := hu
    have hx := hb x hx
    refine lcStep_map (ρ2 := [some v, some (.dat (.int x))]) rfl ?_
    walk_at "ev"
    refine wM_strD (by omega) ?_
    walk_at "ev"
    refine wM_strD (by omega) ?_
    walk_at "ev"
    rfl
  · refine mk_dats (ds := ns.map fun x => .str (st (dig x))) (by simp [vint]) (wL_nil ?_)
    rw [lit_e]
    refine wM_joinT (ls := ns.map dig) (by show some _ = _; simp) ?_ ?_
    · rw [List.map_map]
      exact Nat.le_trans (sum_le (c := 2) fun x _ => Nat.le_refl _) (by omega)
    · exact fin_same hS
/-! ### _law_sums -/
def cf (p i : Nat) : Int := if p = 0 then 1 else if p = 1 then (i : Int) + 1 else ((i : Int) + 1) * ((i : Int) + 1)
def sp (p : Nat) : Nat → List Int → Int
  | _, [] => 0
  | i, x :: xs => cf p i * x + sp p (i + 1) xs
theorem sp_0 : ∀ (xs : List Int) (i : Nat), sp 0 i xs = s0 xs
  | [], _ => rfl
  | x :: xs, i => by rw [sp, s0, sp_0 xs]; show 1 * x + _ = _; omega
theorem sp_1 : ∀ (xs : List Int) (i : Nat), sp 1 i xs = s1 i xs
  | [], _ => rfl
  | x :: xs, i => by rw [sp, s1, sp_1 xs]; rfl
theorem sp_2 : ∀ (xs : List Int) (i : Nat), sp 2 i xs = s2 i xs
  | [], _ => rfl
  | x :: xs, i => by rw [sp, s2, sp_2 xs]; rfl
theorem cf_bd {p i : Nat} (h : i < 60) : 0 ≤ cf p i ∧ cf p i ≤ 3600 := by
  unfold cf
  split
  · omega
  · split
    · omega
    · have h1 : (0 : Int) ≤ (i : Int) + 1 := by omega
      have h2 : (i : Int) + 1 ≤ 60 := by omega
      exact ⟨Int.mul_nonneg h1 h1, Int.le_trans (Int.mul_le_mul h2 h2 h1 (by omega)) (by decide)⟩
theorem run_law_sums (n k : Nat) (μ : Store) (ns : List Int) (hl : ns.length = 60) (hn : 100000 < n) (hS : Shut μ) :
    evCall pr n (k + 1) 32 [.dat (.lst (dint ns))] μ = some (.dat (.lst (dint [(sums ns).1, (sums ns).2.1, (sums ns).2.2])), μ) := by
  refine run_of2 [some (.dat (.lst (dint ns))), none, none, none, none] rfl rfl rfl ?_
  unfold R__law_sums
  refine wS_seq (wS_set (wE_app (wL_nil ?_)))
  refine wM_of (v := .box μ.length) (μ' := μ ++ [.lst []]) rfl ?_
  refine kSeq_nx (wS_seq ?_)
  have h3 : [sp 0 0 ns % 97, sp 1 0 ns % 97, sp 2 0 ns % 97] = [(sums ns).1, (sums ns).2.1, (sums ns).2.2] := by rw [sums_eq, sp_0, sp_1, sp_2]
  rw [← h3]
  refine wS_mid (fun ρ' μ' => ∃ x2 x3 x4, ρ' = [some (.dat (.lst (dint ns))), some (.box μ.length), x2, x3, x4] ∧ μ' = μ ++ [.lst (vint [sp 0 0 ns % 97, sp 1 0 ns % 97, sp 2 0 ns % 97])]) (wS_for ?_) ?_
  · refine wL_cons (wE_int (wL_nil ⟨_, r1_sem ⟨by decide, by decide⟩, ?_⟩))
    refine for_inv (fun p ρ' μ' => ∃ x2 x3 x4, ρ' = [some (.dat (.lst (dint ns))), some (.box μ.length), x2, x3, x4] ∧ p ≤ 3 ∧ μ' = μ ++ [.lst (vint ((List.range p).map fun p => sp p 0 ns % 97))]) ?_ 3 (fun i ρ μ' ⟨_, _, _, _, h, _⟩ => h) n 0 _ _ ⟨none, none, none, rfl, by decide, rfl⟩ (by omega)
    rintro p _ _ ⟨x2, x3, x4, rfl, hp, rfl⟩
    refine ⟨_, nxR_at, ?_⟩
    by_cases hlt : p < 3
    · have hge : (rgL 0 1 (3 : Int).toNat)[p]? = some (.dat (.int (0 + (p : Nat) * 1))) := by
        unfold rgL
        rw [List.getElem?_map, List.getElem?_range (show p < (3 : Int).toNat from hlt), Option.map_some]
      rw [hge]
      refine wR_for (ρ2 := [some (.dat (.lst (dint ns))), some (.box μ.length), some (.dat (.int (0 + (p : Nat) * 1))), x3, x4]) rfl ?_
      refine wS_seq (wS_set (wE_int ?_))
      refine kSeq_nx (wS_seq ?_)
      refine wS_mid (fun ρ' μ' => ∃ x4, ρ' = [some (.dat (.lst (dint ns))), some (.box μ.length), some (.dat (.int (0 + (p : Nat) * 1))), some (.dat (.int (sp p 0 ns))), x4] ∧ μ' = μ ++ [.lst (vint ((List.range p).map fun p => sp p 0 ns % 97))]) (wS_for ?_) ?_
      · refine wL_cons (wE_app (wL_cons (wE_var rfl (wL_nil ?_))))
        refine wM_lenDL (wL_nil ?_)
        rw [List.length_map, hl]
        refine ⟨_, r1_sem ⟨by decide, by decide⟩, ?_⟩
        refine for_inv (fun i ρ' μ' => ∃ t x4, ρ' = [some (.dat (.lst (dint ns))), some (.box μ.length), some (.dat (.int (0 + (p : Nat) * 1))), some (.dat (.int t)), x4] ∧ i ≤ 60 ∧ t + sp p i (ns.drop i) = sp p 0 ns ∧ μ' = μ ++ [.lst (vint ((List.range p).map fun p => sp p 0 ns % 97))]) ?_ 60 (fun i ρ μ' ⟨_, _, _, h, _⟩ => h) n 0 _ _ ⟨0, _, rfl, by decide, by rw [List.drop_zero, Int.zero_add], rfl⟩ (by omega)
        rintro i _ _ ⟨t, x4, rfl, hi, ht, rfl⟩
        refine ⟨_, nxR_at, ?_⟩
        by_cases hit : i < 60
        · have hge : (rgL 0 1 ((60 : Nat) : Int).toNat)[i]? = some (.dat (.int (0 + (i : Nat) * 1))) := by
            unfold rgL
            rw [List.getElem?_map, List.getElem?_range (show i < ((60 : Nat) : Int).toNat from hit), Option.map_some]
          rw [hge]
          have hix : ns[i]? = some ns[i] := List.getElem?_eq_getElem (by omega)
          have hdr : ns.drop i = ns[i] :: ns.drop (i + 1) := List.drop_eq_getElem_cons (by omega)
          generalize ns[i] = x at *
          rw [hdr, sp] at ht
          refine wR_for (ρ2 := [some (.dat (.lst (dint ns))), some (.box μ.length), some (.dat (.int (0 + (p : Nat) * 1))), some (.dat (.int t)), some (.dat (.int (0 + (i : Nat) * 1)))]) rfl ?_
          refine wS_set (wE_app (wL_cons (wE_var rfl (wL_cons (wE_app (wL_cons ?_))))))
          have hcf := cf_bd (p := p) hit
          have hsm : ((0 + (i : Int) * 1) + 1) = (i : Int) + 1 := by omega
          refine wE_then (V := .dat (.int (cf p i))) ?_ (wL_cons (wE_app (wL_cons (wE_var rfl (wL_cons (wE_var rfl (wL_nil ?_)))))))
          · refine wE_ifB (p = 0) ?_ (fun h0 => ?_) (fun h0 => ?_)
            · refine wT_bv (wE_app (wL_cons (wE_var rfl (wL_cons (wE_int (wL_nil (wM_eqI ⟨_, rfl, ?_, rfl⟩)))))))
              congr 1
              exact propext ⟨fun h => by omega, fun h => by omega⟩
            · refine wE_int ⟨?_, rfl⟩
              rw [cf, if_pos h0]
            · refine wE_ifB (p = 1) ?_ (fun h1 => ?_) (fun h1 => ?_)
              · refine wT_bv (wE_app (wL_cons (wE_var rfl (wL_cons (wE_int (wL_nil (wM_eqI ⟨_, rfl, ?_, rfl⟩)))))))
                congr 1
                exact propext ⟨fun h => by omega, fun h => by omega⟩
              · refine wE_app (wL_cons (wE_var rfl (wL_cons (wE_int (wL_nil (wM_of rfl ⟨?_, rfl⟩))))))
                rw [cf, if_neg h0, if_pos h1, ← hsm]
              · refine wE_app (wL_cons (wE_app (wL_cons (wE_var rfl (wL_cons (wE_int (wL_nil (wM_of (v := .dat (.int (0 + (i : Int) * 1 + 1))) rfl ?_))))))))
                refine wL_cons (wE_app (wL_cons (wE_var rfl (wL_cons (wE_int (wL_nil (wM_of (v := .dat (.int (0 + (i : Int) * 1 + 1))) rfl ?_)))))))
                refine wL_nil (wM_mul (by omega) ⟨?_, rfl⟩)
                rw [cf, if_neg h0, if_neg h1, hsm]
          · refine wM_ixD (atI_at (j := i) (by omega) (show (dint ns)[i]? = some (.int x) by rw [List.getElem?_map, hix]; rfl)) (wL_nil ?_)
            refine wM_mul (by omega) (wL_nil ?_)
            refine wM_of (v := .dat (.int (t + cf p i * x))) rfl ?_
            exact ⟨_, _, rfl, hit, by rw [← ht]; omega, rfl⟩
        · have hge : (rgL 0 1 ((60 : Nat) : Int).toNat)[i]? = none := by
            unfold rgL
            rw [List.getElem?_eq_none (by simp; omega)]
          rw [hge]
          rw [List.drop_eq_nil_of_le (by omega), sp, Int.add_zero] at ht
          subst ht
          exact ⟨rfl, x4, rfl, rfl⟩
      rintro _ _ ⟨x4, rfl, rfl⟩
      refine wS_drop (wE_bm (wE_var rfl ⟨isLst_box get_snoc_eq, wL_cons (wE_app (wL_cons (wE_app (wL_cons (wE_var rfl (wL_nil ?_)))))) ⟩))
      refine wM_of (v := .dat (.int (sp p 0 ns))) rfl (wL_cons (wE_int (wL_nil ?_)))
      refine wM_mod (by decide) (wL_nil ?_)
      refine wM_appB get_snoc_eq (by simp [szl]; omega) ?_
      refine ⟨_, _, _, rfl, hlt, ?_⟩
      rw [set_snoc, List.range_succ, List.map_append]
      simp [vint]
    · have hge : (rgL 0 1 (3 : Int).toNat)[p]? = none := by
        unfold rgL
        rw [List.getElem?_eq_none (by simp; omega)]
      rw [hge]
      have : p = 3 := by omega
      subst this
      exact ⟨rfl, _, _, _, rfl, rfl⟩
  rintro _ _ ⟨x2, x3, x4, rfl, rfl⟩
  refine wS_ret (wE_frz (wE_var rfl (wM_frzB (dint [sp 0 0 ns % 97, sp 1 0 ns % 97, sp 2 0 ns % 97]) get_snoc_eq rfl ?_)))
  exact fin_set_junk hS (Nat.le_refl _)
end K54

namespace K54
open PySem PySem.Spec PyProof.Rows L2 EV
local macro_rules | `(tactic| walk_at "ev1") => `(tactic| with_reducible first
  | (refine' wE_var ?hh ?_; (case hh => with_unfolding_all exact rfl)) | refine wE_int ?_ | refine wE_str ?_ | refine wE_non ?_ | refine wE_bl ?_ | refine wL_nil ?_ | refine wL_cons ?_
  | refine wE_app ?_ | refine wE_bm ?_ | refine wE_sl ?_ | refine wO_no ?_ | refine wO_so ?_ | refine wE_call ?_
  | refine wE_ifx ?_ | refine wE_and ?_ | refine wE_or ?_ | refine wE_chain ?_ | refine wE_frz ?_ | refine wE_lc ?_
  | refine wT_tr ?_ | refine wT_bv ?_ | refine wT_and ?_ | refine wT_or ?_ | refine wT_not ?_ | refine wT_yes ?_
  | refine wS_seq ?_ | refine wS_set ?_ | refine wS_asg ?_ | refine wS_setI ?_ | refine wS_drop ?_ | refine wS_ret ?_ | refine wS_retN ?_ | refine wS_nx ?_ | refine wS_brk ?_ | refine wS_cnt ?_
  | refine kSeq_nx ?_ | refine kSeq_rt ?_ | refine kSeq_bk ?_ | refine kSeq_ct ?_)
local macro_rules | `(tactic| walk_at "ev2") => `(tactic| first
  | ((with_reducible refine' wM_ixB ?hh ?hi ?_); (case hh => first | assumption | exact get_snoc_eq); (case hi => exact rfl)) | (with_reducible refine wM_lenDL ?_) | (with_reducible refine wM_eqI ?_) | (with_reducible refine wM_neI ?_) | (with_reducible refine wM_slL ?_) | (with_reducible refine wM_mul (by omega) ?_) | (with_reducible refine wM_mod (by first | assumption | decide) ?_) | (with_reducible refine wM_div (by first | assumption | decide) ?_)
  | ((with_reducible refine' wM_of ?hh ?_); (case hh => exact rfl)) | ((with_reducible refine' wB_of ?hh ?_); (case hh => exact rfl))
  | ((with_reducible refine' iteY ?hb ?_); (case hb => exact rfl)) | ((with_reducible refine' iteZ ?hb ?_); (case hb => exact rfl)) | refine ⟨_, rfl, ?_⟩ | refine ⟨rfl, ?_⟩ | refine ⟨_, _, _, _, rfl, rfl, (by first | assumption | exact get_snoc_eq), rfl, ?_⟩ | refine ⟨_, _, _, _, rfl, rfl, rfl, rfl, ?_⟩ | refine ⟨_, _, _, rfl, rfl, rfl, rfl, ?_⟩ | refine ⟨_, _, rfl, rfl, rfl, ?_⟩)
local macro_rules | `(tactic| walk_at "done") => `(tactic| first | exact rfl | exact ⟨rfl, rfl⟩ | exact ⟨_, rfl, rfl⟩ | exact ⟨_, _, rfl, rfl⟩ | exact ⟨rfl, _, rfl, rfl⟩ | exact ⟨rfl, _, _, rfl, rfl⟩)
local macro_rules | `(tactic| walk_at "ev") => `(tactic| repeat (first | walk_at "ev1" | walk_at "ev2"))
/-! ### _law_same -/
mutual
def okD : D → Bool
  | .non => true
  | .str s => s.cps.toList.all (· < 1114112)
  | .int _ => true
  | .tup ds => okDs ds && decide (ds.length ≤ 1000)
  | .lst ds => okDs ds && decide (ds.length ≤ 1000)
  | _ => false
def okDs : List D → Bool
  | [] => true
  | d :: ds => okD d && okDs ds
end
mutual
def dpD : D → Nat
  | .tup ds => dpDs ds + 1
  | .lst ds => dpDs ds + 1
  | _ => 1
def dpDs : List D → Nat
  | [] => 0
  | d :: ds => max (dpD d) (dpDs ds)
end
theorem okDs_all : ∀ {ds : List D}, okDs ds = true → ∀ d ∈ ds, okD d = true
  | [], _, d, h => by cases h
  | e :: ds, h, d, hd => by
    rw [okDs, Bool.and_eq_true] at h
    rcases List.mem_cons.mp hd with rfl | hd
    · exact h.1
    · exact okDs_all h.2 d hd
theorem dpDs_mem : ∀ {ds : List D} {d : D}, d ∈ ds → dpD d ≤ dpDs ds
  | e :: ds, d, h => by
    rw [dpDs]
    rcases List.mem_cons.mp h with rfl | h
    · exact Nat.le_max_left ..
    · exact Nat.le_trans (dpDs_mem h) (Nat.le_max_right ..)
theorem dpD_pos : ∀ d : D, 1 ≤ dpD d := fun d => by cases d <;> simp [dpD]
theorem ix_mem {ds : List D} {j : Nat} (h : j < ds.length) : atI ds (0 + (j : Int) * 1) = some ds[j] := atI_at (j := j) (by omega) (List.getElem?_eq_getElem h)
theorem run_same (n : Nat) (μ : Store) (hn : 100000 < n) (hS : Shut μ) : ∀ (k : Nat) (d : D), okD d = true → dpD d ≤ k → evCall pr n k 27 [.dat d, .dat d] μ = some (.dat (.bl true), μ)
  | 0, d, _, hk => by have := dpD_pos d; omega
  | k + 1, d, ho, hk => by
    refine run_of2 [some (.dat d), some (.dat d), none, none] rfl rfl rfl ?_
    unfold R__law_same
    cases d with
    | str s =>
      have hs : ∀ c ∈ s.cps.toList, c < 1114112 := fun c hc => of_decide_eq_true (List.all_eq_true.mp (show (s.cps.toList.all (· < 1114112)) = true from ho) c hc)
      walk_at "ev"
      refine wS_ifs ?_
      walk_at "ev"
      refine wS_ifs ?_
      walk_at "ev"
      refine wS_ifs ?_
      walk_at "ev"
      rw [← st_cps s]
      refine wM_eqT hs hs ?_
      rw [decide_eq_true rfl]
      exact fin_same hS
    | int i =>
      walk_at "ev"
      refine wS_ifs ?_
      walk_at "ev"
      refine wS_ifs ?_
      walk_at "ev"
      refine wS_ifs ?_
      walk_at "ev"
      refine wS_ifs ?_
      walk_at "ev"
      rw [decide_eq_true rfl]
      exact fin_same hS
    | tup ds =>
      rw [okD, Bool.and_eq_true] at ho
      have hlen := of_decide_eq_true ho.2
      have hk : dpDs ds + 1 ≤ k + 1 := hk
      walk_at "ev"
      refine wS_ifs ?_
      walk_at "ev"
      refine wS_ifs ?_
      walk_at "ev"
      refine wS_ifs ?_
      walk_at "ev"
      refine iteY (decide_eq_true rfl) ?_
      refine wE_app (wL_cons (wE_lc (wL_cons (wE_app (wL_cons (wE_var rfl (wL_nil ?_)))))))
      refine wM_lenL (us := ds.map .dat) (fun z e => by cases e) rfl ?_
      rw [List.length_map]
      refine wL_nil ⟨_, r1_sem ⟨by omega, by omega⟩, rfl, ?_⟩
      rw [Int.toNat_natCast]
      refine lcMR (fun _ => .dat (.bl true)) ?_ ?_ (fun j hj => ?_) ?_
      · show _ < n; omega
      · rw [szl]; omega
      · refine lcStep_map (ρ2 := [some (.dat (.tup ds)), some (.dat (.tup ds)), none, some (.dat (.int (0 + (j : Nat) * 1)))]) rfl ?_
        refine wE_call (wL_cons (wE_app (wL_cons (wE_var rfl (wL_cons (wE_var rfl (wL_nil ?_)))))))
        refine wM_ixT (ix_mem hj) (wL_cons (wE_app (wL_cons (wE_var rfl (wL_cons (wE_var rfl (wL_nil ?_)))))))
        refine wM_ixT (ix_mem hj) (wL_nil ?_)
        have hm : ds[j] ∈ ds := List.getElem_mem hj
        refine wM_of (run_same n μ hn hS k ds[j] (okDs_all ho.1 _ hm) (by have := dpDs_mem hm; omega)) ⟨rfl, rfl⟩
      · refine mk_dats (ds := (List.range ds.length).map fun _ => .bl true) (by simp [rgL]) (wL_nil ?_)
        refine wM_allB (bs := (List.range ds.length).map fun _ => true) (by show some _ = _; simp) ?_
        rw [show ((List.range ds.length).map fun _ => true).all id = true by simp]
        exact fin_same hS
    | lst ds =>
      rw [okD, Bool.and_eq_true] at ho
      have hlen := of_decide_eq_true ho.2
      have hk : dpDs ds + 1 ≤ k + 1 := hk
      walk_at "ev"
      refine wS_ifs ?_
      walk_at "ev"
      refine wS_ifs ?_
      walk_at "ev"
      refine wS_ifs ?_
      walk_at "ev"
      refine iteY (decide_eq_true rfl) ?_
      refine wE_app (wL_cons (wE_lc (wL_cons (wE_app (wL_cons (wE_var rfl (wL_nil ?_)))))))
      refine wM_lenDL ?_
      refine wL_nil ⟨_, r1_sem ⟨by omega, by omega⟩, rfl, ?_⟩
      rw [Int.toNat_natCast]
      refine lcMR (fun _ => .dat (.bl true)) ?_ ?_ (fun j hj => ?_) ?_
      · show _ < n; omega
      · rw [szl]; omega
      · refine lcStep_map (ρ2 := [some (.dat (.lst ds)), some (.dat (.lst ds)), none, some (.dat (.int (0 + (j : Nat) * 1)))]) rfl ?_
        refine wE_call (wL_cons (wE_app (wL_cons (wE_var rfl (wL_cons (wE_var rfl (wL_nil ?_)))))))
        refine wM_ixD (ix_mem hj) (wL_cons (wE_app (wL_cons (wE_var rfl (wL_cons (wE_var rfl (wL_nil ?_)))))))
        refine wM_ixD (ix_mem hj) (wL_nil ?_)
        have hm : ds[j] ∈ ds := List.getElem_mem hj
        refine wM_of (run_same n μ hn hS k ds[j] (okDs_all ho.1 _ hm) (by have := dpDs_mem hm; omega)) ⟨rfl, rfl⟩
      · refine mk_dats (ds := (List.range ds.length).map fun _ => .bl true) (by simp [rgL]) (wL_nil ?_)
        refine wM_allB (bs := (List.range ds.length).map fun _ => true) (by show some _ = _; simp) ?_
        rw [show ((List.range ds.length).map fun _ => true).all id = true by simp]
        exact fin_same hS
    | non =>
      walk_at "ev"
      refine wS_ifs ?_
      walk_at "ev"
      refine wS_ifs ?_
      walk_at "ev"
      refine wS_ifs ?_
      walk_at "ev"
      refine wS_ifs ?_
      walk_at "ev"
      exact fin_same hS
    | bl b => cases ho
    | scr ns => cases ho
end K54

namespace K54
open PySem PySem.Spec PyProof.Rows L2 EV
local macro_rules | `(tactic| walk_at "ev1") => `(tactic| with_reducible first
  | (refine' wE_var ?hh ?_; (case hh => with_unfolding_all exact rfl)) | refine wE_int ?_ | refine wE_str ?_ | refine wE_non ?_ | refine wE_bl ?_ | refine wL_nil ?_ | refine wL_cons ?_
  | refine wE_app ?_ | refine wE_bm ?_ | refine wE_sl ?_ | refine wO_no ?_ | refine wO_so ?_ | refine wE_call ?_
  | refine wE_ifx ?_ | refine wE_and ?_ | refine wE_or ?_ | refine wE_chain ?_ | refine wE_frz ?_ | refine wE_lc ?_
  | refine wT_tr ?_ | refine wT_bv ?_ | refine wT_and ?_ | refine wT_or ?_ | refine wT_not ?_ | refine wT_yes ?_
  | refine wS_seq ?_ | refine wS_set ?_ | refine wS_asg ?_ | refine wS_setI ?_ | refine wS_drop ?_ | refine wS_ret ?_ | refine wS_retN ?_ | refine wS_nx ?_ | refine wS_brk ?_ | refine wS_cnt ?_
  | refine kSeq_nx ?_ | refine kSeq_rt ?_ | refine kSeq_bk ?_ | refine kSeq_ct ?_)
local macro_rules | `(tactic| walk_at "ev2") => `(tactic| first
  | ((with_reducible refine' wM_ixB ?hh ?hi ?_); (case hh => first | assumption | exact get_snoc_eq); (case hi => exact rfl)) | (with_reducible refine wM_lenDL ?_) | (with_reducible refine wM_eqI ?_) | (with_reducible refine wM_neI ?_) | (with_reducible refine wM_slL ?_) | (with_reducible refine wM_mul (by omega) ?_) | (with_reducible refine wM_mod (by first | assumption | decide) ?_) | (with_reducible refine wM_div (by first | assumption | decide) ?_)
  | ((with_reducible refine' wM_of ?hh ?_); (case hh => exact rfl)) | ((with_reducible refine' wB_of ?hh ?_); (case hh => exact rfl))
  | ((with_reducible refine' iteY ?hb ?_); (case hb => exact rfl)) | ((with_reducible refine' iteZ ?hb ?_); (case hb => exact rfl)) | refine ⟨_, rfl, ?_⟩ | refine ⟨rfl, ?_⟩ | refine ⟨_, _, _, _, rfl, rfl, (by first | assumption | exact get_snoc_eq), rfl, ?_⟩ | refine ⟨_, _, _, _, rfl, rfl, rfl, rfl, ?_⟩ | refine ⟨_, _, _, rfl, rfl, rfl, rfl, ?_⟩ | refine ⟨_, _, rfl, rfl, rfl, ?_⟩)
local macro_rules | `(tactic| walk_at "done") => `(tactic| first | exact rfl | exact ⟨rfl, rfl⟩ | exact ⟨_, rfl, rfl⟩ | exact ⟨_, _, rfl, rfl⟩ | exact ⟨rfl, _, rfl, rfl⟩ | exact ⟨rfl, _, _, rfl, rfl⟩)
local macro_rules | `(tactic| walk_at "ev") => `(tactic| repeat (first | walk_at "ev1" | walk_at "ev2"))
/-! ### runs of digits -/
def RunB (m : Nat) (l : List Nat) : Prop := ∀ q, ((l.drop q).takeWhile isDig).length ≤ m
theorem tw_app : ∀ (a b : List Nat), ((a ++ b).takeWhile isDig).length ≤ (a.takeWhile isDig).length + (b.takeWhile isDig).length
  | [], b => by simp
  | x :: a, b => by
    rw [List.cons_append]
    by_cases h : isDig x = true
    · rw [List.takeWhile_cons_of_pos h, List.takeWhile_cons_of_pos h, List.length_cons, List.length_cons]
      have := tw_app a b
      omega
    · rw [List.takeWhile_cons_of_neg h]
      simp
theorem RunB.app {m k : Nat} {a b : List Nat} (x : RunB m a) (y : RunB k b) : RunB (m + k) (a ++ b) := fun q => by
  by_cases h : q ≤ a.length
  · rw [List.drop_append_of_le_length h]
    have h1 := tw_app (a.drop q) b
    have h2 := x q
    have h3 := y 0
    rw [List.drop_zero] at h3
    omega
  · rw [List.drop_append, List.drop_eq_nil_of_le (by omega), List.nil_append]
    have := y (q - a.length)
    omega
theorem RunB.mono {m k : Nat} {a : List Nat} (x : RunB m a) (h : m ≤ k) : RunB k a := fun q => Nat.le_trans (x q) h
theorem tw_le (l : List Nat) : (l.takeWhile isDig).length ≤ l.length := by
  have := congrArg List.length (List.takeWhile_append_dropWhile (p := isDig) (l := l))
  rw [List.length_append] at this
  omega
theorem RunB.len (l : List Nat) : RunB l.length l := fun q => by
  have := tw_le (l.drop q)
  rw [List.length_drop] at this
  omega
theorem RunB.drop {m : Nat} {l : List Nat} (x : RunB m l) (k : Nat) : RunB m (l.drop k) := fun q => by
  rw [List.drop_drop]
  exact x _
theorem tw_take : ∀ (l : List Nat) (k : Nat), ((l.take k).takeWhile isDig).length ≤ (l.takeWhile isDig).length
  | [], k => by simp
  | x :: l, 0 => by simp
  | x :: l, k + 1 => by
    rw [List.take_succ_cons]
    by_cases h : isDig x = true
    · rw [List.takeWhile_cons_of_pos h, List.takeWhile_cons_of_pos h, List.length_cons, List.length_cons]
      have := tw_take l k
      omega
    · rw [List.takeWhile_cons_of_neg h]
      simp
theorem RunB.take {m : Nat} {l : List Nat} (x : RunB m l) (k : Nat) : RunB m (l.take k) := fun q => by
  rw [List.drop_take]
  exact Nat.le_trans (tw_take _ _) (x q)
theorem tw_no {c : Nat} (hc : isDig c = false) (b : List Nat) : ((c :: b).takeWhile isDig).length = 0 := by rw [List.takeWhile_cons_of_neg (by rw [hc]; decide)]; rfl
/-- two runs with a sign between that is no digit -/
theorem RunB.mid {m : Nat} {c : Nat} (hc : isDig c = false) : ∀ {a b : List Nat}, RunB m a → RunB m b → RunB m (a ++ c :: b)
  | [], b, x, y => fun q => by
    cases q with
    | zero =>
      show ((c :: b).takeWhile isDig).length ≤ m
      rw [tw_no hc]
      exact Nat.zero_le _
    | succ q => exact y q
  | d :: a, b, x, y => fun q => by
    have ih := RunB.mid (a := a) (b := b) hc (fun q => x (q + 1)) y
    cases q with
    | zero =>
      have h0 := x 0
      show ((d :: (a ++ c :: b)).takeWhile isDig).length ≤ m
      have h0 : ((d :: a).takeWhile isDig).length ≤ m := h0
      have e : ∀ a : List Nat, ((a ++ c :: b).takeWhile isDig).length ≤ (a.takeWhile isDig).length := fun a => by
        have := tw_app a (c :: b)
        rw [tw_no hc] at this
        omega
      exact Nat.le_trans (e (d :: a)) h0
    | succ q => exact ih q
theorem RunB.nod {l : List Nat} (h : ∀ c ∈ l, isDig c = false) : RunB 0 l := fun q => by
  cases e : l.drop q with
  | nil => simp
  | cons c t =>
    have := h c (List.mem_of_mem_drop (i := q) (by rw [e]; exact List.mem_cons_self ..))
    rw [tw_no this]
    exact Nat.le_refl _
theorem RunB.join {m : Nat} : ∀ {ls : List (List Nat)}, (∀ l ∈ ls, RunB m l) → RunB m (joinC ls)
  | [], _ => fun q => by rw [show joinC [] = [] from rfl]; simp
  | [x], h => h x (List.mem_cons_self ..)
  | x :: y :: r, h => RunB.mid (by decide) (h x (List.mem_cons_self ..)) (RunB.join fun l hl => h l (List.mem_cons_of_mem _ hl))
/-! ### the values of the law -/
structure Bn (L m : Nat) (d : D) : Prop where
  pl : plain d = true
  len : (sgD d).length ≤ L
  dp : dep d ≤ m
  run : RunB 11 (sgD d)
  ok : okD d = true
  dpd : dpD d ≤ m
theorem okDs_of : ∀ {ds : List D}, (∀ d ∈ ds, okD d = true) → okDs ds = true
  | [], _ => rfl
  | d :: ds, h => by
    rw [okDs, h d (List.mem_cons_self ..), okDs_of fun e he => h e (List.mem_cons_of_mem _ he)]
    rfl
theorem dpDs_le {m : Nat} : ∀ {ds : List D}, (∀ d ∈ ds, dpD d ≤ m) → dpDs ds ≤ m
  | [], _ => Nat.zero_le _
  | d :: ds, h => by
    rw [dpDs]
    exact Nat.max_le.mpr ⟨h d (List.mem_cons_self ..), dpDs_le fun e he => h e (List.mem_cons_of_mem _ he)⟩
theorem Bn.tup {L m : Nat} {ds : List D} (h : ∀ d ∈ ds, Bn L m d) (hl : ds.length ≤ 1000) : Bn (ds.length * (L + 1) + 4) (m + 1) (.tup ds) where
  pl := plains_of fun d hd => (h d hd).pl
  len := by
    have e := wl_tup ds
    have : wl ds ≤ ds.length * (L + 1) := sum_le fun d hd => by have := (h d hd).len; omega
    omega
  dp := by
    have := deps_le fun d hd => (h d hd).dp
    show deps ds + 1 ≤ _
    omega
  run := by
    rw [sgD]
    refine RunB.mid (c := 40) (a := []) (by decide) (fun q => by simp) ?_
    have h1 : RunB 11 (joinC (sgs ds)) := RunB.join fun l hl => by
      rw [sgs_map] at hl
      obtain ⟨d, hd, rfl⟩ := List.mem_map.mp hl
      exact (h d hd).run
    have h2 : RunB 0 (endC ds.length) := RunB.nod fun c hc => by
      unfold endC at hc
      split at hc
      · rcases List.mem_cons.mp hc with rfl | hc
        · decide
        · rw [List.eq_of_mem_singleton hc]; decide
      · rw [List.eq_of_mem_singleton hc]; decide
    exact h1.app h2
  ok := by
    show (okDs ds && decide (ds.length ≤ 1000)) = true
    rw [okDs_of fun d hd => (h d hd).ok, decide_eq_true hl]
    rfl
  dpd := by
    have := dpDs_le fun d hd => (h d hd).dpd
    show dpDs ds + 1 ≤ _
    omega
theorem Bn.mono {L m L' m' : Nat} {d : D} (h : Bn L m d) (h1 : L ≤ L') (h2 : m ≤ m') : Bn L' m' d := ⟨h.pl, Nat.le_trans h.len h1, Nat.le_trans h.dp h2, h.run, h.ok, Nat.le_trans h.dpd h2⟩
theorem Bn.int {i : Int} (h : i.natAbs < 10 ^ 10) : Bn 11 1 (.int i) := by
  have hl := sgI_len (k := 10) (by decide) h
  refine ⟨decide_eq_true (Nat.lt_trans h (by decide +kernel)), by rw [sgD]; exact hl, Nat.le_refl _, ?_, rfl, Nat.le_refl _⟩
  rw [sgD]
  exact (RunB.len _).mono hl
def sgA : List Nat := [97, 90, 32, 40, 55, 10, 58, 47, 44]
theorem sgA_ok : ∀ c ∈ sgA, c ∈ sgL ∧ c ≠ 34 ∧ c < 1114112 := by decide
theorem Bn.str {s : List Nat} (h : ∀ c ∈ s, c ∈ sgA) (hl : s.length ≤ 4) : Bn 11 1 (.str (st s)) := by
  refine ⟨?_, ?_, Nat.le_refl _, ?_, ?_, Nat.le_refl _⟩
  · show ((st s).cps.toList.all fun c => decide (c ∈ sgL ∧ c ≠ 34)) = true
    rw [st_toList, List.all_eq_true]
    exact fun c hc => decide_eq_true ⟨(sgA_ok c (h c hc)).1, (sgA_ok c (h c hc)).2.1⟩
  · rw [sgD, st_toList, List.length_cons, List.length_append]
    show _ + (0 + 1) + 1 ≤ _
    omega
  · rw [sgD, st_toList]
    refine (RunB.len _).mono ?_
    rw [List.length_cons, List.length_append]
    show _ + (0 + 1) + 1 ≤ _
    omega
  · show ((st s).cps.toList.all (· < 1114112)) = true
    rw [st_toList, List.all_eq_true]
    exact fun c hc => decide_eq_true (sgA_ok c (h c hc)).2.2
/-- what is drawn, m levels at most below -/
def LL : Nat → Nat
  | 0 => 11
  | m + 1 => 3 * (LL m + 1) + 4
theorem LL_pos : ∀ m, 11 ≤ LL m
  | 0 => Nat.le_refl _
  | m + 1 => by have := LL_pos m; show 11 ≤ 3 * (LL m + 1) + 4; omega
theorem Bn.up {m : Nat} {d : D} (h : Bn 11 1 d) : Bn (LL m) (m + 1) d := h.mono (LL_pos m) (by omega)
/-! ### _law_signs -/
theorem run_law_signs (n : Nat) (μ : Store) (hn : 100000 < n) (hS : Shut μ) : ∀ (k : Nat) (d : D), plain d = true → dep d ≤ k → (sgD d).length ≤ 40000 →
    evCall pr n k 30 [.dat d] μ = some (.dat (.str (st (sgD d))), μ)
  | 0, d, _, hk, _ => by have := dep_pos d; omega
  | k + 1, d, hp, hk, hl => by
    refine run_of2 [some (.dat d), none] rfl rfl rfl ?_
    unfold R__law_signs
    cases d with
    | str s =>
      walk_at "ev"
      refine wS_ifs ?_
      walk_at "ev"
      rw [lit_q, ← st_cps s]
      have hl : (34 :: (s.cps.toList ++ [34])).length ≤ 40000 := hl
      simp at hl
      refine wM_addT (by rw [szl]; simp; omega) ?_
      walk_at "ev"
      refine wM_addT (by rw [szl]; simp; omega) ?_
      walk_at "ev"
      rw [sgD, st_toList]
      exact fin_same hS
    | int i =>
      have hi : i.natAbs < 10 ^ 400 := of_decide_eq_true hp
      walk_at "ev"
      refine wS_ifs ?_
      walk_at "ev"
      refine wS_ifs ?_
      walk_at "ev"
      refine wM_strI hi ?_
      walk_at "ev"
      exact fin_same hS
    | tup ds =>
      have hl : (40 :: (joinC (sgs ds) ++ endC ds.length)).length ≤ 40000 := hl
      rw [List.length_cons, List.length_append, ← joinC_len, sgs_map, List.length_map] at hl
      walk_at "ev"
      refine wS_ifs ?_
      walk_at "ev"
      refine wS_ifs ?_
      walk_at "ev"
      have hsum : ∀ d ∈ ds, (sgD d).length ≤ ((ds.map sgD).map List.length).sum := fun d hd => sum_mem (List.mem_map_of_mem hd)
      refine lcM (ds.map Val.dat) (fun v => match v with | .dat d => .dat (.str (st (sgD d))) | v => v) (fun i => ?_) ?_ ?_ (fun v hv => ?_) ?_
      · rw [List.getElem?_map]
      · rw [List.length_map]; show _ < n; omega
      · rw [List.length_map, szl]; omega
      · obtain ⟨d, hd, rfl⟩ := List.mem_map.mp hv
        refine lcStep_map (ρ2 := [some (.dat (.tup ds)), some (.dat d)]) rfl ?_
        have h2 : dep d ≤ k := by
          have := deps_mem hd
          have hk : deps ds + 1 ≤ k + 1 := hk
          omega
        walk_at "ev"
        refine wM_of (run_law_signs n μ hn hS k d (plains_all hp d hd) h2 (by have := hsum d hd; omega)) ?_
        exact ⟨rfl, rfl⟩
      · refine mk_dats (ds := dstr (ds.map sgD)) (by rw [dstr, List.map_map, List.map_map, List.map_map]; rfl) ?_
        walk_at "ev"
        rw [lit_c]
        refine wM_joinC (ls := ds.map sgD) (by show some _ = _; rw [dstr, List.map_map]; rfl) ?_ ?_
        · rw [List.length_map]; omega
        walk_at "ev"
        rw [lit_o]
        have hj := joinC_len (ds.map sgD)
        rw [List.length_map] at hj
        refine wM_addT (by rw [szl, ← hj]; show 1 + _ ≤ _; omega) ?_
        walk_at "ev"
        refine iteB (fun hB => ?_) (fun hB => ?_)
        · have hB : ds.length = 1 := by
            have := of_decide_eq_true hB
            rw [List.length_map] at this
            omega
          walk_at "ev"
          rw [lit_cs]
          refine wM_addT (by rw [szl, List.length_append, ← hj]; show 1 + _ + 2 ≤ _; omega) ?_
          rw [show [40] ++ joinC (ds.map sgD) ++ [44, 41] = sgD (.tup ds) by
            rw [sgD, sgs_map, endC, if_pos hB]
            simp]
          walk_at "ev"
          exact fin_same hS
        · have hB : ¬ ds.length = 1 := by
            have := of_decide_eq_false hB
            rw [List.length_map] at this
            omega
          walk_at "ev"
          rw [lit_s]
          refine wM_addT (by rw [szl, List.length_append, ← hj]; show 1 + _ + 1 ≤ _; omega) ?_
          rw [show [40] ++ joinC (ds.map sgD) ++ [41] = sgD (.tup ds) by
            rw [sgD, sgs_map, endC, if_neg hB]
            simp]
          walk_at "ev"
          exact fin_same hS
    | non => cases hp
    | bl b => cases hp
    | lst xs => cases hp
    | scr ns => cases hp
/-! ### is_plain -/
theorem run_is_plain (n : Nat) (μ : Store) (hn : 100000 < n) (hS : Shut μ) : ∀ (k : Nat) (d : D), plain d = true → dep d ≤ k → (sgD d).length ≤ 40000 →
    evCall pr n k 1 [.dat d] μ = some (.dat (.bl true), μ)
  | 0, d, _, hk, _ => by have := dep_pos d; omega
  | k + 1, d, hp, hk, hl => by
    refine run_of2 [some (.dat d), none, none] rfl rfl rfl ?_
    unfold R_is_plain
    cases d with
    | str s =>
      have hl : (34 :: (s.cps.toList ++ [34])).length ≤ 40000 := hl
      simp at hl
      have hp : (s.cps.toList.all fun c => decide (c ∈ sgL ∧ c ≠ 34)) = true := hp
      walk_at "ev"
      refine wS_ifs ?_
      walk_at "ev"
      refine wS_ifs ?_
      walk_at "ev"
      refine lcMS (s := s) (fun c => .dat (.bl true)) ?_ ?_ (fun c hc => ?_) ?_
      · show _ < n; simp; omega
      · rw [szl]; simp; omega
      · have h2 := of_decide_eq_true (List.all_eq_true.mp hp c hc)
        refine lcStep_map (ρ2 := [some (.dat (.str s)), none, some (sgn c)]) rfl ?_
        rw [lit_signs]
        refine wE_and (wE_app (wL_cons (wE_var rfl (wL_cons (wE_str (wL_nil ?_))))))
        refine wM_inC (c := c) ⟨_, rfl, iteY (decide_eq_true h2.1) ?_⟩
        refine wE_app (wL_cons (wE_var rfl (wL_cons (wE_str (wL_nil ?_)))))
        rw [lit_q]
        refine wM_neT (a := [c]) (fun x hx => by rw [List.eq_of_mem_singleton hx]; have := (sg_lt c h2.1).1; omega) (by decide) ⟨?_, rfl⟩
        have : ¬ [c] = [34] := fun e => h2.2 (List.cons.inj e).1
        rw [decide_eq_false this]
        rfl
      · refine mk_dats (ds := s.cps.toList.map fun _ => .bl true) (by simp) (wL_nil ?_)
        refine wM_allB (bs := s.cps.toList.map fun _ => true) (by show some _ = _; simp) ?_
        rw [show (s.cps.toList.map fun _ => true).all id = true by simp]
        exact fin_same hS
    | int i =>
      walk_at "ev"
      refine wS_ifs ?_
      walk_at "ev"
      refine wS_ifs ?_
      walk_at "ev"
      exact fin_same hS
    | tup ds =>
      have hl : (40 :: (joinC (sgs ds) ++ endC ds.length)).length ≤ 40000 := hl
      rw [List.length_cons, List.length_append, ← joinC_len, sgs_map, List.length_map] at hl
      walk_at "ev"
      refine wS_ifs ?_
      walk_at "ev"
      have hsum : ∀ d ∈ ds, (sgD d).length ≤ ((ds.map sgD).map List.length).sum := fun d hd => sum_mem (List.mem_map_of_mem hd)
      refine lcM (ds.map Val.dat) (fun v => .dat (.bl true)) (fun i => ?_) ?_ ?_ (fun v hv => ?_) ?_
      · rw [List.getElem?_map]
      · rw [List.length_map]; show _ < n; omega
      · rw [List.length_map, szl]; omega
      · obtain ⟨d, hd, rfl⟩ := List.mem_map.mp hv
        refine lcStep_map (ρ2 := [some (.dat (.tup ds)), some (.dat d), none]) rfl ?_
        have h2 : dep d ≤ k := by
          have := deps_mem hd
          have hk : deps ds + 1 ≤ k + 1 := hk
          omega
        walk_at "ev"
        refine wM_of (run_is_plain n μ hn hS k d (plains_all hp d hd) h2 (by have := hsum d hd; omega)) ?_
        exact ⟨rfl, rfl⟩
      · refine mk_dats (ds := ds.map fun _ => .bl true) (by rw [List.map_map, List.map_map]; rfl) (wL_nil ?_)
        refine wM_allB (bs := ds.map fun _ => true) (by show some _ = _; rw [List.map_map, List.map_map]; rfl) ?_
        rw [show (ds.map fun _ => true).all id = true by simp]
        exact fin_same hS
    | non => cases hp
    | bl b => cases hp
    | lst xs => cases hp
    | scr ns => cases hp
end K54

namespace K54
open PySem PySem.Spec PyProof.Rows L2 EV
local macro_rules | `(tactic| walk_at "ev1") => `(tactic| with_reducible first
  | (refine' wE_var ?hh ?_; (case hh => with_unfolding_all exact rfl)) | refine wE_int ?_ | refine wE_str ?_ | refine wE_non ?_ | refine wE_bl ?_ | refine wL_nil ?_ | refine wL_cons ?_
  | refine wE_app ?_ | refine wE_bm ?_ | refine wE_sl ?_ | refine wO_no ?_ | refine wO_so ?_ | refine wE_call ?_
  | refine wE_ifx ?_ | refine wE_and ?_ | refine wE_or ?_ | refine wE_chain ?_ | refine wE_frz ?_ | refine wE_lc ?_
  | refine wT_tr ?_ | refine wT_bv ?_ | refine wT_and ?_ | refine wT_or ?_ | refine wT_not ?_ | refine wT_yes ?_
  | refine wS_seq ?_ | refine wS_set ?_ | refine wS_asg ?_ | refine wS_setI ?_ | refine wS_drop ?_ | refine wS_ret ?_ | refine wS_retN ?_ | refine wS_nx ?_ | refine wS_brk ?_ | refine wS_cnt ?_
  | refine kSeq_nx ?_ | refine kSeq_rt ?_ | refine kSeq_bk ?_ | refine kSeq_ct ?_)
local macro_rules | `(tactic| walk_at "ev2") => `(tactic| first
  | ((with_reducible refine' wM_ixB ?hh ?hi ?_); (case hh => first | assumption | exact get_snoc_eq); (case hi => exact rfl)) | (with_reducible refine wM_lenDL ?_) | (with_reducible refine wM_eqI ?_) | (with_reducible refine wM_neI ?_) | (with_reducible refine wM_slL ?_) | (with_reducible refine wM_mul (by omega) ?_) | (with_reducible refine wM_mod (by first | assumption | decide) ?_) | (with_reducible refine wM_div (by first | assumption | decide) ?_)
  | ((with_reducible refine' wM_of ?hh ?_); (case hh => exact rfl)) | ((with_reducible refine' wB_of ?hh ?_); (case hh => exact rfl))
  | ((with_reducible refine' iteY ?hb ?_); (case hb => exact rfl)) | ((with_reducible refine' iteZ ?hb ?_); (case hb => exact rfl)) | refine ⟨_, rfl, ?_⟩ | refine ⟨rfl, ?_⟩ | refine ⟨_, _, _, _, rfl, rfl, (by first | assumption | exact get_snoc_eq), rfl, ?_⟩ | refine ⟨_, _, _, _, rfl, rfl, rfl, rfl, ?_⟩ | refine ⟨_, _, _, rfl, rfl, rfl, rfl, ?_⟩ | refine ⟨_, _, rfl, rfl, rfl, ?_⟩)
local macro_rules | `(tactic| walk_at "done") => `(tactic| first | exact rfl | exact ⟨rfl, rfl⟩ | exact ⟨_, rfl, rfl⟩ | exact ⟨_, _, rfl, rfl⟩ | exact ⟨rfl, _, rfl, rfl⟩ | exact ⟨rfl, _, _, rfl, rfl⟩)
local macro_rules | `(tactic| walk_at "ev") => `(tactic| repeat (first | walk_at "ev1" | walk_at "ev2"))
theorem lc_pool {n : Nat} {ns : List Int} {step : Val → Store → Option (Option Val × Store)} {μ1 : Store} {v : Nat} (hv : v ≤ 1000) (G : D → Prop)
    (hstep : ∀ (i : Nat) (μ : Store), i < v → Mv ns μ1 μ → ∃ d μ', step (.dat (.int (0 + (i : Nat) * 1))) μ = some (some (.dat d), μ') ∧ G d ∧ Mv ns μ μ') (hT : TS ns μ1) (hn : 100000 < n) :
    ∃ acc μ2, lcLoop (nxR 0 1 v) step n 0 [] μ1 = some (acc, μ2) ∧ ∃ ds : List D, acc = ds.map .dat ∧ ds.length = v ∧ (∀ d ∈ ds, G d) ∧ Mv ns μ1 μ2 := by
  refine lc_inv (fun i acc μ => i ≤ v ∧ ∃ ds : List D, acc = ds.map .dat ∧ ds.length = i ∧ (∀ d ∈ ds, G d) ∧ Mv ns μ1 μ) ?_ v (fun i acc μ h => ?_) n 0 _ _ ⟨Nat.zero_le _, [], rfl, rfl, fun d h => (by cases h), Mv.refl hT⟩ (by omega)
  · rintro i _ μ ⟨hi, ds, rfl, hl, hG, hm⟩
    refine ⟨_, nxR_at, ?_⟩
    by_cases hlt : i < v
    · have hge : (rgL 0 1 v)[i]? = some (.dat (.int (0 + (i : Nat) * 1))) := by
        unfold rgL
        rw [List.getElem?_map, List.getElem?_range hlt, Option.map_some]
      rw [hge]
      obtain ⟨d, μ', e, hd, hm2⟩ := hstep i μ hlt hm
      refine ⟨_, _, e, hlt, ds ++ [d], by rw [List.map_append]; rfl, by rw [List.length_append, hl]; rfl, fun x hx => ?_, hm.trans hm2⟩
      rcases List.mem_append.mp hx with hx | hx
      · exact hG x hx
      · rw [List.eq_of_mem_singleton hx]; exact hd
    · have hge : (rgL 0 1 v)[i]? = none := by
        unfold rgL
        rw [List.getElem?_eq_none (by simp; omega)]
      rw [hge]
      exact ⟨ds, rfl, by omega, hG, hm⟩
  · obtain ⟨hi, ds, rfl, hl, _⟩ := h
    exact ⟨hi, by rw [List.length_map, szl]; omega⟩
theorem lc_poolQ {n : Nat} {ns : List Int} {step : Val → Store → Option (Option Val × Store)} {μ1 : Store} {v : Nat} {Q : List Val → Store → Prop} (hv : v ≤ 1000) (G : D → Prop)
    (hstep : ∀ (i : Nat) (μ : Store), i < v → Mv ns μ1 μ → ∃ u μ', step (.dat (.int (0 + (i : Nat) * 1))) μ = some (some u, μ') ∧ ∃ d, u = .dat d ∧ G d ∧ Mv ns μ μ') (hT : TS ns μ1) (hn : 100000 < n)
    (hq : ∀ (ds : List D) (μ2 : Store), ds.length = v → (∀ d ∈ ds, G d) → Mv ns μ1 μ2 → Q (ds.map .dat) μ2) :
    ∃ acc μ2, lcLoop (nxR 0 1 v) step n 0 [] μ1 = some (acc, μ2) ∧ Q acc μ2 := by
  obtain ⟨acc, μ2, e, ds, rfl, h1, h2, h3⟩ := lc_pool hv G (fun i μ hi hm => by
    obtain ⟨u, μ', e, d, rfl, h⟩ := hstep i μ hi hm
    exact ⟨d, μ', e, h⟩) hT hn
  exact ⟨_, _, e, hq ds μ2 h1 h2 h3⟩
theorem wM_tupL {ds : List D} {μ : Store} {Q : KE} (q : Q (.dat (.tup ds)) μ) : wM (oTup.sem [.dat (.lst ds)] μ) Q := by
  refine ⟨_, _, ?_, q⟩
  show mkT (ds.map .dat) μ = _
  unfold mkT
  rw [datsOf_map]
  rfl
theorem evd_int : ∀ d ∈ [D.int 0, .int 1, .int (-1), .int 10, .int (-12), .int 300, .int (10 ^ 9)], ∃ i, d = .int i ∧ i.natAbs < 10 ^ 10 := by
  intro d hd
  simp only [List.mem_cons, List.not_mem_nil, or_false] at hd
  rcases hd with rfl | rfl | rfl | rfl | rfl | rfl | rfl <;> exact ⟨_, rfl, by decide +kernel⟩
def sgO : List D := sgA.map fun c => D.str (st [c])
theorem lits : [D.str "a", .str "Z", .str " ", .str "(", .str "7", .str "\n", .str ":", .str "/", .str ","] = sgO := by
  have h : (["a", "Z", " ", "(", "7", "\n", ":", "/", ","] : List String).map Str.ofString = sgA.map fun c => st [c] := by decide +kernel
  have := congrArg (List.map D.str) h
  simpa [sgO, Function.comp_def] using this
theorem flat_one' : ∀ cs : List Nat, (cs.map fun c => [c]).flatten = cs
  | [] => rfl
  | c :: cs => by rw [List.map_cons, List.flatten_cons, flat_one' cs]; rfl
theorem wE_ints {c : Ev} {ρ : Rho} {μ : Store} {Q : KE} (q : Q (.dat (.lst [D.int 0, .int 1, .int (-1), .int 10, .int (-12), .int 300, .int (10 ^ 9)])) μ) : wE c (.app (oDisp false) (.cons (.cst (.int 0)) (.cons (.cst (.int 1)) (.cons (.app oNeg (.cons (.cst (.int 1)) .nil)) (.cons (.cst (.int 10)) (.cons (.app oNeg (.cons (.cst (.int 12)) .nil)) (.cons (.cst (.int 300)) (.cons (.app oPow (.cons (.cst (.int 10)) (.cons (.cst (.int 9)) .nil))) .nil)))))))) ρ μ Q := by
  refine wE_app (wL_cons (wE_int (wL_cons (wE_int (wL_cons (wE_app (wL_cons (wE_int (wL_nil (wM_of (v := .dat (.int (-1))) (μ' := μ) rfl ?_)))))))))) 
  refine wL_cons (wE_int (wL_cons (wE_app (wL_cons (wE_int (wL_nil (wM_of (v := .dat (.int (-12))) (μ' := μ) rfl ?_)))))))
  refine wL_cons (wE_int (wL_cons (wE_app (wL_cons (wE_int (wL_cons (wE_int (wL_nil (wM_of (v := .dat (.int (10 ^ 9))) (μ' := μ) rfl ?_)))))))))
  exact wL_nil (wM_of rfl q)
theorem wE_sgs {c : Ev} {ρ : Rho} {μ : Store} {Q : KE} (q : Q (.dat (.lst sgO)) μ) : wE c (.app (oDisp false) (.cons (.cst (.str "a")) (.cons (.cst (.str "Z")) (.cons (.cst (.str " ")) (.cons (.cst (.str "(")) (.cons (.cst (.str "7")) (.cons (.cst (.str "\n")) (.cons (.cst (.str ":")) (.cons (.cst (.str "/")) (.cons (.cst (.str ",")) .nil)))))))))) ρ μ Q := by
  refine wE_app (wL_cons (wE_str (wL_cons (wE_str (wL_cons (wE_str (wL_cons (wE_str (wL_cons (wE_str (wL_cons (wE_str (wL_cons (wE_str (wL_cons (wE_str (wL_cons (wE_str (wL_nil ?_)))))))))))))))))))
  rw [← lits] at q
  exact wM_of rfl q
theorem drawn_step (n : Nat) (ns : List Int) (hn : 100000 < n) (m k deep : Nat) (μ : Store) (hd : deep + m = 3) (hT : TS ns μ)
    (ih : ∀ μ, 0 < m → TS ns μ → ∃ d μ', evCall pr n (k + m + 4) 29 [.box 0, .dat (.int ((deep + 1 : Nat) : Int))] μ = some (.dat d, μ') ∧ Bn (LL (m - 1)) m d ∧ Mv ns μ μ') :
    ∃ r μ', evCall pr n (k + m + 5) 29 [.box 0, .dat (.int (deep : Nat))] μ = some (r, μ') ∧ ∃ d, r = .dat d ∧ Bn (LL m) (m + 1) d ∧ Mv ns μ μ' := by
  refine run_ex [some (.box 0), some (.dat (.int (deep : Nat))), none, none] rfl rfl rfl ?_
  unfold R__law_value_drawn
  obtain ⟨v, μ1, e1, hv, hm1⟩ : ∃ (v : Nat) (μ1 : Store), evCall pr n (k + m + 4) 25 [.box 0, .dat (.int (if deep < 3 then 6 else 4))] μ = some (.dat (.int (v : Nat)), μ1) ∧ (v < 6 ∧ (m = 0 → v < 4)) ∧ Mv ns μ μ1 := by
    by_cases h3 : deep < 3
    · obtain ⟨v, μ1, e1, hv, hm⟩ := ts_draw (n := n) (k := k + m + 1) 6 (by decide) hT
      exact ⟨v, μ1, by rw [if_pos h3]; exact e1, ⟨by omega, fun h => by omega⟩, hm⟩
    · obtain ⟨v, μ1, e1, hv, hm⟩ := ts_draw (n := n) (k := k + m + 1) 4 (by decide) hT
      exact ⟨v, μ1, by rw [if_neg h3]; exact e1, ⟨by omega, fun h => by omega⟩, hm⟩
  refine wS_seq (wS_set (wE_call (wL_cons (wE_var rfl (wL_cons ?_)))))
  refine wE_then (V := .dat (.int (if deep < 3 then 6 else 4))) ?_ (wL_nil (wM_of e1 ?_))
  · refine wE_ifB (deep < 3) ?_ (fun h => ?_) (fun h => ?_)
    · refine wT_bv (wE_app (wL_cons (wE_var rfl (wL_cons (wE_int (wL_nil (wM_of (v := .dat (.bl (decide ((deep : Int) < 3)))) (μ' := μ) rfl ⟨_, rfl, ?_, rfl⟩)))))))
      congr 1
      exact propext ⟨fun h => by omega, fun h => by omega⟩
    · exact wE_int ⟨by rw [if_pos h], rfl⟩
    · exact wE_int ⟨by rw [if_neg h], rfl⟩
  have hT1 := hm1.1
  have done : ∀ {μ2 : Store} {d : D}, Mv ns μ1 μ2 → Bn (LL m) (m + 1) d → ∃ r μ', fin μ.length (.dat d) μ2 = some (r, μ') ∧ ∃ d, r = .dat d ∧ Bn (LL m) (m + 1) d ∧ Mv ns μ μ' := fun {μ2 d} h1 h2 =>
    ⟨_, _, fin_len h1.1.2 (by rw [h1.2.1, hm1.2.1]), d, rfl, h2, hm1.trans h1⟩
  -- one of a few ints
  refine kSeq_nx (wS_seq (wS_ifB (v = 0) ?_ (fun h0 => ?_) (fun h0 => ?_)))
  · refine wT_bv (wE_app (wL_cons (wE_var rfl (wL_cons (wE_int (wL_nil (wM_eqI ⟨_, rfl, ?_, rfl⟩)))))))
    congr 1
    exact propext ⟨fun h => by omega, fun h => by omega⟩
  · obtain ⟨d, μ2, e2, hd2, hm2⟩ := ts_pick (n := n) (k := k + m) [D.int 0, .int 1, .int (-1), .int 10, .int (-12), .int 300, .int (10 ^ 9)] (by decide) hT1
    obtain ⟨i, rfl, hi⟩ := evd_int d hd2
    exact wS_ret (wE_call (wL_cons (wE_var rfl (wL_cons (wE_ints (wL_nil (wM_of e2 (done hm2 (Bn.int hi).up))))))))
  refine wS_nx (kSeq_nx (wS_seq (wS_ifB (v = 1) ?_ (fun h1 => ?_) (fun h1 => ?_))))
  · refine wT_bv (wE_app (wL_cons (wE_var rfl (wL_cons (wE_int (wL_nil (wM_eqI ⟨_, rfl, ?_, rfl⟩)))))))
    congr 1
    exact propext ⟨fun h => by omega, fun h => by omega⟩
  · obtain ⟨x, μ2, e2, hx, hm2⟩ := ts_draw (n := n) (k := k + m + 1) 1000 (by decide) hT1
    refine wS_ret (wE_app (wL_cons (wE_call (wL_cons (wE_var rfl (wL_cons (wE_int (wL_nil (wM_of e2 ?_)))))))))
    refine wL_cons (wE_int (wL_nil ?_))
    refine wM_of (v := .dat (.int ((x : Nat) - 500))) (μ' := μ2) rfl ?_
    exact done hm2 (Bn.int (by have : ((x : Int) - 500).natAbs < 1000 := by omega
                               exact Nat.lt_trans this (by decide))).up
  refine wS_nx (kSeq_nx (wS_seq (wS_ifB (v < 4) ?_ (fun h2 => ?_) (fun h2 => ?_))))
  · refine wT_bv (wE_app (wL_cons (wE_var rfl (wL_cons (wE_int (wL_nil (wM_of (v := .dat (.bl (decide ((v : Int) < 4)))) (μ' := μ1) rfl ⟨_, rfl, ?_, rfl⟩)))))))
    congr 1
    exact propext ⟨fun h => by omega, fun h => by omega⟩
  · obtain ⟨x, μ2, e2, hx, hm2⟩ := ts_draw (n := n) (k := k + m + 1) 5 (by decide) hT1
    refine wS_ret <| wE_bm <| wE_str ⟨rfl, wL_cons <| wE_lc <| wL_cons <| wE_call <| wL_cons <| wE_var rfl <| wL_cons <| wE_int <| wL_nil <| wM_of e2 <| wL_nil ⟨_, r1_sem ⟨by omega, by omega⟩, rfl, ?_⟩⟩
    rw [Int.toNat_natCast]
    refine lc_poolQ (v := x) (by omega) (fun d => d ∈ sgO) (fun i μ' hi hmm => ?_) hm2.1 hn (fun ds μ3 hl hG hm3 => ?_)
    rotate_left
    · obtain ⟨cs, rfl, hcs⟩ : ∃ cs : List Nat, ds = cs.map (fun c => D.str (st [c])) ∧ ∀ c ∈ cs, c ∈ sgA := by
        clear hl
        induction ds with
        | nil => exact ⟨[], rfl, fun c h => by cases h⟩
        | cons d ds ih =>
          obtain ⟨cs, rfl, h1⟩ := ih fun e he => hG e (List.mem_cons_of_mem _ he)
          obtain ⟨c, hc, rfl⟩ := List.mem_map.mp (hG d (List.mem_cons_self ..))
          exact ⟨c :: cs, rfl, fun x hx => by
            rcases List.mem_cons.mp hx with rfl | hx
            · exact hc
            · exact h1 x hx⟩
      rw [List.length_map] at hl
      refine mk_dats rfl (wL_nil ?_)
      rw [lit_e]
      refine wM_joinT (ls := cs.map fun c => [c]) (by show some _ = _; rw [List.map_map, List.map_map]; rfl) ?_ ?_
      · rw [List.map_map]
        exact Nat.le_trans (sum_le (c := 1) fun x _ => Nat.le_refl _) (by omega)
      · rw [flat_one']
        exact done (hm2.trans hm3) (Bn.str hcs (by omega)).up
    · obtain ⟨d, μ'', e4, hd4, hm4⟩ := ts_pick (n := n) (k := k + m) sgO (by decide) hmm.1
      exact lcStep_ex (ρ2 := [some (.box 0), some (.dat (.int (deep : Nat))), some (.dat (.int (v : Nat))), some (.dat (.int (0 + (i : Nat) * 1)))]) rfl (wE_call <| wL_cons <| wE_var rfl <| wL_cons <| wE_sgs <| wL_nil <| wM_of e4 ⟨d, rfl, hd4, hm4⟩)
  -- a tuple
  have hmp : 0 < m := by
    rcases Nat.eq_zero_or_pos m with h | h
    · exact absurd (hv.2 h) h2
    · exact h
  obtain ⟨μ2, e2, hm2⟩ := ts_next (n := n) (k := k + m + 1) hT1
  obtain ⟨x, μ3, e3, hx, hm3⟩ := ts_draw (n := n) (k := k + m + 1) 4 (by decide) hm2.1
  refine wS_nx <| kSeq_nx <| wS_seq <| wS_drop <| wE_call <| wL_cons <| wE_var rfl <| wL_nil <| wM_of e2 ?_
  refine kSeq_nx <| wS_ret <| wE_app <| wL_cons <| wE_lc <| wL_cons <| wE_call <| wL_cons <| wE_var rfl <| wL_cons <| wE_int <| wL_nil <| wM_of e3 <| wL_nil ⟨_, r1_sem ⟨by omega, by omega⟩, rfl, ?_⟩
  rw [Int.toNat_natCast]
  refine lc_poolQ (v := x) (by omega) (fun d => Bn (LL (m - 1)) m d) (fun i μ' hi hmm => ?_) hm3.1 hn (fun ds μ4 hl hG hm4 => ?_)
  rotate_left
  · refine mk_dats rfl (wL_nil (wM_tupL ?_))
    have hb := Bn.tup hG (by omega)
    refine done ((hm2.trans hm3).trans hm4) (hb.mono ?_ (Nat.le_refl _))
    obtain ⟨j, rfl⟩ : ∃ j, m = j + 1 := ⟨m - 1, by omega⟩
    show ds.length * (LL j + 1) + 4 ≤ 3 * (LL j + 1) + 4
    exact Nat.add_le_add_right (Nat.mul_le_mul_right _ (by omega)) 4
  · obtain ⟨d, μ'', e5, hd5, hm5⟩ := ih μ' hmp hmm.1
    exact lcStep_ex (ρ2 := [some (.box 0), some (.dat (.int (deep : Nat))), some (.dat (.int (v : Nat))), some (.dat (.int (0 + (i : Nat) * 1)))]) rfl (wE_call <| wL_cons <| wE_var rfl <| wL_cons <| wE_app <| wL_cons <| wE_var rfl <| wL_cons <| wE_int <| wL_nil <| wM_of (v := .dat (.int ((deep + 1 : Nat) : Int))) (μ' := μ') rfl <| wL_nil <| wM_of e5 ⟨d, rfl, hd5, hm5⟩)
theorem run_value_drawn (n : Nat) (ns : List Int) (hn : 100000 < n) : ∀ (m k : Nat) (deep : Nat) (μ : Store), deep + m = 3 → TS ns μ →
    ∃ r μ', evCall pr n (k + m + 5) 29 [.box 0, .dat (.int (deep : Nat))] μ = some (r, μ') ∧ ∃ d, r = .dat d ∧ Bn (LL m) (m + 1) d ∧ Mv ns μ μ' := by
  intro m
  induction m with
  | zero =>
    intro k deep μ hd hT
    refine drawn_step n ns hn 0 k deep μ hd hT (fun μ h => by omega)
  | succ m ih =>
    intro k deep μ hd hT
    refine drawn_step n ns hn (m + 1) k deep μ hd hT (fun μ _ hT => ?_)
    obtain ⟨r, μ', e, d, rfl, h1, h2⟩ := ih k (deep + 1) μ (by omega) hT
    exact ⟨d, μ', e, h1, h2⟩
end K54

namespace K54
open PySem PySem.Spec PyProof.Rows L2 EV
local macro_rules | `(tactic| walk_at "ev1") => `(tactic| with_reducible first
  | (refine' wE_var ?hh ?_; (case hh => with_unfolding_all exact rfl)) | refine wE_int ?_ | refine wE_str ?_ | refine wE_non ?_ | refine wE_bl ?_ | refine wL_nil ?_ | refine wL_cons ?_
  | refine wE_app ?_ | refine wE_bm ?_ | refine wE_sl ?_ | refine wO_no ?_ | refine wO_so ?_ | refine wE_call ?_
  | refine wE_ifx ?_ | refine wE_and ?_ | refine wE_or ?_ | refine wE_chain ?_ | refine wE_frz ?_ | refine wE_lc ?_
  | refine wT_tr ?_ | refine wT_bv ?_ | refine wT_and ?_ | refine wT_or ?_ | refine wT_not ?_ | refine wT_yes ?_
  | refine wS_seq ?_ | refine wS_set ?_ | refine wS_asg ?_ | refine wS_setI ?_ | refine wS_drop ?_ | refine wS_ret ?_ | refine wS_retN ?_ | refine wS_nx ?_ | refine wS_brk ?_ | refine wS_cnt ?_
  | refine kSeq_nx ?_ | refine kSeq_rt ?_ | refine kSeq_bk ?_ | refine kSeq_ct ?_)
local macro_rules | `(tactic| walk_at "ev2") => `(tactic| first
  | ((with_reducible refine' wM_ixB ?hh ?hi ?_); (case hh => first | assumption | exact get_snoc_eq); (case hi => exact rfl)) | (with_reducible refine wM_lenDL ?_) | (with_reducible refine wM_eqI ?_) | (with_reducible refine wM_neI ?_) | (with_reducible refine wM_slL ?_) | (with_reducible refine wM_mul (by omega) ?_) | (with_reducible refine wM_mod (by first | assumption | decide) ?_) | (with_reducible refine wM_div (by first | assumption | decide) ?_)
  | ((with_reducible refine' wM_of ?hh ?_); (case hh => exact rfl)) | ((with_reducible refine' wB_of ?hh ?_); (case hh => exact rfl))
  | ((with_reducible refine' iteY ?hb ?_); (case hb => exact rfl)) | ((with_reducible refine' iteZ ?hb ?_); (case hb => exact rfl)) | refine ⟨_, rfl, ?_⟩ | refine ⟨rfl, ?_⟩ | refine ⟨_, _, _, _, rfl, rfl, (by first | assumption | exact get_snoc_eq), rfl, ?_⟩ | refine ⟨_, _, _, _, rfl, rfl, rfl, rfl, ?_⟩ | refine ⟨_, _, _, rfl, rfl, rfl, rfl, ?_⟩ | refine ⟨_, _, rfl, rfl, rfl, ?_⟩)
local macro_rules | `(tactic| walk_at "done") => `(tactic| first | exact rfl | exact ⟨rfl, rfl⟩ | exact ⟨_, rfl, rfl⟩ | exact ⟨_, _, rfl, rfl⟩ | exact ⟨rfl, _, rfl, rfl⟩ | exact ⟨rfl, _, _, rfl, rfl⟩)
local macro_rules | `(tactic| walk_at "ev") => `(tactic| repeat (first | walk_at "ev1" | walk_at "ev2"))
/-! ### bent texts -/
theorem scan_join {hh : Nat} : ∀ (ls : List D), (∀ d ∈ ls, ∀ h M, ∃ M', scan (sgD d) (false, h, M) = (false, h, M') ∧ M' ≤ max M (h + hh)) → ∀ h M, ∃ M', scan (joinC (sgs ls)) (false, h, M) = (false, h, M') ∧ M' ≤ max M (h + hh)
  | [], _, h, M => ⟨M, rfl, by omega⟩
  | [d], H, h, M => H d (List.mem_cons_self ..) h M
  | d :: e :: r, H, h, M => by
    obtain ⟨M1, e1, b1⟩ := H d (List.mem_cons_self ..) h M
    obtain ⟨M2, e2, b2⟩ := scan_join (e :: r) (fun x hx => H x (List.mem_cons_of_mem _ hx)) h M1
    refine ⟨M2, ?_, by omega⟩
    have ej : joinC (sgs (d :: e :: r)) = sgD d ++ ([44] ++ joinC (sgs (e :: r))) := rfl
    rw [ej, scan_app, e1, scan_app, show scan [44] (false, h, M1) = (false, h, M1) from rfl, e2]
mutual
theorem scan_sg : ∀ (d : D), plain d = true → ∀ h M, ∃ M', scan (sgD d) (false, h, M) = (false, h, M') ∧ M' ≤ max M (h + dep d)
  | .str s, hp, h, M => by
    have hp : (s.cps.toList.all fun c => decide (c ∈ sgL ∧ c ≠ 34)) = true := hp
    refine ⟨M, ?_, by omega⟩
    rw [sgD]
    exact scan_str fun hm => (of_decide_eq_true (List.all_eq_true.mp hp 34 hm)).2 rfl
  | .int i, hp, h, M => by
    refine ⟨M, ?_, by omega⟩
    rw [sgD]
    refine scan_no fun c hc => ?_
    unfold sgI at hc
    have hd : ∀ n, ∀ c ∈ TL.numL n, c ≠ 34 ∧ c ≠ 40 ∧ c ≠ 41 := fun n c hc => by
      have := of_decide_eq_true (numL_dig c hc)
      omega
    split at hc
    · rcases List.mem_cons.mp hc with rfl | hc
      · decide
      · exact hd _ c hc
    · exact hd _ c hc
  | .tup ds, hp, h, M => by
    obtain ⟨M1, e1, b1⟩ := scan_join (hh := deps ds) ds (scan_sgs ds hp) (h + 1) (max M (h + 1))
    refine ⟨M1, ?_, by show M1 ≤ max M (h + (deps ds + 1)); omega⟩
    rw [sgD]
    show scan (joinC (sgs ds) ++ endC ds.length) (sc1 (false, h, M) 40) = _
    rw [sc1_op, scan_app, e1]
    unfold endC
    split
    · rfl
    · rfl
  | .non, hp, _, _ => by cases hp
  | .bl b, hp, _, _ => by cases hp
  | .lst xs, hp, _, _ => by cases hp
  | .scr ns, hp, _, _ => by cases hp
theorem scan_sgs : ∀ (ds : List D), plains ds = true → ∀ d ∈ ds, ∀ h M, ∃ M', scan (sgD d) (false, h, M) = (false, h, M') ∧ M' ≤ max M (h + deps ds)
  | [], _, d, hd, _, _ => by cases hd
  | e :: ds, hp, d, hd, h, M => by
    rw [plains, Bool.and_eq_true] at hp
    rw [deps]
    rcases List.mem_cons.mp hd with he | hd
    · obtain ⟨M1, e1, b1⟩ := scan_sg e hp.1 h M
      rw [he]
      exact ⟨M1, e1, by omega⟩
    · obtain ⟨M1, e1, b1⟩ := scan_sgs ds hp.2 d hd h M
      exact ⟨M1, e1, by omega⟩
end
theorem sc1_fst (s : Bool × Nat × Nat) (c : Nat) : (sc1 s c).1 = if c = 34 then !s.1 else s.1 := by
  obtain ⟨q, h, M⟩ := s
  unfold sc1
  cases q with
  | true =>
    rw [if_pos rfl]
    by_cases hc : c = 34 <;> simp [hc]
  | false =>
    rw [if_neg (by simp)]
    by_cases hc : c = 34
    · simp [hc]
    · rw [if_neg hc, if_neg hc]
      split
      · rfl
      · split <;> rfl
theorem scan_flip : ∀ (l : List Nat) (s t : Bool × Nat × Nat), t.1 = !s.1 → (scan l t).1 = !(scan l s).1
  | [], s, t, h => h
  | c :: l, s, t, h => by
    refine scan_flip l (sc1 s c) (sc1 t c) ?_
    rw [sc1_fst, sc1_fst, h]
    split <;> rfl
def near (s t : Bool × Nat × Nat) : Prop := t.1 = s.1 ∧ t.2.1 ≤ s.2.1 + 1 ∧ t.2.2 ≤ s.2.2 + 1
theorem sc1_near {s t : Bool × Nat × Nat} (c : Nat) (h : near s t) : near (sc1 s c) (sc1 t c) := by
  obtain ⟨q, h1, M1⟩ := s
  obtain ⟨q2, h2, M2⟩ := t
  obtain ⟨e, b1, b2⟩ := h
  simp only at e b1 b2
  subst e
  unfold sc1
  cases q2 with
  | true => exact ⟨rfl, b1, b2⟩
  | false =>
    by_cases c1 : c = 34
    · subst c1; exact ⟨rfl, b1, b2⟩
    · by_cases c2 : c = 40
      · subst c2
        exact ⟨rfl, by show h2 + 1 ≤ h1 + 1 + 1; omega, by show max M2 (h2 + 1) ≤ max M1 (h1 + 1) + 1; omega⟩
      · by_cases c3 : c = 41
        · subst c3
          exact ⟨rfl, by show h2 - 1 ≤ h1 - 1 + 1; omega, b2⟩
        · rw [if_neg (by simp), if_neg c1, if_neg c2, if_neg c3, if_neg (by simp), if_neg c1, if_neg c2, if_neg c3]
          exact ⟨rfl, b1, b2⟩
theorem scan_near : ∀ (l : List Nat) (s t : Bool × Nat × Nat), near s t → near (scan l s) (scan l t)
  | [], s, t, h => h
  | c :: l, s, t, h => scan_near l _ _ (sc1_near c h)
theorem sc1_up (s : Bool × Nat × Nat) (c : Nat) : s.2.2 ≤ (sc1 s c).2.2 ∧ (s.2.1 ≤ s.2.2 → (sc1 s c).2.1 ≤ (sc1 s c).2.2) ∧ (s.2.1 ≤ s.2.2 → c ≠ 34 → near s (sc1 s c) ∧ near (sc1 s c) s) := by
  obtain ⟨q, h1, M1⟩ := s
  unfold sc1 near
  cases q with
  | true =>
    rw [if_pos rfl]
    refine ⟨Nat.le_refl _, fun h => h, fun h hc => ⟨⟨by simp [hc], by simp, by simp⟩, by simp [hc], by simp, by simp⟩⟩
  | false =>
    rw [if_neg (by simp)]
    by_cases c1 : c = 34
    · rw [if_pos c1]; exact ⟨Nat.le_refl _, fun h => h, fun h hc => absurd c1 hc⟩
    · rw [if_neg c1]
      by_cases c2 : c = 40
      · rw [if_pos c2]
        simp only
        exact ⟨by omega, fun h => by omega, fun h _ => ⟨⟨by simp, by omega, by omega⟩, by simp, by omega, by omega⟩⟩
      · rw [if_neg c2]
        by_cases c3 : c = 41
        · rw [if_pos c3]
          simp only
          exact ⟨by omega, fun h => by omega, fun h _ => ⟨⟨by simp, by omega, by omega⟩, by simp, by omega, by omega⟩⟩
        · rw [if_neg c3]
          exact ⟨Nat.le_refl _, fun h => h, fun h _ => ⟨⟨rfl, by omega, by omega⟩, rfl, by omega, by omega⟩⟩
theorem scan_up : ∀ (l : List Nat) (s : Bool × Nat × Nat), s.2.2 ≤ (scan l s).2.2 ∧ (s.2.1 ≤ s.2.2 → (scan l s).2.1 ≤ (scan l s).2.2)
  | [], s => ⟨Nat.le_refl _, fun h => h⟩
  | c :: l, s => by
    obtain ⟨a, b⟩ := scan_up l (sc1 s c)
    obtain ⟨x, y, _⟩ := sc1_up s c
    exact ⟨Nat.le_trans x a, fun h => b (y h)⟩
/-- a text that value_of can be asked about -/
structure Bent (l : List Nat) : Prop where
  sg : ∀ c ∈ l, c ∈ sgL
  len : l.length ≤ 4000
  run : RunOk l
  sc : ∀ M, scan l (false, 0, 0) = (false, 0, M) → M + 1 ≤ 9
/-- a told text -/
structure Told (t : List Nat) : Prop where
  sg : ∀ c ∈ t, c ∈ sgL
  len : t.length ≤ 3900
  run : RunB 11 t
  sc : ∃ M, scan t (false, 0, 0) = (false, 0, M) ∧ M ≤ 7
theorem RunB.ok {m : Nat} {l : List Nat} (h : RunB m l) (hm : m ≤ 400) : RunOk l := fun q => Nat.le_trans (h q) hm
section
variable {t : List Nat} (T : Told t)
include T
theorem Told.take (a : Nat) : Bent (t.take a) := by
  refine ⟨fun c hc => T.sg c (List.mem_of_mem_take hc), by rw [List.length_take]; have := T.len; omega, (T.run.take a).ok (by decide), fun M hM => ?_⟩
  obtain ⟨M0, e0, b0⟩ := T.sc
  have h1 := (scan_up (t.drop a) (scan (t.take a) (false, 0, 0))).1
  rw [← scan_app, List.take_append_drop, e0, hM] at h1
  simp only at h1
  omega
theorem Told.ins (a : Nat) {x : Nat} (hx : x ∈ sgL) : Bent (t.take a ++ [x] ++ t.drop a) := by
  refine ⟨fun c hc => ?_, ?_, ?_, fun M hM => ?_⟩
  · rcases List.mem_append.mp hc with hc | hc
    · rcases List.mem_append.mp hc with hc | hc
      · exact T.sg c (List.mem_of_mem_take hc)
      · rw [List.eq_of_mem_singleton hc]; exact hx
    · exact T.sg c (List.mem_of_mem_drop hc)
  · rw [List.length_append, List.length_append, List.length_take, List.length_drop, List.length_singleton]
    have := T.len
    omega
  · exact (((T.run.take a).app (RunB.len [x])).app (T.run.drop a)).ok (by show 11 + 1 + 11 ≤ 400; decide)
  · obtain ⟨M0, e0, b0⟩ := T.sc
    have e1 : scan (t.drop a) (scan (t.take a) (false, 0, 0)) = (false, 0, M0) := by rw [← scan_app, List.take_append_drop, e0]
    have hP := (scan_up (t.take a) (false, 0, 0)).2 (Nat.le_refl _)
    rw [scan_app, scan_app] at hM
    generalize scan (t.take a) (false, 0, 0) = P at *
    have hM : scan (t.drop a) (sc1 P x) = (false, 0, M) := hM
    by_cases h34 : x = 34
    · have := scan_flip (t.drop a) P (sc1 P x) (by rw [sc1_fst, if_pos h34])
      rw [e1, hM] at this
      cases this
    · have := scan_near (t.drop a) _ _ ((sc1_up P x).2.2 hP h34).1
      rw [e1, hM] at this
      have := this.2.2
      simp only at this
      omega
theorem Told.del {a : Nat} (ha : a < t.length) : Bent (t.take a ++ t.drop (a + 1)) := by
  refine ⟨fun c hc => ?_, ?_, ?_, fun M hM => ?_⟩
  · rcases List.mem_append.mp hc with hc | hc
    · exact T.sg c (List.mem_of_mem_take hc)
    · exact T.sg c (List.mem_of_mem_drop hc)
  · rw [List.length_append, List.length_take, List.length_drop]
    have := T.len
    omega
  · exact ((T.run.take a).app (T.run.drop (a + 1))).ok (by decide)
  · obtain ⟨M0, e0, b0⟩ := T.sc
    have e1 : scan (t.drop a) (scan (t.take a) (false, 0, 0)) = (false, 0, M0) := by rw [← scan_app, List.take_append_drop, e0]
    have hP := (scan_up (t.take a) (false, 0, 0)).2 (Nat.le_refl _)
    rw [scan_app] at hM
    rw [List.drop_eq_getElem_cons ha] at e1
    generalize scan (t.take a) (false, 0, 0) = P at *
    generalize t[a] = x at *
    have e1 : scan (t.drop (a + 1)) (sc1 P x) = (false, 0, M0) := e1
    by_cases h34 : x = 34
    · have := scan_flip (t.drop (a + 1)) P (sc1 P x) (by rw [sc1_fst, if_pos h34])
      rw [e1, hM] at this
      cases this
    · have := scan_near (t.drop (a + 1)) _ _ ((sc1_up P x).2.2 hP h34).2
      rw [e1, hM] at this
      have := this.2.2
      simp only at this
      omega
theorem Told.more : Bent (t ++ [41]) := by
  refine ⟨fun c hc => ?_, ?_, ?_, fun M hM => ?_⟩
  · rcases List.mem_append.mp hc with hc | hc
    · exact T.sg c hc
    · rw [List.eq_of_mem_singleton hc]; decide
  · rw [List.length_append, List.length_singleton]
    have := T.len
    omega
  · exact (T.run.app (RunB.len [41])).ok (by decide)
  · obtain ⟨M0, e0, b0⟩ := T.sc
    rw [scan_app, e0] at hM
    have : M0 = M := congrArg (fun s => s.2.2) hM
    omega
end
theorem told_of {d : D} {L m : Nat} (h : Bn L m d) (hL : L ≤ 3900) (hm : m ≤ 7) : Told (sgD d) := by
  refine ⟨sgD_sg h.pl, Nat.le_trans h.len hL, h.run, ?_⟩
  obtain ⟨M, e, b⟩ := scan_sg d h.pl 0 0
  exact ⟨M, e, by have := h.dp; omega⟩
end K54

namespace K54
open PySem PySem.Spec PyProof.Rows L2 EV
local macro_rules | `(tactic| walk_at "ev1") => `(tactic| with_reducible first
  | (refine' wE_var ?hh ?_; (case hh => with_unfolding_all exact rfl)) | refine wE_int ?_ | refine wE_str ?_ | refine wE_non ?_ | refine wE_bl ?_ | refine wL_nil ?_ | refine wL_cons ?_
  | refine wE_app ?_ | refine wE_bm ?_ | refine wE_sl ?_ | refine wO_no ?_ | refine wO_so ?_ | refine wE_call ?_
  | refine wE_ifx ?_ | refine wE_and ?_ | refine wE_or ?_ | refine wE_chain ?_ | refine wE_frz ?_ | refine wE_lc ?_
  | refine wT_tr ?_ | refine wT_bv ?_ | refine wT_and ?_ | refine wT_or ?_ | refine wT_not ?_ | refine wT_yes ?_
  | refine wS_seq ?_ | refine wS_set ?_ | refine wS_asg ?_ | refine wS_setI ?_ | refine wS_drop ?_ | refine wS_ret ?_ | refine wS_retN ?_ | refine wS_nx ?_ | refine wS_brk ?_ | refine wS_cnt ?_
  | refine kSeq_nx ?_ | refine kSeq_rt ?_ | refine kSeq_bk ?_ | refine kSeq_ct ?_)
local macro_rules | `(tactic| walk_at "ev2") => `(tactic| first
  | ((with_reducible refine' wM_ixB ?hh ?hi ?_); (case hh => first | assumption | exact get_snoc_eq); (case hi => exact rfl)) | (with_reducible refine wM_lenDL ?_) | (with_reducible refine wM_eqI ?_) | (with_reducible refine wM_neI ?_) | (with_reducible refine wM_slL ?_) | (with_reducible refine wM_mul (by omega) ?_) | (with_reducible refine wM_mod (by first | assumption | decide) ?_) | (with_reducible refine wM_div (by first | assumption | decide) ?_)
  | ((with_reducible refine' wM_of ?hh ?_); (case hh => exact rfl)) | ((with_reducible refine' wB_of ?hh ?_); (case hh => exact rfl))
  | ((with_reducible refine' iteY ?hb ?_); (case hb => exact rfl)) | ((with_reducible refine' iteZ ?hb ?_); (case hb => exact rfl)) | refine ⟨_, rfl, ?_⟩ | refine ⟨rfl, ?_⟩ | refine ⟨_, _, _, _, rfl, rfl, (by first | assumption | exact get_snoc_eq), rfl, ?_⟩ | refine ⟨_, _, _, _, rfl, rfl, rfl, rfl, ?_⟩ | refine ⟨_, _, _, rfl, rfl, rfl, rfl, ?_⟩ | refine ⟨_, _, rfl, rfl, rfl, ?_⟩)
local macro_rules | `(tactic| walk_at "done") => `(tactic| first | exact rfl | exact ⟨rfl, rfl⟩ | exact ⟨_, rfl, rfl⟩ | exact ⟨_, _, rfl, rfl⟩ | exact ⟨rfl, _, rfl, rfl⟩ | exact ⟨rfl, _, _, rfl, rfl⟩)
local macro_rules | `(tactic| walk_at "ev") => `(tactic| repeat (first | walk_at "ev1" | walk_at "ev2"))
def LW0 : RS := (.asg (.nm 1) (.call 23 (.cons (.var 0) .nil)))
def LW1 : RS := (.asg (.nm 2) (.app oTup (.cons (.lc false [3] itR1 (.cons (.app (oAdd false) (.cons (.cst (.int 1)) (.cons (.call 25 (.cons (.var 1) (.cons (.cst (.int 9)) .nil))) .nil))) .nil) (.nm 3) .yes (.call 29 (.cons (.var 1) (.cons (.cst (.int 0)) .nil)))) .nil)))
def LW2 : RS := (.asg (.nm 4) (.call 30 (.cons (.var 2) .nil)))
def LW3 : RS := (.ifs (.or (.bv (.app (oIs true) (.cons (.call 1 (.cons (.var 2) .nil)) (.cons (.cst (.bl true)) .nil)))) (.not (.tr tTr (.call 27 (.cons (.app (oDisp false) (.cons (.call 0 (.cons (.var 2) .nil)) (.cons (.call 10 (.cons (.var 4) .nil)) .nil))) (.cons (.app (oDisp false) (.cons (.var 4) (.cons (.var 2) .nil))) .nil)))))) (.ret (.cst (.bl false))) .nx)
def LW4b : RS := (.seq (.drop (.call 24 (.cons (.var 1) .nil))) (.seq (.asg (.nm 6) (.call 25 (.cons (.var 1) (.cons (.app oLen (.cons (.var 4) .nil)) .nil)))) (.seq (.asg (.nm 7) (.call 26 (.cons (.var 1) (.cons (.app (oDisp false) (.cons (.sl (sSl false) (.var 4) .no (.so (.var 6))) (.cons (.app (oAdd false) (.cons (.app (oAdd false) (.cons (.sl (sSl false) (.var 4) .no (.so (.var 6))) (.cons (.call 26 (.cons (.var 1) (.cons (.app (oDisp false) (.cons (.cst (.str "0")) (.cons (.cst (.str ",")) (.cons (.cst (.str "(")) (.cons (.cst (.str ")")) (.cons (.cst (.str "\"")) (.cons (.cst (.str "-")) (.cons (.cst (.str " ")) .nil)))))))) .nil))) .nil))) (.cons (.sl (sSl false) (.var 4) (.so (.var 6)) .no) .nil))) (.cons (.app (oAdd false) (.cons (.sl (sSl false) (.var 4) .no (.so (.var 6))) (.cons (.sl (sSl false) (.var 4) (.so (.app (oAdd false) (.cons (.var 6) (.cons (.cst (.int 1)) .nil)))) .no) .nil))) (.cons (.app (oAdd false) (.cons (.var 4) (.cons (.cst (.str ")")) .nil))) .nil))))) .nil)))) (.seq (.asg (.nm 8) (.call 10 (.cons (.var 7) .nil))) (.seq (.ifs (.and (.bv (.app (oIs true) (.cons (.var 8) (.cons (.cst .non) .nil)))) (.or (.bv (.app (oEq true) (.cons (.call 30 (.cons (.var 8) .nil)) (.cons (.var 7) .nil)))) (.bv (.app (oIs true) (.cons (.call 1 (.cons (.var 8) .nil)) (.cons (.cst (.bl true)) .nil)))))) (.ret (.cst (.bl false))) .nx) (.ifs (.and (.bv (.app (oIs false) (.cons (.var 8) (.cons (.cst .non) .nil)))) (.bv (.app (oEq false) (.cons (.var 7) (.cons (.var 4) .nil))))) (.ret (.cst (.bl false))) .nx))))))
def LW4 : RS := (.forr itR1 (.cons (.cst (.int 5)) .nil) (.nm 5) LW4b)
def LW5 : RS := (.asg (.nm 9) (.cst (.str "0123456789abcdefghijklmnopqrstuvwxyzABCDEFGHIJKLMNOPQRSTUVWXYZ-\"(),. /:+\n")))
def LW6 : RS := (.asg (.nm 10) (.app (oAdd false) (.cons (.lc false [11] itS (.cons (.var 4) .nil) (.nm 11) .yes (.app (oAdd false) (.cons (.bm mIndexS (.var 9) (.cons (.var 11) .nil)) (.cons (.cst (.int 1)) .nil)))) (.cons (.app (oDisp false) (.cons (.cst (.int 74)) .nil)) .nil))))
def LW7 : RS := (.asg (.nm 12) (.call 17 (.cons (.var 4) .nil)))
def LW8 : RS := (.asg (.nm 13) (.app (oDisp false) .nil))
def LW9b : RS := (.seq (.asg (.nm 14) (.call 31 (.cons (.app oIx (.cons (.var 12) (.cons (.var 3) .nil))) .nil))) (.gz 14 (.seq (.ifs (.or (.bv (.app (oEq true) (.cons (.app oLen (.cons (.app oIx (.cons (.var 12) (.cons (.var 3) .nil))) .nil)) (.cons (.cst (.int 120)) .nil)))) (.or (.bv (.app (oEq true) (.cons (.call 32 (.cons (.var 14) .nil)) (.cons (.app (oDisp false) (.cons (.cst (.int 0)) (.cons (.cst (.int 0)) (.cons (.cst (.int 0)) .nil)))) .nil)))) (.or (.bv (.app (oEq true) (.cons (.sl (sSl false) (.var 14) .no (.so (.cst (.int 2)))) (.cons (.app (oDisp false) (.cons (.app oDiv (.cons (.app (oAdd false) (.cons (.var 3) (.cons (.cst (.int 1)) .nil))) (.cons (.cst (.int 97)) .nil))) (.cons (.app oMod (.cons (.app oInt (.cons (.app (oAdd false) (.cons (.var 3) (.cons (.cst (.int 1)) .nil))) .nil)) (.cons (.cst (.int 97)) .nil))) .nil))) .nil)))) (.bv (.app oGt (.cons (.app oMax (.cons (.var 14) .nil)) (.cons (.cst (.int 96)) .nil))))))) (.ret (.cst (.bl false))) .nx) (.seq (.ifs (.not (.tr tTr (.call 27 (.cons (.app (oDisp false) (.cons (.call 13 (.cons (.app (oAdd false) (.cons (.var 3) (.cons (.cst (.int 1)) .nil))) (.cons (.sl (sSl false) (.var 14) (.so (.cst (.int 2))) (.so (.cst (.int 57)))) .nil))) (.cons (.call 14 (.cons (.var 14) .nil)) .nil))) (.cons (.app (oDisp false) (.cons (.var 14) (.cons (.var 14) .nil))) .nil))))) (.ret (.cst (.bl false))) .nx) (.asg (.nm 13) (.app (oAdd false) (.cons (.var 13) (.cons (.sl (sSl false) (.var 14) (.so (.cst (.int 2))) (.so (.cst (.int 57)))) .nil))))))))
def LW9 : RS := (.forr itR1 (.cons (.app oLen (.cons (.var 12) .nil)) .nil) (.nm 3) LW9b)
def LW10 : RS := (.ifs (.or (.bv (.app (oEq true) (.cons (.var 13) (.cons (.app (oAdd false) (.cons (.var 10) (.cons (.app (oMul false) (.cons (.app (oDisp false) (.cons (.cst (.int 0)) .nil)) (.cons (.app oSub (.cons (.app oLen (.cons (.var 13) .nil)) (.cons (.app oLen (.cons (.var 10) .nil)) .nil))) .nil))) .nil))) .nil)))) (.or (.bv (.app oGe (.cons (.app oLen (.cons (.var 13) .nil)) (.cons (.app (oAdd false) (.cons (.app oLen (.cons (.var 10) .nil)) (.cons (.cst (.int 55)) .nil))) .nil)))) (.not (.tr tTr (.call 27 (.cons (.call 20 (.cons (.app (oLst false) (.cons (.var 12) .nil)) .nil)) (.cons (.app oTupD (.cons (.cst (.str "text")) (.cons (.var 4) .nil))) .nil))))))) (.ret (.cst (.bl false))) .nx)
def LW11bbb : RS := (.setI (.var 14) (.var 19) (.app oMod (.cons (.app oInt (.cons (.app (oAdd false) (.cons (.app (oAdd false) (.cons (.app oIx (.cons (.var 14) (.cons (.var 19) .nil))) (.cons (.cst (.int 1)) .nil))) (.cons (.call 25 (.cons (.var 1) (.cons (.cst (.int 96)) .nil))) .nil))) .nil)) (.cons (.cst (.int 97)) .nil))))
def LW11bb : RS := (.seq (.asg (.nm 14) (.call 31 (.cons (.app oIx (.cons (.var 12) (.cons (.var 3) .nil))) .nil))) (.seq (.asg (.nm 16) (.ifx (.bv (.app oLt (.cons (.var 5) (.cons (.cst (.int 3)) .nil)))) (.call 25 (.cons (.var 1) (.cons (.cst (.int 4)) .nil))) (.cst (.int 0)))) (.seq (.asg (.nm 17) (.call 28 (.cons (.lc false [18] itR1 (.cons (.ifx (.bv (.app oLt (.cons (.var 16) (.cons (.cst (.int 3)) .nil)))) (.var 16) (.cst (.int 0))) .nil) (.nm 18) .yes (.call 25 (.cons (.var 1) (.cons (.cst (.int 60)) .nil)))) .nil))) (.seq (.forr itL (.cons (.var 17) .nil) (.nm 19) LW11bbb) (.seq (.ifs (.bv (.app (oEq false) (.cons (.app oLen (.cons (.var 17) .nil)) (.cons (.cst (.int 2)) .nil)))) (.drop (.bm mAppend (.var 15) (.cons (.app (oAdd false) (.cons (.var 3) (.cons (.cst (.int 1)) .nil))) .nil))) .nx) (.seq (.ifs (.not (.tr tTr (.call 27 (.cons (.call 14 (.cons (.app (oLst false) (.cons (.var 14) .nil)) .nil)) (.cons (.ifx (.bv (.app oLt (.cons (.app oLen (.cons (.var 17) .nil)) (.cons (.cst (.int 2)) .nil)))) (.call 31 (.cons (.app oIx (.cons (.var 12) (.cons (.var 3) .nil))) .nil)) (.cst .non)) .nil))))) (.ret (.cst (.bl false))) .nx) (.drop (.bm mAppend (.var 7) (.cons (.call 33 (.cons (.var 14) .nil)) .nil)))))))))
def LW11b : RS := (.seq (.drop (.call 24 (.cons (.var 1) .nil))) (.seq (.asg (.nm 7) (.app (oDisp true) .nil)) (.seq (.asg (.nm 15) (.app (oDisp true) .nil)) (.seq (.forr itR1 (.cons (.app oLen (.cons (.var 12) .nil)) .nil) (.nm 3) LW11bb) (.ifs (.not (.tr tTr (.call 27 (.cons (.call 20 (.cons (.app (oLst false) (.cons (.var 7) .nil)) .nil)) (.cons (.ifx (.bv (.app (oEq true) (.cons (.var 15) (.cons (.app (oDisp false) .nil) .nil)))) (.app oTupD (.cons (.cst (.str "line")) (.cons (.app oIx (.cons (.var 15) (.cons (.cst (.int 0)) .nil))) .nil))) (.app oTupD (.cons (.cst (.str "text")) (.cons (.var 4) .nil)))) .nil))))) (.ret (.cst (.bl false))) .nx)))))
def LW11 : RS := (.forr itR1 (.cons (.cst (.int 4)) .nil) (.nm 5) LW11b)
def LW12 : RS := (.asg (.nm 6) (.call 25 (.cons (.var 1) (.cons (.app oLen (.cons (.var 12) .nil)) .nil))))
def LW13 : RS := (.asg (.nm 14) (.sl (sSl true) (.call 31 (.cons (.app oIx (.cons (.var 12) (.cons (.var 6) .nil))) .nil)) (.so (.cst (.int 2))) (.so (.cst (.int 57)))))
def LW14 : RS := (.setI (.var 14) (.call 25 (.cons (.var 1) (.cons (.ifx (.and (.bv (.app (oIn false) (.cons (.cst (.int 74)) (.cons (.var 14) .nil)))) (.bv (.app oGt (.cons (.bm mIndexL (.var 14) (.cons (.cst (.int 74)) .nil)) (.cons (.cst (.int 0)) .nil))))) (.bm mIndexL (.var 14) (.cons (.cst (.int 74)) .nil)) (.cst (.int 1))) .nil))) (.call 26 (.cons (.var 1) (.cons (.app (oDisp false) (.cons (.cst (.int 0)) (.cons (.cst (.int 75)) (.cons (.cst (.int 96)) .nil)))) .nil))))
def LW15 : RS := (.ifs (.or (.bv (.app (oIn false) (.cons (.cst (.int 74)) (.cons (.var 14) .nil)))) (.bv (.app oLt (.cons (.var 6) (.cons (.app oSub (.cons (.app oLen (.cons (.var 12) .nil)) (.cons (.cst (.int 1)) .nil))) .nil))))) (.seq (.asg (.nm 20) (.app (oAdd false) (.cons (.app (oAdd false) (.cons (.sl (sSl false) (.var 12) .no (.so (.var 6))) (.cons (.app (oDisp false) (.cons (.call 33 (.cons (.call 13 (.cons (.app (oAdd false) (.cons (.var 6) (.cons (.cst (.int 1)) .nil))) (.cons (.var 14) .nil))) .nil)) .nil)) .nil))) (.cons (.sl (sSl false) (.var 12) (.so (.app (oAdd false) (.cons (.var 6) (.cons (.cst (.int 1)) .nil)))) .no) .nil)))) (.ifs (.not (.tr tTr (.call 27 (.cons (.call 20 (.cons (.var 20) .nil)) (.cons (.app oTupD (.cons (.cst (.str "line")) (.cons (.app (oAdd false) (.cons (.var 6) (.cons (.cst (.int 1)) .nil))) .nil))) .nil))))) (.ret (.cst (.bl false))) .nx)) .nx)
def LW16 : RS := (.asg (.nm 21) (.call 25 (.cons (.var 1) (.cons (.app oLen (.cons (.var 12) .nil)) .nil))))
def LW17 : RS := (.ifs (.not (.tr tTr (.call 27 (.cons (.app (oDisp false) (.cons (.call 20 (.cons (.sl (sSl false) (.var 12) .no (.so (.var 21))) .nil)) (.cons (.call 20 (.cons (.app (oAdd false) (.cons (.sl (sSl false) (.var 12) .no (.so (.var 21))) (.cons (.sl (sSl false) (.var 12) (.so (.app (oAdd false) (.cons (.var 21) (.cons (.cst (.int 1)) .nil)))) .no) .nil))) .nil)) .nil))) (.cons (.app (oDisp false) (.cons (.app oTupD (.cons (.cst (.str "line")) (.cons (.app (oAdd false) (.cons (.var 21) (.cons (.cst (.int 1)) .nil))) .nil))) (.cons (.app oTupD (.cons (.cst (.str "line")) (.cons (.app (oAdd false) (.cons (.var 21) (.cons (.cst (.int 1)) .nil))) .nil))) .nil))) .nil))))) (.ret (.cst (.bl false))) .nx)
def LW18 : RS := (.ifs (.or (.bv (.app (oEq true) (.cons (.call 20 (.cons (.app (oAdd false) (.cons (.var 12) (.cons (.app (oDisp false) (.cons (.app oIx (.cons (.var 12) (.cons (.app oNeg (.cons (.cst (.int 1)) .nil)) .nil))) .nil)) .nil))) .nil)) (.cons (.app oTupD (.cons (.cst (.str "line")) (.cons (.app (oAdd false) (.cons (.app oLen (.cons (.var 12) .nil)) (.cons (.cst (.int 1)) .nil))) .nil))) .nil)))) (.or (.bv (.app (oEq true) (.cons (.call 20 (.cons (.app (oDisp false) .nil) .nil)) (.cons (.app oTupD (.cons (.cst (.str "line")) (.cons (.cst (.int 1)) .nil))) .nil)))) (.bv (.app (oEq true) (.cons (.call 20 (.cons (.app (oDisp false) (.cons (.sl (sSl false) (.app oIx (.cons (.var 12) (.cons (.cst (.int 0)) .nil))) .no (.so (.app oNeg (.cons (.cst (.int 1)) .nil)))) .nil)) .nil)) (.cons (.app oTupD (.cons (.cst (.str "line")) (.cons (.cst (.int 1)) .nil))) .nil)))))) (.ret (.cst (.bl false))) .nx)
def LW19 : RS := (.ret (.andV (.app oNot (.cons (.app oAny (.cons (.lc false [22] itL (.cons (.app (oDisp false) (.cons (.cst .non) (.cons (.cst (.bl true)) (.cons (.app (oDisp false) (.cons (.cst (.int 1)) .nil)) (.cons (.app oTupD (.cons (.cst (.str "a")) (.cons (.cst .non) .nil))) (.cons (.cst (.str "~")) (.cons (.cst (.str "\"")) (.cons (.app oTupD (.cons (.cst (.int 1)) (.cons (.app (oDisp false) (.cons (.cst (.int 2)) .nil)) .nil))) .nil)))))))) .nil) (.nm 22) .yes (.call 1 (.cons (.var 22) .nil))) .nil)) .nil)) (.app (oIs false) (.cons (.call 10 (.cons (.cst (.str "")) .nil)) (.cons (.cst .non) .nil)))))
theorem LW_eq : R_law = (.seq LW0 (.seq LW1 (.seq LW2 (.seq LW3 (.seq LW4 (.seq LW5 (.seq LW6 (.seq LW7 (.seq LW8 (.seq LW9 (.seq LW10 (.seq LW11 (.seq LW12 (.seq LW13 (.seq LW14 (.seq LW15 (.seq LW16 (.seq LW17 (.seq LW18 LW19))))))))))))))))))) := rfl
/-! ### the law: values and bent texts -/
abbrev cf19 (n : Nat) : Ev := ⟨evCall pr n 19, n, pr.fs⟩
abbrev RA (ns : List Int) (V : D) (t : List Nat) (x5 x6 x7 x8 : Option Val) : Rho :=
  [some (.dat (.scr ns)), some (.box 0), some (.dat V), none, some (.dat (.str (st t))), x5, x6, x7, x8, none, none, none, none, none, none, none, none, none, none, none, none, none, none]
/-- the law's value -/
structure VOk (V : D) : Prop where
  bn : Bn 3600 5 V
  tp : ∃ ds, V = .tup ds ∧ ds ≠ []
theorem VOk.told {V : D} (h : VOk V) : Told (sgD V) := told_of h.bn (by decide) (by decide)
theorem value_drawn {n : Nat} {ns : List Int} {μ : Store} {ρ : Rho} {Q : KS} (hn : 100000 < n) (hT : TS ns μ) (h1 : ρ[1]? = some (some (.box 0))) (hlen : ρ.length = 23)
    (q : ∀ V μ', VOk V → Mv ns μ μ' → Q .nx (ρ.set 2 (some (.dat V))) μ') : wS (cf19 n) LW1 ρ μ Q := by
  unfold LW1
  obtain ⟨v, μ1, e1, hv, hm1⟩ := ts_draw (n := n) (k := 16) 9 (by decide) hT
  refine wS_set <| wE_app <| wL_cons <| wE_lc <| wL_cons <| wE_app <| wL_cons <| wE_int <| wL_cons <| wE_call <| wL_cons <| wE_var h1 <| wL_cons <| wE_int <| wL_nil <| wM_of e1 <| wL_nil ?_
  refine wM_of (v := .dat (.int ((v + 1 : Nat) : Int))) (μ' := μ1) (by show some (Val.dat (.int (1 + (v : Int))), μ1) = _; rw [show (1 + (v : Int)) = ((v + 1 : Nat) : Int) by omega]) (wL_nil ⟨_, r1_sem ⟨by omega, by omega⟩, rfl, ?_⟩)
  rw [Int.toNat_natCast]
  refine lc_poolQ (v := v + 1) (by omega) (fun d => Bn (LL 3) 4 d) (fun i μ' hi hmm => ?_) hm1.1 hn (fun ds μ4 hl hG hm4 => ?_)
  · obtain ⟨r, μ'', e5, d, rfl, hd5, hm5⟩ := run_value_drawn n ns hn 3 11 0 μ' rfl hmm.1
    refine lcStep_ex (ρ2 := (ρ.set 3 none).set 3 (some (.dat (.int (0 + (i : Nat) * 1))))) rfl ?_
    refine wE_call <| wL_cons <| wE_var (v := .box 0) ?_ <| wL_cons <| wE_int <| wL_nil <| wM_of e5 ⟨d, rfl, hd5, hm5⟩
    rw [List.getElem?_set_ne (by decide), List.getElem?_set_ne (by decide)]
    exact h1
  · refine mk_dats rfl (wL_nil (wM_tupL ?_))
    have hb := Bn.tup hG (by omega)
    refine q _ _ ⟨hb.mono ?_ (Nat.le_refl _), ds, rfl, fun e => by rw [e] at hl; simp at hl⟩ (hm1.trans hm4)
    have e3 : LL 3 = 388 := rfl
    rw [e3]
    have : ds.length ≤ 9 := by omega
    have h2 := Nat.mul_le_mul_right (388 + 1) this
    omega
theorem isT {μ : Store} {Q : KE} (q : Q (.dat (.bl false)) μ) : wM ((oIs true).sem [.dat (.bl true), .dat (.bl true)] μ) Q := wM_of rfl q
/-- asking twice gives the same -/
theorem bent_ask {n : Nat} {μ : Store} {V : D} {l : List Nat} (hn : 100000 < n) (hS : Shut μ) (hV : VOk V) (hB : Bent l) :
    ∃ d, evCall pr n 19 10 [.dat (.str (st l))] μ = some (.dat d, μ) ∧ ((d = .non ∧ l ≠ sgD V) ∨ (plain d = true ∧ sgD d = l ∧ dep d ≤ 14)) := by
  obtain ⟨d, e, h⟩ := run_value_ofT n 14 μ l hB.run hB.sg (by have := hB.len; omega) (fun M hM => by have := hB.sc M hM; omega) hn hS
  refine ⟨d, e, ?_⟩
  rcases h with rfl | h
  · refine .inl ⟨rfl, fun he => ?_⟩
    have hb := hV.bn
    have e2 := run_value_of n 14 μ V hb.pl (by have := hb.dp; omega) (by have := hb.len; omega) hn hS
    subst he
    rw [e] at e2
    obtain ⟨ds, rfl, _⟩ := hV.tp
    cases e2
  · exact .inr h
theorem turn4 {n : Nat} {ns : List Int} {V : D} {x5 x6 x7 x8 : Option Val} {μ : Store} {Q : KS} (hn : 100000 < n) (hV : VOk V) (hT : TS ns μ)
    (q : ∀ x6 x7 x8 μ', Mv ns μ μ' → Q .nx (RA ns V (sgD V) x5 x6 x7 x8) μ') : wS (cf19 n) LW4b (RA ns V (sgD V) x5 x6 x7 x8) μ Q := by
  unfold LW4b
  have hTd := hV.told
  have hlen := hTd.len
  have hpos : 0 < (sgD V).length := by
    obtain ⟨ds, rfl, _⟩ := hV.tp
    rw [sgD]
    simp
  generalize ht : sgD V = t at *
  obtain ⟨μ1, e1, hm1⟩ := ts_next (n := n) (k := 16) hT
  refine wS_seq <| wS_drop <| wE_call <| wL_cons <| wE_var rfl <| wL_nil <| wM_of e1 <| kSeq_nx ?_
  obtain ⟨a, μ2, e2, ha, hm2⟩ := ts_draw (n := n) (k := 16) (t.length : Int) (by omega) hm1.1
  refine wS_seq <| wS_set <| wE_call <| wL_cons <| wE_var rfl <| wL_cons <| wE_app <| wL_cons <| wE_var rfl <| wL_nil ?_
  refine wM_lenT (by rw [szl]; omega) <| wL_nil <| wM_of e2 <| kSeq_nx ?_
  obtain ⟨x, μ3, e3, hx, hm3⟩ := ts_pick (n := n) (k := 15) [D.str "0", .str ",", .str "(", .str ")", .str "\"", .str "-", .str " "] (by decide) hm2.1
  obtain ⟨c, rfl, hc⟩ : ∃ c, x = .str (st [c]) ∧ c ∈ sgL := by
    have h : (["0", ",", "(", ")", "\"", "-", " "] : List String).map Str.ofString = [48, 44, 40, 41, 34, 45, 32].map fun c => st [c] := by decide +kernel
    have h2 := congrArg (List.map D.str) h
    have h3 : [D.str "0", .str ",", .str "(", .str ")", .str "\"", .str "-", .str " "] = [48, 44, 40, 41, 34, 45, 32].map fun c => D.str (st [c]) := by simpa [Function.comp_def] using h2
    rw [h3] at hx
    obtain ⟨c, hc, rfl⟩ := List.mem_map.mp hx
    refine ⟨c, rfl, ?_⟩
    have : ∀ c ∈ [48, 44, 40, 41, 34, 45, 32], c ∈ sgL := by decide
    exact this c hc
  obtain ⟨y, μ4, e4, hy, hm4⟩ := ts_pick (n := n) (k := 15) [D.str (st (t.take a)), .str (st (t.take a ++ [c] ++ t.drop a)), .str (st (t.take a ++ t.drop (a + 1))), .str (st (t ++ [41]))] (by show 0 < 4 ∧ 4 < 1000; decide) hm3.1
  have hm := ((hm1.trans hm2).trans hm3).trans hm4
  obtain ⟨l, rfl, hB⟩ : ∃ l, y = .str (st l) ∧ Bent l := by
    simp only [List.mem_cons, List.not_mem_nil, or_false] at hy
    rcases hy with rfl | rfl | rfl | rfl
    · exact ⟨_, rfl, hTd.take a⟩
    · exact ⟨_, rfl, hTd.ins a hc⟩
    · exact ⟨_, rfl, hTd.del (by omega)⟩
    · exact ⟨_, rfl, hTd.more⟩
  have hl1 : (t.take a).length ≤ 3900 := by rw [List.length_take]; omega
  have hl2 : (t.drop a).length ≤ 3900 := by rw [List.length_drop]; omega
  have hl3 : (t.drop (a + 1)).length ≤ 3900 := by rw [List.length_drop]; omega
  refine wS_seq <| wS_set <| wE_call <| wL_cons <| wE_var rfl <| wL_cons <| wE_app ?_
  -- the first
  refine wL_cons <| wE_sl <| wE_var rfl <| wO_no <| wO_so <| wE_var rfl ⟨_, rfl, ?_⟩
  refine wM_slT0 (j := a) rfl (by rw [szl]; omega) ?_
  -- the second
  refine wL_cons <| wE_app <| wL_cons <| wE_app <| wL_cons <| wE_sl <| wE_var rfl <| wO_no <| wO_so <| wE_var rfl ⟨_, rfl, ?_⟩
  refine wM_slT0 (j := a) rfl (by rw [szl]; omega) ?_
  refine wL_cons <| wE_call <| wL_cons <| wE_var rfl <| wL_cons <| wE_app <| wL_cons <| wE_str <| wL_cons <| wE_str <| wL_cons <| wE_str <| wL_cons <| wE_str <| wL_cons <| wE_str <| wL_cons <| wE_str <| wL_cons <| wE_str <| wL_nil ?_
  refine wM_of (v := .dat (.lst [D.str "0", .str ",", .str "(", .str ")", .str "\"", .str "-", .str " "])) (μ' := μ2) rfl <| wL_nil <| wM_of e3 <| wL_nil ?_
  refine wM_addT (by rw [szl]; show _ + 1 ≤ _; omega) ?_
  refine wL_cons <| wE_sl <| wE_var rfl <| wO_so <| wE_var rfl ⟨_, rfl, wO_no ?_⟩
  refine wM_slT1 (i := a) rfl (by rw [szl]; omega) <| wL_nil ?_
  refine wM_addT (by rw [szl, List.length_append]; show _ + 1 + _ ≤ _; omega) ?_
  -- the third
  refine wL_cons <| wE_app <| wL_cons <| wE_sl <| wE_var rfl <| wO_no <| wO_so <| wE_var rfl ⟨_, rfl, ?_⟩
  refine wM_slT0 (j := a) rfl (by rw [szl]; omega) ?_
  refine wL_cons <| wE_sl <| wE_var rfl <| wO_so <| wE_app <| wL_cons <| wE_var rfl <| wL_cons <| wE_int <| wL_nil <| wM_of (v := .dat (.int ((a + 1 : Nat) : Int))) (μ' := μ3) rfl ⟨_, rfl, wO_no ?_⟩
  refine wM_slT1 (i := a + 1) rfl (by rw [szl]; omega) <| wL_nil ?_
  refine wM_addT (by rw [szl]; omega) ?_
  -- the fourth
  refine wL_cons <| wE_app <| wL_cons <| wE_var rfl <| wL_cons <| wE_str <| wL_nil ?_
  rw [lit_s]
  refine wM_addT (by rw [szl]; show _ + 1 ≤ _; omega) <| wL_nil ?_
  refine wM_of (v := .dat (.lst [D.str (st (t.take a)), .str (st (t.take a ++ [c] ++ t.drop a)), .str (st (t.take a ++ t.drop (a + 1))), .str (st (t ++ [41]))])) (μ' := μ3) rfl <| wL_nil <| wM_of e4 <| kSeq_nx ?_
  -- what is read
  have hS4 := hm4.1.2
  obtain ⟨d, e5, hd⟩ := bent_ask (n := n) hn hS4 hV hB
  rw [ht] at hd
  refine wS_seq <| wS_set <| wE_call <| wL_cons <| wE_var rfl <| wL_nil <| wM_of e5 <| kSeq_nx ?_
  have hAl : ∀ c ∈ l, c < 1114112 := fun c hc => by have := (sg_lt c (hB.sg c hc)).1; omega
  have hAt : ∀ c ∈ t, c < 1114112 := fun c hc => by have := (sg_lt c (hTd.sg c hc)).1; omega
  rcases hd with ⟨rfl, hne⟩ | ⟨hp, hs, hdp⟩
  · refine wS_seq <| wS_ifs <| wT_and <| wT_bv <| wE_app <| wL_cons <| wE_var rfl <| wL_cons <| wE_non <| wL_nil ?_
    refine wM_of (v := .dat (.bl false)) (μ' := μ4) rfl ⟨_, rfl, iteZ rfl <| iteZ rfl <| wS_nx <| kSeq_nx ?_⟩
    refine wS_ifs <| wT_and <| wT_bv <| wE_app <| wL_cons <| wE_var rfl <| wL_cons <| wE_non <| wL_nil ?_
    refine wM_of (v := .dat (.bl true)) (μ' := μ4) rfl ⟨_, rfl, iteY rfl ?_⟩
    refine wT_bv <| wE_app <| wL_cons <| wE_var rfl <| wL_cons <| wE_var rfl <| wL_nil ?_
    refine wM_eqT hAl hAt ⟨_, rfl, iteZ (decide_eq_false hne) <| wS_nx ?_⟩
    exact q _ _ _ _ hm
  · have hnd : d ≠ .non := fun e => by subst e; cases hp
    have hlen2 : (sgD d).length ≤ 40000 := by rw [hs]; have := hB.len; omega
    refine wS_seq <| wS_ifs <| wT_and <| wT_bv <| wE_app <| wL_cons <| wE_var rfl <| wL_cons <| wE_non <| wL_nil ?_
    refine wM_of (v := .dat (.bl (!isNonV (.dat d)))) (μ' := μ4) rfl ⟨_, rfl, iteY (by rw [nonV_dat hnd]; rfl) ?_⟩
    refine wT_or <| wT_bv <| wE_app <| wL_cons <| wE_call <| wL_cons <| wE_var rfl <| wL_nil ?_
    refine wM_of (run_law_signs n μ4 hn hS4 19 d hp (by omega) hlen2) <| wL_cons <| wE_var rfl <| wL_nil ?_
    rw [hs]
    refine wM_neT hAl hAl ⟨_, rfl, iteZ (by simp) ?_⟩
    refine wT_bv <| wE_app <| wL_cons <| wE_call <| wL_cons <| wE_var rfl <| wL_nil ?_
    refine wM_of (run_is_plain n μ4 hn hS4 19 d hp (by omega) hlen2) <| wL_cons <| wE_bl <| wL_nil <| isT ⟨_, rfl, iteZ rfl <| wS_nx <| kSeq_nx ?_⟩
    refine wS_ifs <| wT_and <| wT_bv <| wE_app <| wL_cons <| wE_var rfl <| wL_cons <| wE_non <| wL_nil ?_
    refine wM_of (v := .dat (.bl (isNonV (.dat d)))) (μ' := μ4) rfl ⟨_, rfl, iteZ (nonV_dat hnd) <| iteZ rfl <| wS_nx ?_⟩
    exact q _ _ _ _ hm
theorem first_ok {n : Nat} {ns : List Int} {V : D} {x5 x6 x7 x8 : Option Val} {μ : Store} {Q : KS} (hn : 100000 < n) (hV : VOk V) (hS : Shut μ)
    (q : Q .nx (RA ns V (sgD V) x5 x6 x7 x8) μ) : wS (cf19 n) LW3 (RA ns V (sgD V) x5 x6 x7 x8) μ Q := by
  unfold LW3
  have hb := hV.bn
  have h1 := hb.len
  have h2 := hb.dp
  have h3 := hb.dpd
  refine wS_ifs <| wT_or <| wT_bv <| wE_app <| wL_cons <| wE_call <| wL_cons <| wE_var rfl <| wL_nil ?_
  refine wM_of (run_is_plain n μ hn hS 19 V hb.pl (by omega) (by omega)) <| wL_cons <| wE_bl <| wL_nil <| isT ⟨_, rfl, iteZ rfl ?_⟩
  refine wT_not <| wT_tr <| wE_call <| wL_cons <| wE_app <| wL_cons <| wE_call <| wL_cons <| wE_var rfl <| wL_nil ?_
  refine wM_of (run_signs_of n μ hn hS 19 V hb.pl (by omega) (by omega)) <| wL_cons <| wE_call <| wL_cons <| wE_var rfl <| wL_nil ?_
  refine wM_of (run_value_of n 14 μ V hb.pl (by omega) (by omega) hn hS) <| wL_nil ?_
  refine wM_of (v := .dat (.lst [.str (st (sgD V)), V])) (μ' := μ) rfl <| wL_cons <| wE_app <| wL_cons <| wE_var rfl <| wL_cons <| wE_var rfl <| wL_nil ?_
  refine wM_of (v := .dat (.lst [.str (st (sgD V)), V])) (μ' := μ) rfl <| wL_nil ?_
  have ho : okD (.lst [.str (st (sgD V)), V]) = true := by
    show ((okD (.str (st (sgD V))) && (okD V && true)) && true) = true
    have : okD (.str (st (sgD V))) = true := by
      show ((st (sgD V)).cps.toList.all (· < 1114112)) = true
      rw [st_toList, List.all_eq_true]
      intro c hc
      have := (sg_lt c (sgD_sg hb.pl c hc)).1
      exact decide_eq_true (by omega)
    rw [this, hb.ok]
    rfl
  have hdd : dpD (.lst [.str (st (sgD V)), V]) ≤ 19 := by simp only [dpD, dpDs]; omega
  have hsm := run_same n μ hn hS 19 _ ho hdd
  dsimp only [cf19]
  refine wM_of hsm ?_
  refine wB_of (b := true) rfl ?_
  exact iteZ rfl (wS_nx q)
end K54

namespace K54
open PySem PySem.Spec PyProof.Rows L2 EV
local macro_rules | `(tactic| walk_at "ev1") => `(tactic| with_reducible first
  | (refine' wE_var ?hh ?_; (case hh => with_unfolding_all exact rfl)) | refine wE_int ?_ | refine wE_str ?_ | refine wE_non ?_ | refine wE_bl ?_ | refine wL_nil ?_ | refine wL_cons ?_
  | refine wE_app ?_ | refine wE_bm ?_ | refine wE_sl ?_ | refine wO_no ?_ | refine wO_so ?_ | refine wE_call ?_
  | refine wE_ifx ?_ | refine wE_and ?_ | refine wE_or ?_ | refine wE_chain ?_ | refine wE_frz ?_ | refine wE_lc ?_
  | refine wT_tr ?_ | refine wT_bv ?_ | refine wT_and ?_ | refine wT_or ?_ | refine wT_not ?_ | refine wT_yes ?_
  | refine wS_seq ?_ | refine wS_set ?_ | refine wS_asg ?_ | refine wS_setI ?_ | refine wS_drop ?_ | refine wS_ret ?_ | refine wS_retN ?_ | refine wS_nx ?_ | refine wS_brk ?_ | refine wS_cnt ?_
  | refine kSeq_nx ?_ | refine kSeq_rt ?_ | refine kSeq_bk ?_ | refine kSeq_ct ?_)
local macro_rules | `(tactic| walk_at "ev2") => `(tactic| first
  | ((with_reducible refine' wM_ixB ?hh ?hi ?_); (case hh => first | assumption | exact get_snoc_eq); (case hi => exact rfl)) | (with_reducible refine wM_lenDL ?_) | (with_reducible refine wM_eqI ?_) | (with_reducible refine wM_neI ?_) | (with_reducible refine wM_slL ?_) | (with_reducible refine wM_mul (by omega) ?_) | (with_reducible refine wM_mod (by first | assumption | decide) ?_) | (with_reducible refine wM_div (by first | assumption | decide) ?_)
  | ((with_reducible refine' wM_of ?hh ?_); (case hh => exact rfl)) | ((with_reducible refine' wB_of ?hh ?_); (case hh => exact rfl))
  | ((with_reducible refine' iteY ?hb ?_); (case hb => exact rfl)) | ((with_reducible refine' iteZ ?hb ?_); (case hb => exact rfl)) | refine ⟨_, rfl, ?_⟩ | refine ⟨rfl, ?_⟩ | refine ⟨_, _, _, _, rfl, rfl, (by first | assumption | exact get_snoc_eq), rfl, ?_⟩ | refine ⟨_, _, _, _, rfl, rfl, rfl, rfl, ?_⟩ | refine ⟨_, _, _, rfl, rfl, rfl, rfl, ?_⟩ | refine ⟨_, _, rfl, rfl, rfl, ?_⟩)
local macro_rules | `(tactic| walk_at "done") => `(tactic| first | exact rfl | exact ⟨rfl, rfl⟩ | exact ⟨_, rfl, rfl⟩ | exact ⟨_, _, rfl, rfl⟩ | exact ⟨rfl, _, rfl, rfl⟩ | exact ⟨rfl, _, _, rfl, rfl⟩)
local macro_rules | `(tactic| walk_at "ev") => `(tactic| repeat (first | walk_at "ev1" | walk_at "ev2"))
/-! ### the law: the lines -/
abbrev RB (ns : List Int) (V : D) (t : List Nat) (x3 x5 x6 x7 x8 x13 x14 x15 x16 x17 x19 x20 x21 : Option Val) : Rho :=
  [some (.dat (.scr ns)), some (.box 0), some (.dat V), x3, some (.dat (.str (st t))), x5, x6, x7, x8, some (.dat (.str c_SIGNS)), some (.dat (.lst (dint (told t)))), none, some (.dat (.lst (dstr (linesOf t)))), x13, x14, x15, x16, x17, none, x19, x20, x21, none]
abbrev lnN (t : List Nat) (i : Nat) : List Int := lineOf ((i : Int) + 1) (chunk t i)
theorem rg_some {m i : Nat} (h : i < m) : (rgL 0 1 m)[i]? = some (.dat (.int (0 + (i : Nat) * 1))) := by
  unfold rgL
  rw [List.getElem?_map, List.getElem?_range h, Option.map_some]
theorem rg_none {m i : Nat} (h : m ≤ i) : (rgL 0 1 m)[i]? = none := by
  unfold rgL
  rw [List.getElem?_eq_none (by simp; omega)]
theorem zi (i : Nat) : (0 + (i : Int) * 1) = (i : Nat) := by omega
theorem lines_at {t : List Nat} {i : Nat} (h : i < nLines t) : (dstr (linesOf t))[i]? = some (.str (st (flatD (lnN t i)))) := by
  rw [List.getElem?_map, linesOf_get h]
  rfl
/-- a line of the list of lines -/
theorem wE_line {c : Ev} {ρ : Rho} {μ : Store} {k i : Nat} {t : List Nat} {Q : KE} (h12 : ρ[12]? = some (some (.dat (.lst (dstr (linesOf t)))))) (hk : ρ[k]? = some (some (.dat (.int (i : Nat))))) (hi : i < nLines t) (q : Q (.dat (.str (st (flatD (lnN t i))))) μ) :
    wE c (.app oIx (.cons (.var 12) (.cons (.var k) .nil))) ρ μ Q :=
  wE_app <| wL_cons <| wE_var h12 <| wL_cons <| wE_var hk <| wL_nil <| wM_ixD (atI_at (j := i) rfl (lines_at hi)) q
theorem ln_cut {t : List Nat} {i : Nat} (hi : i < nLines t) : ((lnN t i).drop 2).take 55 = chunk t i := by
  show ((((i : Int) + 1) / 97 :: ((i : Int) + 1) % 97 :: (chunk t i ++ _)).drop 2).take 55 = _
  rw [List.drop_succ_cons, List.drop_succ_cons, List.drop_zero, List.take_left' (chunk_len hi)]
theorem ln_ok {t : List Nat} {i : Nat} (h : Told t) (hi : i < nLines t) : (lnN t i).length = 60 ∧ (∀ x ∈ lnN t i, 0 ≤ x ∧ x < 97) ∧ sums (lnN t i) = (0, 0, 0) := line_ok h.sg (by have := h.len; omega) hi
theorem ln_two {t : List Nat} {i : Nat} : (lnN t i).take 2 = [((i : Int) + 1) / 97, ((i : Int) + 1) % 97] := rfl
/-- what both sides of a comparison are -/
theorem okD_ints (ns : List Int) (h : ns.length ≤ 1000) : okD (.lst (dint ns)) = true ∧ dpD (.lst (dint ns)) ≤ 2 := by
  have h1 : okDs (dint ns) = true := okDs_of fun d hd => by
    obtain ⟨x, _, rfl⟩ := List.mem_map.mp hd
    rfl
  have h2 : dpDs (dint ns) ≤ 1 := dpDs_le fun d hd => by
    obtain ⟨x, _, rfl⟩ := List.mem_map.mp hd
    exact Nat.le_refl _
  refine ⟨?_, by show dpDs (dint ns) + 1 ≤ 2; omega⟩
  show (okDs (dint ns) && decide ((dint ns).length ≤ 1000)) = true
  rw [h1, List.length_map, decide_eq_true h]
  rfl
theorem okD_st {t : List Nat} (h : ∀ c ∈ t, c ∈ sgL) : okD (.str (st t)) = true := by
  show ((st t).cps.toList.all (· < 1114112)) = true
  rw [st_toList, List.all_eq_true]
  intro c hc
  have := (sg_lt c (h c hc)).1
  exact decide_eq_true (by omega)
/-- not _law_same(a, b), of two expressions that tell the same -/
theorem wS_same {n : Nat} {ρ : Rho} {μ : Store} {a b : RE} {d : D} {Q : KS} (hn : 100000 < n) (hS : Shut μ) (ho : okD d = true) (hd : dpD d ≤ 19)
    (ha : wE (cf19 n) a ρ μ fun v μ1 => v = .dat d ∧ μ1 = μ) (hb : wE (cf19 n) b ρ μ fun v μ1 => v = .dat d ∧ μ1 = μ) (q : Q .nx ρ μ) :
    wS (cf19 n) (.ifs (.not (.tr tTr (.call 27 (.cons a (.cons b .nil))))) (.ret (.cst (.bl false))) .nx) ρ μ Q := by
  refine wS_ifs (wT_not (wT_tr (wE_call (wL_cons (wE_then ha (wL_cons (wE_then hb (wL_nil ?_))))))))
  dsimp only [cf19]
  refine wM_of (run_same n μ hn hS 19 d ho hd) (wB_of (b := true) rfl ?_)
  exact iteZ rfl (wS_nx q)
theorem told_ok {n : Nat} {ρ : Rho} {μ : Store} {t : List Nat} {Q : KS} (hn : 100000 < n) (hT : Told t) (h4 : ρ[4]? = some (some (.dat (.str (st t))))) (h9 : ρ[9]? = some (some (.dat (.str c_SIGNS)))) (hlen : ρ.length = 23)
    (q : Q .nx (ρ.set 10 (some (.dat (.lst (dint (told t)))))) μ) : wS (cf19 n) LW6 ρ μ Q := by
  unfold LW6
  have hl := hT.len
  refine wS_set <| wE_app <| wL_cons <| wE_lc <| wL_cons <| wE_var h4 <| wL_nil ⟨nxS (st t), rfl, rfl, ?_⟩
  refine lcMS (s := st t) (fun c => .dat (.int (idxS c))) ?_ ?_ (fun c hc => ?_) ?_
  · rw [st_toList]; show _ < n; omega
  · rw [st_toList, szl]; omega
  · rw [st_toList] at hc
    refine lcStep_map (ρ2 := (ρ.set 11 none).set 11 (some (sgn c))) rfl ?_
    refine wE_app <| wL_cons <| wE_bm <| wE_var (v := .dat (.str c_SIGNS)) ?_ ⟨rfl, wL_cons <| wE_var (v := sgn c) ?_ <| wL_nil <| wM_idxS (hT.sg c hc) <| wL_cons <| wE_int <| wL_nil <| wM_of rfl ⟨rfl, rfl⟩⟩
    · rw [List.getElem?_set_ne (by decide), List.getElem?_set_ne (by decide)]
      exact h9
    · exact List.getElem?_set_self (by rw [List.length_set]; omega)
  · rw [st_toList]
    refine mk_dats (ds := dint (t.map idxS)) (by simp [dint]) ?_
    refine wL_cons <| wE_app <| wL_cons <| wE_int <| wL_nil <| wM_of (v := .dat (.lst [.int 74])) rfl <| wL_nil ?_
    refine wM_addL (by rw [szl]; show (dint _).length + 1 ≤ _; rw [List.length_map, List.length_map]; omega) ?_
    rw [show dint (t.map idxS) ++ [D.int 74] = dint (told t) by simp [dint, told]]
    exact q
section
variable {n : Nat} {ns : List Int} {V : D} {x3 x5 x6 x7 x8 x13 x14 x15 x16 x17 x19 x20 x21 : Option Val} {μ : Store} {Q : KS}
theorem dead_ts {ns : List Int} {μ : Store} (h : TS ns μ) : TS ns (μ ++ [.dead]) := by
  obtain ⟨⟨a, b, c, hp0, ha⟩, hS⟩ := h
  exact ⟨⟨a, b, c, get_snoc_lt hp0, ha⟩, shut_app hS rfl⟩
theorem turn9 {t : List Nat} {i : Nat} (hn : 100000 < n) (hTd : Told t) (hT : TS ns μ) (hi : i < nLines t)
    (q : Q .nx (RB ns V t (some (.dat (.int (i : Nat)))) x5 x6 x7 x8 (some (.dat (.lst (dint ((padded t).take ((i + 1) * 55)))))) (some (.dat (.lst (dint (lnN t i))))) x15 x16 x17 x19 x20 x21) (μ ++ [.dead])) :
    wS (cf19 n) LW9b (RB ns V t (some (.dat (.int (i : Nat)))) x5 x6 x7 x8 (some (.dat (.lst (dint ((padded t).take (i * 55)))))) x14 x15 x16 x17 x19 x20 x21) μ Q := by
  unfold LW9b
  have hl := hTd.len
  obtain ⟨k1, k2, k3⟩ := ln_ok hTd hi
  have hS := hT.2
  refine wS_seq <| wS_set <| wE_call <| wL_cons <| wE_line rfl rfl hi <| wL_nil ?_
  refine wM_of (run_law_numbers n 18 μ (lnN t i) k2 k1 hn hS) <| kSeq_nx <| wS_gz rfl <| wM_frzB (dint (lnN t i)) get_snoc_eq rfl ?_
  rw [set_snoc]
  have hT2 := dead_ts hT
  have hS2 := hT2.2
  generalize μ ++ [SO.dead] = μ2 at *
  refine wS_seq <| wS_ifs <| wT_then (B := false) ?_ <| iteZ rfl <| wS_nx <| kSeq_nx ?_
  · refine wT_or <| wT_bv <| wE_app <| wL_cons <| wE_app <| wL_cons <| wE_line rfl rfl hi <| wL_nil ?_
    have hfl : (flatD (lnN t i)).length = 120 := by rw [flatD_len, k1]
    refine wM_lenT (by rw [szl, hfl]; decide) <| wL_cons <| wE_int <| wL_nil <| wM_neI ⟨_, rfl, iteZ ?_ ?_⟩
    · rw [hfl]; rfl
    refine wT_or <| wT_bv <| wE_app <| wL_cons <| wE_call <| wL_cons <| wE_var rfl <| wL_nil ?_
    refine wM_of (run_law_sums n 18 μ2 (lnN t i) k1 hn hS2) <| wL_cons <| wE_app <| wL_cons <| wE_int <| wL_cons <| wE_int <| wL_cons <| wE_int <| wL_nil ?_
    refine wM_of (v := .dat (.lst (dint [0, 0, 0]))) (μ' := μ2) rfl <| wL_nil ?_
    rw [k3]
    refine wM_neL (ns := [0, 0, 0]) (ms := [0, 0, 0]) valP_ints valP_ints ⟨_, rfl, iteZ rfl ?_⟩
    refine wT_or <| wT_bv <| wE_app <| wL_cons <| wE_sl <| wE_var rfl <| wO_no <| wO_so <| wE_int ⟨_, rfl, ?_⟩
    refine wM_slL (ds := dint (lnN t i)) ?_
    rw [show (some (2 : Int)) = some ((2 : Nat) : Int) from rfl, cutG_nat0, dint, ← List.map_take, ln_two]
    refine wL_cons <| wE_app <| wL_cons <| wE_app <| wL_cons <| wE_app <| wL_cons <| wE_var rfl <| wL_cons <| wE_int <| wL_nil ?_
    refine wM_of (v := .dat (.int ((i : Int) + 1))) (μ' := μ2) rfl <| wL_cons <| wE_int <| wL_nil <| wM_div (by decide) ?_
    refine wL_cons <| wE_app <| wL_cons <| wE_app <| wL_cons <| wE_app <| wL_cons <| wE_var rfl <| wL_cons <| wE_int <| wL_nil ?_
    refine wM_of (v := .dat (.int ((i : Int) + 1))) (μ' := μ2) rfl <| wL_nil <| wM_of (v := .dat (.int ((i : Int) + 1))) (μ' := μ2) rfl <| wL_cons <| wE_int <| wL_nil <| wM_mod (by decide) ?_
    refine wL_nil <| wM_of (v := .dat (.lst (dint [((i : Int) + 1) / 97, ((i : Int) + 1) % 97]))) (μ' := μ2) rfl <| wL_nil ?_
    refine wM_neL (ns := [((i : Int) + 1) / 97, ((i : Int) + 1) % 97]) (ms := [((i : Int) + 1) / 97, ((i : Int) + 1) % 97]) valP_ints valP_ints ⟨_, rfl, iteZ (by simp) ?_⟩
    refine wT_bv <| wE_app <| wL_cons <| wE_app <| wL_cons <| wE_var rfl <| wL_nil ?_
    refine wM_maxI (ns := lnN t i) rfl (fun e => by rw [e] at k1; cases k1) (fun m hm _ => ?_)
    have := k2 m hm
    refine wL_cons <| wE_int <| wL_nil <| wM_of (v := .dat (.bl (decide (m > 96)))) (μ' := μ2) rfl ⟨_, rfl, decide_eq_false (by omega), rfl⟩
  refine wS_seq <| wS_same (d := .lst [.lst (dint (lnN t i)), .lst (dint (lnN t i))]) hn hS2 ?_ ?_ ?_ ?_ <| kSeq_nx ?_
  · have := (okD_ints (lnN t i) (by omega)).1
    show ((okD (.lst (dint (lnN t i))) && (okD (.lst (dint (lnN t i))) && true)) && true) = true
    rw [this]
    rfl
  · have := (okD_ints (lnN t i) (by omega)).2
    show max (dpD (.lst (dint (lnN t i)))) (max (dpD (.lst (dint (lnN t i)))) 0) + 1 ≤ 19
    omega
  · refine wE_app <| wL_cons <| wE_call <| wL_cons <| wE_app <| wL_cons <| wE_var rfl <| wL_cons <| wE_int <| wL_nil ?_
    refine wM_of (v := .dat (.int ((i : Int) + 1))) (μ' := μ2) rfl <| wL_cons <| wE_sl <| wE_var rfl <| wO_so <| wE_int ⟨_, rfl, wO_so <| wE_int ⟨_, rfl, ?_⟩⟩
    refine wM_slL (ds := dint (lnN t i)) ?_
    rw [show (some (2 : Int)) = some ((2 : Nat) : Int) from rfl, show (some (57 : Int)) = some ((57 : Nat) : Int) from rfl, cutG_ints, show 57 - 2 = 55 from rfl, ln_cut hi]
    refine wL_nil <| wM_of (run_line_of n 17 μ2 ((i : Int) + 1) (chunk t i) (by rw [chunk_len hi]; decide) (by omega) hS2) ?_
    refine wL_cons <| wE_call <| wL_cons <| wE_var rfl <| wL_nil <| wM_of (run_righted n 17 μ2 _ (lnN t i) rfl rfl k1 (by omega) hS2) ?_
    rw [righted_zero k3]
    exact wL_nil <| wM_of rfl ⟨rfl, rfl⟩
  · exact wE_app <| wL_cons <| wE_var rfl <| wL_cons <| wE_var rfl <| wL_nil <| wM_of rfl ⟨rfl, rfl⟩
  refine wS_set <| wE_app <| wL_cons <| wE_var rfl <| wL_cons <| wE_sl <| wE_var rfl <| wO_so <| wE_int ⟨_, rfl, wO_so <| wE_int ⟨_, rfl, ?_⟩⟩
  refine wM_slL (ds := dint (lnN t i)) ?_
  rw [show (some (2 : Int)) = some ((2 : Nat) : Int) from rfl, show (some (57 : Int)) = some ((57 : Nat) : Int) from rfl, cutG_ints, show 57 - 2 = 55 from rfl, ln_cut hi]
  have hnl : nLines t ≤ 72 := by unfold nLines; omega
  refine wL_nil <| wM_addL (by rw [szl, List.length_map, List.length_map, List.length_take, padded_len, chunk_len hi]; omega) ?_
  rw [show dint ((padded t).take (i * 55)) ++ dint (chunk t i) = dint ((padded t).take ((i + 1) * 55)) by
    rw [show (i + 1) * 55 = i * 55 + 55 by omega, List.take_add, dint, dint, dint, List.map_append]
    rfl]
  exact q
theorem lines9 {t : List Nat} (hn : 100000 < n) (hTd : Told t) (hT : TS ns μ)
    (q : ∀ x3 x14 μ', TS ns μ' → Q .nx (RB ns V t x3 x5 x6 x7 x8 (some (.dat (.lst (dint (padded t))))) x14 x15 x16 x17 x19 x20 x21) μ') :
    wS (cf19 n) LW9 (RB ns V t x3 x5 x6 x7 x8 (some (.dat (.lst []))) x14 x15 x16 x17 x19 x20 x21) μ Q := by
  unfold LW9
  have hl := hTd.len
  have hnl : nLines t ≤ 72 := by unfold nLines; omega
  refine wS_for <| wL_cons <| wE_app <| wL_cons <| wE_var rfl <| wL_nil <| wM_lenDL ?_
  rw [List.length_map, linesOf_len]
  refine wL_nil ⟨_, r1_sem ⟨by omega, by omega⟩, ?_⟩
  rw [Int.toNat_natCast]
  refine for_inv (fun i ρ' μ' => ∃ x3 x14, ρ' = RB ns V t x3 x5 x6 x7 x8 (some (.dat (.lst (dint ((padded t).take (i * 55)))))) x14 x15 x16 x17 x19 x20 x21 ∧ TS ns μ' ∧ i ≤ nLines t) ?_ (nLines t) (fun i ρ μ' ⟨_, _, _, _, h⟩ => h) n 0 _ _ ⟨x3, x14, by rw [Nat.zero_mul, List.take_zero]; rfl, hT, Nat.zero_le _⟩ (by omega)
  rintro i _ μ' ⟨x3, x14, rfl, hT', hi⟩
  refine ⟨_, nxR_at, ?_⟩
  by_cases hlt : i < nLines t
  · rw [rg_some hlt, zi]
    refine wR_for (ρ2 := RB ns V t (some (.dat (.int (i : Nat)))) x5 x6 x7 x8 (some (.dat (.lst (dint ((padded t).take (i * 55)))))) x14 x15 x16 x17 x19 x20 x21) rfl ?_
    exact turn9 hn hTd hT' hlt ⟨_, _, rfl, dead_ts hT', hlt⟩
  · rw [rg_none (by omega)]
    have : i = nLines t := by omega
    subst this
    rw [List.take_of_length_le (by rw [padded_len]; exact Nat.le_refl _)]
    exact q _ _ _ hT'
theorem lstD {v : Val} {ds : List D} {μ : Store} {Q : KE} (h : v = .dat (.lst ds)) (q : Q (.dat (.lst ds)) μ) : wM ((oLst false).sem [v] μ) Q := by
  subst h
  exact wM_lstD q
/-- text_of of lines that are good -/
theorem tt_ok (t : List Nat) (h : ∀ c ∈ t, c ∈ sgL) : okD (ttD (.text t)) = true ∧ dpD (ttD (.text t)) ≤ 2 := by
  refine ⟨?_, Nat.le_refl _⟩
  show ((okD (.str "text") && (okD (.str (st t)) && true)) && true) = true
  rw [okD_st h, show okD (.str "text") = true by decide +kernel]
  rfl
theorem tl_ok (i : Nat) : okD (ttD (.line i)) = true ∧ dpD (ttD (.line i)) ≤ 2 := by
  refine ⟨?_, Nat.le_refl _⟩
  show ((okD (.str "line") && (true && true)) && true) = true
  rw [show okD (.str "line") = true by decide +kernel]
  rfl
theorem line_len {t : List Nat} {l : List Nat} (h : l ∈ linesOf t) : l.length = 120 := by
  obtain ⟨i, hi, rfl⟩ := List.mem_map.mp h
  exact lineN_len (List.mem_range.mp hi)
theorem whole10 {t : List Nat} (hn : 100000 < n) (hTd : Told t) (hS : Shut μ)
    (q : Q .nx (RB ns V t x3 x5 x6 x7 x8 (some (.dat (.lst (dint (padded t))))) x14 x15 x16 x17 x19 x20 x21) μ) :
    wS (cf19 n) LW10 (RB ns V t x3 x5 x6 x7 x8 (some (.dat (.lst (dint (padded t))))) x14 x15 x16 x17 x19 x20 x21) μ Q := by
  unfold LW10
  have hl := hTd.len
  have hnl : nLines t ≤ 72 := by unfold nLines; omega
  have hnb := nLines_bd t
  have hpl := padded_len t
  have htl := told_len t
  refine wS_ifs <| wT_then (B := false) ?_ <| iteZ rfl <| wS_nx q
  refine wT_or <| wT_bv <| wE_app <| wL_cons <| wE_var rfl <| wL_cons <| wE_app <| wL_cons <| wE_var rfl <| wL_cons <| wE_app <| wL_cons <| wE_app <| wL_cons <| wE_int <| wL_nil ?_
  refine wM_of (v := .dat (.lst [.int 0])) (μ' := μ) rfl <| wL_cons <| wE_app <| wL_cons <| wE_app <| wL_cons <| wE_var rfl <| wL_nil <| wM_lenDL ?_
  refine wL_cons <| wE_app <| wL_cons <| wE_var rfl <| wL_nil <| wM_lenDL ?_
  rw [List.length_map, List.length_map, hpl, htl]
  refine wL_nil <| wM_of (v := .dat (.int (((nLines t * 55 : Nat) : Int) - ((t.length + 1 : Nat) : Int)))) (μ' := μ) rfl <| wL_nil ?_
  refine wM_repL ⟨by omega, by omega, by rw [szl]; show 1 * _ ≤ _; omega⟩ ?_
  rw [flat_one, show (((nLines t * 55 : Nat) : Int) - ((t.length + 1 : Nat) : Int)).toNat = nLines t * 55 - (t.length + 1) by omega]
  refine wL_nil <| wM_addL (by rw [szl, List.length_map, List.length_map, List.length_replicate, htl]; omega) ?_
  rw [show dint (told t) ++ dint (List.replicate (nLines t * 55 - (t.length + 1)) 0) = dint (padded t) by simp [dint, padded]]
  refine wL_nil <| wM_neL (ns := padded t) (ms := padded t) valP_ints valP_ints ⟨_, rfl, iteZ (by simp) ?_⟩
  refine wT_or <| wT_bv <| wE_app <| wL_cons <| wE_app <| wL_cons <| wE_var rfl <| wL_nil <| wM_lenDL ?_
  refine wL_cons <| wE_app <| wL_cons <| wE_app <| wL_cons <| wE_var rfl <| wL_nil <| wM_lenDL ?_
  rw [List.length_map, List.length_map, hpl, htl]
  refine wL_cons <| wE_int <| wL_nil <| wM_of (v := .dat (.int (((t.length + 1 : Nat) : Int) + 55))) (μ' := μ) rfl <| wL_nil ?_
  refine wM_of (v := .dat (.bl (decide ((((nLines t * 55 : Nat) : Int) ≥ ((t.length + 1 : Nat) : Int) + 55))))) (μ' := μ) rfl ⟨_, rfl, iteZ (decide_eq_false (by omega)) ?_⟩
  refine wT_not <| wT_tr <| wE_call <| wL_cons <| wE_call <| wL_cons <| wE_app <| wL_cons <| wE_var rfl <| wL_nil <| wM_lstD <| wL_nil ?_
  refine wM_of (run_text_of n 15 μ (linesOf t) (by rw [linesOf_len]; omega) (fun l h => by rw [line_len h]; decide) hn hS) ?_
  rw [textOf_good hTd.sg (good_lines hTd.sg (by omega))]
  refine wL_cons <| wE_app <| wL_cons <| wE_str <| wL_cons <| wE_var rfl <| wL_nil ?_
  refine wM_of (v := .dat (ttD (.text t))) (μ' := μ) rfl <| wL_nil ?_
  obtain ⟨o1, o2⟩ := tt_ok t hTd.sg
  dsimp only [cf19]
  exact wM_of (run_same n μ hn hS 19 _ o1 (by omega)) (wB_of (b := true) rfl ⟨rfl, rfl⟩)
end
end K54

namespace K54
open PySem PySem.Spec PyProof.Rows L2 EV
local macro_rules | `(tactic| walk_at "ev1") => `(tactic| with_reducible first
  | (refine' wE_var ?hh ?_; (case hh => with_unfolding_all exact rfl)) | refine wE_int ?_ | refine wE_str ?_ | refine wE_non ?_ | refine wE_bl ?_ | refine wL_nil ?_ | refine wL_cons ?_
  | refine wE_app ?_ | refine wE_bm ?_ | refine wE_sl ?_ | refine wO_no ?_ | refine wO_so ?_ | refine wE_call ?_
  | refine wE_ifx ?_ | refine wE_and ?_ | refine wE_or ?_ | refine wE_chain ?_ | refine wE_frz ?_ | refine wE_lc ?_
  | refine wT_tr ?_ | refine wT_bv ?_ | refine wT_and ?_ | refine wT_or ?_ | refine wT_not ?_ | refine wT_yes ?_
  | refine wS_seq ?_ | refine wS_set ?_ | refine wS_asg ?_ | refine wS_setI ?_ | refine wS_drop ?_ | refine wS_ret ?_ | refine wS_retN ?_ | refine wS_nx ?_ | refine wS_brk ?_ | refine wS_cnt ?_
  | refine kSeq_nx ?_ | refine kSeq_rt ?_ | refine kSeq_bk ?_ | refine kSeq_ct ?_)
local macro_rules | `(tactic| walk_at "ev2") => `(tactic| first
  | ((with_reducible refine' wM_ixB ?hh ?hi ?_); (case hh => first | assumption | exact get_snoc_eq); (case hi => exact rfl)) | (with_reducible refine wM_lenDL ?_) | (with_reducible refine wM_eqI ?_) | (with_reducible refine wM_neI ?_) | (with_reducible refine wM_slL ?_) | (with_reducible refine wM_mul (by omega) ?_) | (with_reducible refine wM_mod (by first | assumption | decide) ?_) | (with_reducible refine wM_div (by first | assumption | decide) ?_)
  | ((with_reducible refine' wM_of ?hh ?_); (case hh => exact rfl)) | ((with_reducible refine' wB_of ?hh ?_); (case hh => exact rfl))
  | ((with_reducible refine' iteY ?hb ?_); (case hb => exact rfl)) | ((with_reducible refine' iteZ ?hb ?_); (case hb => exact rfl)) | refine ⟨_, rfl, ?_⟩ | refine ⟨rfl, ?_⟩ | refine ⟨_, _, _, _, rfl, rfl, (by first | assumption | exact get_snoc_eq), rfl, ?_⟩ | refine ⟨_, _, _, _, rfl, rfl, rfl, rfl, ?_⟩ | refine ⟨_, _, _, rfl, rfl, rfl, rfl, ?_⟩ | refine ⟨_, _, rfl, rfl, rfl, ?_⟩)
local macro_rules | `(tactic| walk_at "done") => `(tactic| first | exact rfl | exact ⟨rfl, rfl⟩ | exact ⟨_, rfl, rfl⟩ | exact ⟨_, _, rfl, rfl⟩ | exact ⟨rfl, _, rfl, rfl⟩ | exact ⟨rfl, _, _, rfl, rfl⟩)
local macro_rules | `(tactic| walk_at "ev") => `(tactic| repeat (first | walk_at "ev1" | walk_at "ev2"))
/-! ### the law: wrong numbers -/
theorem wM_isiL {b : Nat} {us : List Val} {T : String} {r : Bool} {μ : Store} {Q : KE} (h : μ[b]? = some (.lst us)) (e : isiB "list" T = some r) (q : Q (.dat (.bl r)) μ) : wM ((oIsi T).sem [.box b] μ) Q := by
  refine ⟨_, _, ?_, q⟩
  show (match tyOf (.box b) μ with
      | some t => match isiB t T with
        | some b => some (Val.dat (.bl b), μ)
        | none => none
      | none => none) = _
  have : tyOf (.box b) μ = some "list" := by
    unfold tyOf
    simp only [h]
  rw [this]
  simp only [e]
theorem valP_box {b : Nat} {ns : List Int} {μ : Store} (h : μ[b]? = some (.lst (vint ns))) : valP (.box b) μ = some (.list (ns.map .int)) := by
  unfold valP
  simp only [lstOf_box h]
  rw [datsOf_map, Option.map_some, toPs_ints]
theorem run_sameB (n k : Nat) (μ : Store) (b : Nat) (ns : List Int) (hb : μ[b]? = some (.lst (vint ns))) (hl : ns.length ≤ 1000) (hn : 100000 < n) (hS : Shut μ) :
    evCall pr n (k + 2) 27 [.dat (.lst (dint ns)), .box b] μ = some (.dat (.bl true), μ) := by
  refine run_of2 [some (.dat (.lst (dint ns))), some (.box b), none, none] rfl rfl rfl ?_
  unfold R__law_same
  refine wS_seq <| wS_ifs <| wT_tr <| wE_app <| wL_cons <| wE_var rfl <| wL_nil <| wM_isiL hb (r := false) (by decide) <| wB_of (b := false) rfl <| iteZ rfl <| wS_nx <| kSeq_nx ?_
  refine wS_seq <| wS_ifs <| wT_or <| wT_tr <| wE_app <| wL_cons <| wE_var rfl <| wL_nil <| wM_isiL hb (r := true) (by decide) <| wB_of (b := true) rfl <| iteY rfl <| iteY rfl ?_
  refine wS_seq <| wS_ifs <| wT_or <| wT_bv <| wE_app <| wL_cons <| wE_app <| wL_cons <| wE_var rfl <| wL_nil <| wM_isiL hb (r := true) (by decide) ?_
  refine wL_cons <| wE_app <| wL_cons <| wE_var rfl <| wL_nil <| wM_of (v := .dat (.bl true)) (μ' := μ) rfl <| wL_nil <| wM_of (v := .dat (.bl false)) (μ' := μ) rfl ⟨_, rfl, iteZ rfl ?_⟩
  refine wT_bv <| wE_app <| wL_cons <| wE_app <| wL_cons <| wE_var rfl <| wL_nil <| wM_isiL hb (r := false) (by decide) ?_
  refine wL_cons <| wE_app <| wL_cons <| wE_var rfl <| wL_nil <| wM_of (v := .dat (.bl false)) (μ' := μ) rfl <| wL_nil <| wM_of (v := .dat (.bl false)) (μ' := μ) rfl ⟨_, rfl, iteZ rfl <| wS_nx <| kSeq_nx ?_⟩
  refine wS_ret <| wE_and <| wE_app <| wL_cons <| wE_app <| wL_cons <| wE_var rfl <| wL_nil <| wM_lenDL ?_
  refine wL_cons <| wE_app <| wL_cons <| wE_var rfl <| wL_nil <| wM_lenL (us := vint ns) (fun z e => by cases e) (seqOf_box hb) ?_
  rw [List.length_map, List.length_map, List.length_map]
  refine wL_nil <| wM_eqI ⟨_, rfl, iteY (decide_eq_true rfl) ?_⟩
  refine wE_app (wL_cons (wE_lc (wL_cons (wE_app (wL_cons (wE_var rfl (wL_nil ?_)))))))
  refine wM_lenL (us := vint ns) (fun z e => by cases e) (seqOf_box hb) ?_
  rw [List.length_map, List.length_map]
  refine wL_nil ⟨_, r1_sem ⟨by omega, by omega⟩, rfl, ?_⟩
  rw [Int.toNat_natCast]
  refine lcMR (fun _ => .dat (.bl true)) ?_ ?_ (fun j hj => ?_) ?_
  · show _ < n; omega
  · rw [szl]; omega
  · refine lcStep_map (ρ2 := [some (.dat (.lst (dint ns))), some (.box b), none, some (.dat (.int (0 + (j : Nat) * 1)))]) rfl ?_
    have hg : (dint ns)[j]? = some (.int ns[j]) := by rw [List.getElem?_map, List.getElem?_eq_getElem hj]; rfl
    have hg2 : (vint ns)[j]? = some (.dat (.int ns[j])) := by rw [List.getElem?_map, hg]; rfl
    refine wE_call <| wL_cons <| wE_app <| wL_cons <| wE_var rfl <| wL_cons <| wE_var rfl <| wL_nil <| wM_ixD (atI_at (j := j) (by omega) hg) ?_
    refine wL_cons <| wE_app <| wL_cons <| wE_var rfl <| wL_cons <| wE_var rfl <| wL_nil <| wM_ixB hb (atI_at (j := j) (by omega) hg2) <| wL_nil ?_
    exact wM_of (run_same n μ hn hS (k + 1) (.int ns[j]) rfl (by show 1 ≤ _; omega)) ⟨rfl, rfl⟩
  · refine mk_dats (ds := (List.range ns.length).map fun _ => .bl true) (by simp [rgL]) (wL_nil ?_)
    refine wM_allB (bs := (List.range ns.length).map fun _ => true) (by show some _ = _; simp) ?_
    rw [show ((List.range ns.length).map fun _ => true).all id = true by simp]
    exact fin_same hS
/-- only the pool and one box have changed -/
def Mb (ns : List Int) (m : Nat) (μ μ' : Store) : Prop := TS ns μ' ∧ μ'.length = μ.length ∧ ∀ i, i ≠ 0 → i ≠ m → μ'[i]? = μ[i]?
inductive Chg (N : List Int) : List Int → List Int → Prop
  | nil : Chg N [] N
  | snoc {ps xs : List Int} {p x y : Int} : Chg N ps xs → xs[p.toNat]? = some x → y ≠ x → 0 ≤ y ∧ y < 97 → Chg N (ps ++ [p]) (xs.set p.toNat y)
theorem Chg.len {N ps xs : List Int} (h : Chg N ps xs) : xs.length = N.length := by
  induction h with
  | nil => rfl
  | snoc _ _ _ _ ih => rw [List.length_set, ih]
theorem Chg.bd {N ps xs : List Int} (h : Chg N ps xs) (hN : ∀ x ∈ N, 0 ≤ x ∧ x < 97) : ∀ x ∈ xs, 0 ≤ x ∧ x < 97 := by
  induction h with
  | nil => exact hN
  | snoc _ _ _ hy ih =>
    intro z hz
    rcases List.mem_or_eq_of_mem_set hz with h | rfl
    · exact ih z h
    · exact hy
theorem Chg.zero {N xs : List Int} (h : Chg N [] xs) : xs = N := by
  generalize e : ([] : List Int) = ps at h
  cases h with
  | nil => rfl
  | snoc _ _ _ _ => simp at e
theorem Chg.back {N ps xs : List Int} {p : Int} (h : Chg N (ps ++ [p]) xs) : ∃ xs' x y, Chg N ps xs' ∧ xs'[p.toNat]? = some x ∧ y ≠ x ∧ (0 ≤ y ∧ y < 97) ∧ xs = xs'.set p.toNat y := by
  generalize e : ps ++ [p] = qs at h
  cases h with
  | nil => simp at e
  | snoc a b c d =>
    obtain ⟨rfl, e2⟩ := List.append_inj' e rfl
    cases e2
    exact ⟨_, _, _, a, b, c, d, rfl⟩
/-- places -/
def Pl (ps : List Int) : Prop := ps = [] ∨ (∃ a, ps = [a] ∧ 0 ≤ a ∧ a < 60) ∨ ∃ a b, ps = [a, b] ∧ a ≠ b ∧ (0 ≤ a ∧ a < 60) ∧ (0 ≤ b ∧ b < 60)
theorem Pl.bd {ps : List Int} (h : Pl ps) : ps.length ≤ 2 ∧ ∀ p ∈ ps, 0 ≤ p ∧ p < 60 := by
  rcases h with rfl | ⟨a, rfl, h1⟩ | ⟨a, b, rfl, _, h1, h2⟩
  · exact ⟨by decide, fun p h => by cases h⟩
  · exact ⟨by show 1 ≤ 2; decide, fun p h => by rw [List.eq_of_mem_singleton h]; exact h1⟩
  · refine ⟨by show 2 ≤ 2; decide, fun p h => ?_⟩
    rcases List.mem_cons.mp h with rfl | h
    · exact h1
    · rw [List.eq_of_mem_singleton h]; exact h2
theorem pl_dif {ds : List Int} (hl : ds.length ≤ 2) (h : ∀ d ∈ ds, 0 ≤ d ∧ d < 60) : Pl (dif [] ds) := by
  cases ds with
  | nil => exact .inl rfl
  | cons a ds =>
    have ha := h a (List.mem_cons_self ..)
    cases ds with
    | nil => exact .inr (.inl ⟨a, rfl, ha⟩)
    | cons b ds =>
      have hb := h b (by simp)
      cases ds with
      | cons c ds => simp at hl
      | nil =>
        by_cases e : b ∈ [a]
        · refine .inr (.inl ⟨a, ?_, ha⟩)
          show (if b ∈ [a] then dif [a] [] else dif [a, b] []) = _
          rw [if_pos e]
          rfl
        · refine .inr (.inr ⟨a, b, ?_, fun h => e (by rw [h]; simp), ha, hb⟩)
          show (if b ∈ [a] then dif [a] [] else dif [a, b] []) = _
          rw [if_neg e]
          rfl
/-- what a changed line tells -/
theorem chg_line {t : List Nat} {i : Nat} {ps xs : List Int} (hTd : Told t) (hi : i < nLines t) (hp : Pl ps) (h : Chg (lnN t i) ps xs) :
    (ps.length < 2 ∧ righted xs = some (lnN t i) ∧ signsIn (flatD xs) ((i : Int) + 1) = some (chunk t i)) ∨ (ps.length = 2 ∧ righted xs = none ∧ signsIn (flatD xs) ((i : Int) + 1) = none) := by
  obtain ⟨k1, k2, k3⟩ := ln_ok hTd hi
  have hl : t.length ≤ 40000 := by have := hTd.len; omega
  have fin1 : righted xs = some (lnN t i) → signsIn (flatD xs) ((i : Int) + 1) = some (chunk t i) := fun e => signs_right (h.bd k2) (h.len.trans k1) e (chunk_len hi)
  rcases hp with rfl | ⟨a, rfl, ha⟩ | ⟨a, b, rfl, hab, ha, hb⟩
  · have := h.zero
    subst this
    have e := righted_zero k3
    exact .inl ⟨by decide, e, fin1 e⟩
  · obtain ⟨xs', x, y, h0, hx, hne, hy, rfl⟩ := Chg.back (ps := []) h
    have := h0.zero
    subst this
    have e := righted_one k3 k1 hx (k2 x (List.mem_of_getElem? hx)) hy hne
    exact .inl ⟨by show 1 < 2; decide, e, fin1 e⟩
  · obtain ⟨xs1, x2, y2, h1, hx2, hne2, hy2, rfl⟩ := Chg.back (ps := [a]) h
    obtain ⟨xs0, x1, y1, h0, hx1, hne1, hy1, rfl⟩ := Chg.back (ps := []) h1
    have := h0.zero
    subst this
    have hab2 : a.toNat ≠ b.toNat := by omega
    rw [List.getElem?_set_ne hab2] at hx2
    obtain ⟨e1, e2⟩ := bad_two hTd.sg hl hi hab2 hx1 hx2 hy1 hne1 hy2 hne2
    exact .inr ⟨rfl, e1, e2⟩
section
variable {n : Nat} {ns : List Int} {V : D} {x3 x5 x6 x7 x8 x13 x14 x15 x16 x17 x19 x20 x21 : Option Val} {μ : Store} {Q : KS}
theorem place_ok {ρ : Rho} {m : Nat} {xs : List Int} {p : Int} (h1 : ρ[1]? = some (some (.box 0))) (h14 : ρ[14]? = some (some (.box m))) (h19 : ρ[19]? = some (some (.dat (.int p)))) (hp : 0 ≤ p ∧ p < 60) (hm0 : m ≠ 0) (hm : μ[m]? = some (.lst (vint xs))) (hl : xs.length = 60) (hT : TS ns μ)
    (q : ∀ x y μ', xs[p.toNat]? = some x → ((0 ≤ x ∧ x < 97) → y ≠ x) → 0 ≤ y ∧ y < 97 → μ'[m]? = some (.lst (vint (xs.set p.toNat y))) → Mb ns m μ μ' → Q .nx ρ μ') : wS (cf19 n) LW11bbb ρ μ Q := by
  unfold LW11bbb
  have hlt : p.toNat < xs.length := by omega
  obtain ⟨x, hx⟩ : ∃ x, xs[p.toNat]? = some x := ⟨xs[p.toNat], List.getElem?_eq_getElem hlt⟩
  have hx2 : (vint xs)[p.toNat]? = some (.dat (.int x)) := by rw [List.getElem?_map, List.getElem?_map, hx]; rfl
  refine wS_setI <| wE_app <| wL_cons <| wE_app <| wL_cons <| wE_app <| wL_cons <| wE_app <| wL_cons <| wE_app <| wL_cons <| wE_var h14 <| wL_cons <| wE_var h19 <| wL_nil ?_
  refine wM_ixB hm (atI_at (j := p.toNat) (by omega) hx2) <| wL_cons <| wE_int <| wL_nil <| wM_of (v := .dat (.int (x + 1))) (μ' := μ) rfl ?_
  obtain ⟨v, μ1, e1, hv, hm1⟩ := ts_draw (n := n) (k := 16) 96 (by decide) hT
  refine wL_cons <| wE_call <| wL_cons <| wE_var h1 <| wL_cons <| wE_int <| wL_nil <| wM_of e1 <| wL_nil ?_
  refine wM_of (v := .dat (.int (x + 1 + v))) (μ' := μ1) rfl <| wL_nil <| wM_of (v := .dat (.int (x + 1 + v))) (μ' := μ1) rfl <| wL_cons <| wE_int <| wL_nil <| wM_mod (by decide) ?_
  generalize hy : (x + 1 + (v : Int)) % 97 = y
  have hmm : μ1[m]? = some (.lst (vint xs)) := by rw [hm1.2.2 m hm0]; exact hm
  have hix : ixN (vint xs).length p = some p.toNat := by
    have := ixN_nat (n := (vint xs).length) (j := p.toNat) (by simpa [vint] using hlt)
    rwa [show ((p.toNat : Nat) : Int) = p by omega] at this
  refine wE_var h14 <| wE_var h19 ⟨m, p, _, p.toNat, rfl, rfl, hmm, hix, ?_⟩
  refine q x y _ hx (fun hb => by omega) (by omega) ?_ ⟨?_, by rw [List.length_set]; exact hm1.2.1, fun i h0 hi => by rw [set_ne (fun e => hi e.symm)]; exact hm1.2.2 i h0⟩
  · rw [set_get hmm, vint, vint, List.map_set, List.map_set]
  · obtain ⟨⟨a, b, c, hp0, ha⟩, hS⟩ := hm1.1
    refine ⟨⟨a, b, c, by rw [set_ne hm0]; exact hp0, ha⟩, shut_set hS ?_⟩
    have := soOk_dats μ1.length (dint (xs.set p.toNat y))
    rw [dint, List.map_set, List.map_set] at this
    exact this
theorem places_ok {t : List Nat} {m : Nat} {N ps : List Int} (hn : 100000 < n) (hp : Pl ps) (hm0 : m ≠ 0) (hm : μ[m]? = some (.lst (vint N))) (hl : N.length = 60) (hN : ∀ x ∈ N, 0 ≤ x ∧ x < 97) (hT : TS ns μ)
    (q : ∀ x19 xs μ', Chg N ps xs → μ'[m]? = some (.lst (vint xs)) → Mb ns m μ μ' → Q .nx (RB ns V t x3 x5 x6 x7 x8 x13 (some (.box m)) x15 x16 (some (.dat (.lst (dint ps)))) x19 x20 x21) μ') :
    wS (cf19 n) (.forr itL (.cons (.var 17) .nil) (.nm 19) LW11bbb) (RB ns V t x3 x5 x6 x7 x8 x13 (some (.box m)) x15 x16 (some (.dat (.lst (dint ps)))) x19 x20 x21) μ Q := by
  obtain ⟨hpl, hpb⟩ := hp.bd
  refine wS_for <| wL_cons <| wE_var rfl <| wL_nil ⟨_, l_sem (v := .dat (.lst (dint ps))) (us := vint ps) rfl, ?_⟩
  refine for_inv (fun i ρ' μ' => ∃ x19 xs, ρ' = RB ns V t x3 x5 x6 x7 x8 x13 (some (.box m)) x15 x16 (some (.dat (.lst (dint ps)))) x19 x20 x21 ∧ Chg N (ps.take i) xs ∧ μ'[m]? = some (.lst (vint xs)) ∧ Mb ns m μ μ' ∧ i ≤ ps.length) ?_ ps.length (fun i ρ μ' ⟨_, _, _, _, _, _, h⟩ => h) n 0 _ _ ⟨x19, N, rfl, .nil, hm, ⟨hT, rfl, fun _ _ _ => rfl⟩, Nat.zero_le _⟩ (by omega)
  rintro i _ μ1 ⟨x19, xs, rfl, hc, hm1, hk, hi⟩
  refine ⟨_, nxL_at rfl, ?_⟩
  by_cases hlt : i < ps.length
  · have hge : (vint ps)[i]? = some (.dat (.int ps[i])) := by rw [List.getElem?_map, List.getElem?_map, List.getElem?_eq_getElem hlt]; rfl
    rw [hge]
    refine wR_for (ρ2 := RB ns V t x3 x5 x6 x7 x8 x13 (some (.box m)) x15 x16 (some (.dat (.lst (dint ps)))) (some (.dat (.int ps[i]))) x20 x21) rfl ?_
    refine place_ok rfl rfl rfl (hpb _ (List.getElem_mem hlt)) hm0 hm1 (hc.len.trans hl) hk.1 fun x y μ' hx hne hy hm2 hk2 => ?_
    refine ⟨_, _, rfl, ?_, hm2, ⟨hk2.1, hk2.2.1.trans hk.2.1, fun j h0 hj => (hk2.2.2 j h0 hj).trans (hk.2.2 j h0 hj)⟩, hlt⟩
    rw [List.take_succ_eq_append_getElem hlt]
    exact .snoc hc hx (hne (hc.bd hN x (List.mem_of_getElem? hx))) hy
  · have hge : (vint ps)[i]? = none := by rw [List.getElem?_eq_none]; simp [vint]; omega
    rw [hge]
    have : i = ps.length := by omega
    subst this
    rw [List.take_length] at hc
    exact q _ _ _ hc hm1 hk
end
end K54

namespace K54
open PySem PySem.Spec PyProof.Rows L2 EV
local macro_rules | `(tactic| walk_at "ev1") => `(tactic| with_reducible first
  | (refine' wE_var ?hh ?_; (case hh => with_unfolding_all exact rfl)) | refine wE_int ?_ | refine wE_str ?_ | refine wE_non ?_ | refine wE_bl ?_ | refine wL_nil ?_ | refine wL_cons ?_
  | refine wE_app ?_ | refine wE_bm ?_ | refine wE_sl ?_ | refine wO_no ?_ | refine wO_so ?_ | refine wE_call ?_
  | refine wE_ifx ?_ | refine wE_and ?_ | refine wE_or ?_ | refine wE_chain ?_ | refine wE_frz ?_ | refine wE_lc ?_
  | refine wT_tr ?_ | refine wT_bv ?_ | refine wT_and ?_ | refine wT_or ?_ | refine wT_not ?_ | refine wT_yes ?_
  | refine wS_seq ?_ | refine wS_set ?_ | refine wS_asg ?_ | refine wS_setI ?_ | refine wS_drop ?_ | refine wS_ret ?_ | refine wS_retN ?_ | refine wS_nx ?_ | refine wS_brk ?_ | refine wS_cnt ?_
  | refine kSeq_nx ?_ | refine kSeq_rt ?_ | refine kSeq_bk ?_ | refine kSeq_ct ?_)
local macro_rules | `(tactic| walk_at "ev2") => `(tactic| first
  | ((with_reducible refine' wM_ixB ?hh ?hi ?_); (case hh => first | assumption | exact get_snoc_eq); (case hi => exact rfl)) | (with_reducible refine wM_lenDL ?_) | (with_reducible refine wM_eqI ?_) | (with_reducible refine wM_neI ?_) | (with_reducible refine wM_slL ?_) | (with_reducible refine wM_mul (by omega) ?_) | (with_reducible refine wM_mod (by first | assumption | decide) ?_) | (with_reducible refine wM_div (by first | assumption | decide) ?_)
  | ((with_reducible refine' wM_of ?hh ?_); (case hh => exact rfl)) | ((with_reducible refine' wB_of ?hh ?_); (case hh => exact rfl))
  | ((with_reducible refine' iteY ?hb ?_); (case hb => exact rfl)) | ((with_reducible refine' iteZ ?hb ?_); (case hb => exact rfl)) | refine ⟨_, rfl, ?_⟩ | refine ⟨rfl, ?_⟩ | refine ⟨_, _, _, _, rfl, rfl, (by first | assumption | exact get_snoc_eq), rfl, ?_⟩ | refine ⟨_, _, _, _, rfl, rfl, rfl, rfl, ?_⟩ | refine ⟨_, _, _, rfl, rfl, rfl, rfl, ?_⟩ | refine ⟨_, _, rfl, rfl, rfl, ?_⟩)
local macro_rules | `(tactic| walk_at "done") => `(tactic| first | exact rfl | exact ⟨rfl, rfl⟩ | exact ⟨_, rfl, rfl⟩ | exact ⟨_, _, rfl, rfl⟩ | exact ⟨rfl, _, rfl, rfl⟩ | exact ⟨rfl, _, _, rfl, rfl⟩)
local macro_rules | `(tactic| walk_at "ev") => `(tactic| repeat (first | walk_at "ev1" | walk_at "ev2"))
/-- lines so far: where the first wrong one is -/
def Sem (t : List Nat) (rows : List (List Nat)) (bad : List Int) (i : Nat) : Prop :=
  (bad = [] ∧ ∀ j, j < i → signsIn (rows.getD j []) ((j : Int) + 1) = some (chunk t j)) ∨
  ∃ b r, bad = (((b : Nat) : Int) + 1) :: r ∧ b < i ∧ (∀ j, j < b → signsIn (rows.getD j []) ((j : Int) + 1) = some (chunk t j)) ∧ signsIn (rows.getD b []) ((b : Int) + 1) = none
structure DI (ns : List Int) (t : List Nat) (p q : Nat) (μ : Store) (rows : List (List Nat)) (bad : List Int) (i : Nat) : Prop where
  ts : TS ns μ
  p0 : p ≠ 0
  q0 : q ≠ 0
  pq : p ≠ q
  hp : μ[p]? = some (.lst ((dstr rows).map .dat))
  hq : μ[q]? = some (.lst (vint bad))
  len : rows.length = i
  bl : bad.length ≤ i
  l120 : ∀ l ∈ rows, l.length = 120
  sem : Sem t rows bad i
theorem getD_app {rows : List (List Nat)} {l : List Nat} {j : Nat} (h : j < rows.length) : (rows ++ [l]).getD j [] = rows.getD j [] := by
  rw [List.getD_eq_getElem?_getD, List.getD_eq_getElem?_getD, List.getElem?_append_left h]
theorem getD_last {rows : List (List Nat)} {l : List Nat} : (rows ++ [l]).getD rows.length [] = l := by
  rw [List.getD_eq_getElem?_getD, get_snoc_eq]
  rfl
theorem Sem.good {t : List Nat} {rows : List (List Nat)} {bad : List Int} {i : Nat} {l : List Nat} (h : Sem t rows bad i) (hl : rows.length = i) (e : signsIn l ((i : Int) + 1) = some (chunk t i)) : Sem t (rows ++ [l]) bad (i + 1) := by
  rcases h with ⟨h1, h2⟩ | ⟨b, r, h1, h2, h3, h4⟩
  · refine .inl ⟨h1, fun j hj => ?_⟩
    by_cases hji : j < i
    · rw [getD_app (by omega)]
      exact h2 j hji
    · have : j = rows.length := by omega
      subst this
      rw [getD_last, hl]
      exact e
  · refine .inr ⟨b, r, h1, by omega, fun j hj => ?_, ?_⟩
    · rw [getD_app (by omega)]
      exact h3 j hj
    · rw [getD_app (by omega)]
      exact h4
theorem Sem.bad {t : List Nat} {rows : List (List Nat)} {bad : List Int} {i : Nat} {l : List Nat} (h : Sem t rows bad i) (hl : rows.length = i) (e : signsIn l ((i : Int) + 1) = none) : Sem t (rows ++ [l]) (bad ++ [(i : Int) + 1]) (i + 1) := by
  rcases h with ⟨rfl, h2⟩ | ⟨b, r, rfl, h2, h3, h4⟩
  · refine .inr ⟨i, [], rfl, by omega, fun j hj => ?_, ?_⟩
    · rw [getD_app (by omega)]
      exact h2 j hj
    · rw [← hl, getD_last, hl]
      exact e
  · refine .inr ⟨b, r ++ [(i : Int) + 1], rfl, by omega, fun j hj => ?_, ?_⟩
    · rw [getD_app (by omega)]
      exact h3 j hj
    · rw [getD_app (by omega)]
      exact h4
theorem ints_of {P : Int → Prop} : ∀ {ds : List D}, (∀ d ∈ ds, ∃ x, d = .int x ∧ P x) → ∃ xs : List Int, ds = dint xs ∧ ∀ x ∈ xs, P x
  | [], _ => ⟨[], rfl, fun x h => by cases h⟩
  | d :: ds, h => by
    obtain ⟨x, rfl, hx⟩ := h d (List.mem_cons_self ..)
    obtain ⟨xs, rfl, hxs⟩ := ints_of fun e he => h e (List.mem_cons_of_mem _ he)
    exact ⟨x :: xs, rfl, fun y hy => by
      rcases List.mem_cons.mp hy with rfl | hy
      · exact hx
      · exact hxs y hy⟩
section
variable {n : Nat} {ns : List Int} {V : D} {x3 x6 x8 x13 x14 x15 x16 x17 x19 x20 x21 : Option Val} {μ : Store} {Q : KS}
theorem ts_app {s : SO} (h : TS ns μ) (hs : soOk (μ.length + 1) s = true) : TS ns (μ ++ [s]) := by
  obtain ⟨⟨a, b, c, hp0, ha⟩, hS⟩ := h
  exact ⟨⟨a, b, c, get_snoc_lt hp0, ha⟩, shut_app hS hs⟩
theorem ts_set {s : SO} {p : Nat} (h : TS ns μ) (hp : p ≠ 0) (hs : soOk μ.length s = true) : TS ns (μ.set p s) := by
  obtain ⟨⟨a, b, c, hp0, ha⟩, hS⟩ := h
  exact ⟨⟨a, b, c, by rw [set_ne hp]; exact hp0, ha⟩, shut_set hS hs⟩
theorem k_turn {t : List Nat} {p q i u : Nat} {rows : List (List Nat)} {bad : List Int} (hn : 100000 < n) (hTd : Told t) (hi : i < nLines t) (hD : DI ns t p q μ rows bad i)
    (qq : ∀ x14 x16 x17 x19 μ' l bad', DI ns t p q μ' (rows ++ [l]) bad' (i + 1) → Q .nx (RB ns V t (some (.dat (.int (i : Nat)))) (some (.dat (.int (u : Nat)))) x6 (some (.box p)) x8 x13 x14 (some (.box q)) x16 x17 x19 x20 x21) μ') :
    wS (cf19 n) LW11bb (RB ns V t (some (.dat (.int (i : Nat)))) (some (.dat (.int (u : Nat)))) x6 (some (.box p)) x8 x13 x14 (some (.box q)) x16 x17 x19 x20 x21) μ Q := by
  unfold LW11bb
  obtain ⟨hT, p0, q0, pq, hp, hq, hrl, hbl, h120, hsem⟩ := hD
  have hl := hTd.len
  have hnl : nLines t ≤ 72 := by unfold nLines; omega
  obtain ⟨k1, k2, k3⟩ := ln_ok hTd hi
  generalize hN : lnN t i = N at *
  have hpl := (List.getElem?_eq_some_iff.mp hp).1
  have hql := (List.getElem?_eq_some_iff.mp hq).1
  -- the numbers
  refine wS_seq <| wS_set <| wE_call <| wL_cons <| wE_line rfl rfl hi <| wL_nil ?_
  rw [hN]
  refine wM_of (run_law_numbers n 18 μ N k2 k1 hn hT.2) <| kSeq_nx ?_
  have hT1 : TS ns (μ ++ [.lst (vint N)]) := ts_app hT (soOk_dats _ (dint N))
  have m0 : μ.length ≠ 0 := by omega
  have hm1 : (μ ++ [SO.lst (vint N)])[μ.length]? = some (.lst (vint N)) := get_snoc_eq
  have hp1 : (μ ++ [SO.lst (vint N)])[p]? = some (.lst ((dstr rows).map .dat)) := get_snoc_lt hp
  have hq1 : (μ ++ [SO.lst (vint N)])[q]? = some (.lst (vint bad)) := get_snoc_lt hq
  have pm : p ≠ μ.length := by omega
  have qm : q ≠ μ.length := by omega
  generalize μ ++ [SO.lst (vint N)] = μ1 at *
  generalize μ.length = m at *
  clear hT hp hq hpl hql
  -- how many
  refine wS_seq <| wS_mid (fun ρ' μ' => ∃ w : Nat, ρ' = RB ns V t (some (.dat (.int (i : Nat)))) (some (.dat (.int (u : Nat)))) x6 (some (.box p)) x8 x13 (some (.box m)) (some (.box q)) (some (.dat (.int (w : Nat)))) x17 x19 x20 x21 ∧ Mv ns μ1 μ') (wS_set <| wE_ifB (u < 3) ?_ (fun hu => ?_) (fun hu => ?_)) ?_
  · refine wT_bv <| wE_app <| wL_cons <| wE_var rfl <| wL_cons <| wE_int <| wL_nil <| wM_of (v := .dat (.bl (decide ((u : Int) < 3)))) (μ' := μ1) rfl ⟨_, rfl, ?_, rfl⟩
    congr 1
    exact propext ⟨fun h => by omega, fun h => by omega⟩
  · obtain ⟨w, μ2, e2, hw, hm2⟩ := ts_draw (n := n) (k := 16) 4 (by decide) hT1
    exact wE_call <| wL_cons <| wE_var rfl <| wL_cons <| wE_int <| wL_nil <| wM_of e2 ⟨rfl, w, rfl, hm2⟩
  · exact wE_int ⟨rfl, 0, rfl, Mv.refl hT1⟩
  rintro _ μ2 ⟨w, rfl, hv2⟩
  -- the places
  refine wS_seq <| wS_set <| wE_call <| wL_cons <| wE_lc <| wL_cons <| wE_then (V := .dat (.int ((if w < 3 then w else 0 : Nat) : Int))) ?_ <| wL_nil ⟨_, r1_sem ⟨by omega, by split <;> omega⟩, rfl, ?_⟩
  · refine wE_ifB (w < 3) ?_ (fun h => ?_) (fun h => ?_)
    · refine wT_bv <| wE_app <| wL_cons <| wE_var rfl <| wL_cons <| wE_int <| wL_nil <| wM_of (v := .dat (.bl (decide ((w : Int) < 3)))) (μ' := μ2) rfl ⟨_, rfl, ?_, rfl⟩
      congr 1
      exact propext ⟨fun h => by omega, fun h => by omega⟩
    · exact wE_var rfl ⟨by rw [if_pos h], rfl⟩
    · exact wE_int ⟨by rw [if_neg h]; rfl, rfl⟩
  rw [Int.toNat_natCast]
  have hc2 : (if w < 3 then w else 0) ≤ 2 := by split <;> omega
  refine lc_poolQ (by omega) (fun d => ∃ x, d = .int x ∧ 0 ≤ x ∧ x < 60) (fun j μ' hj hmm => ?_) hv2.1 hn (fun ds μ3 hdl hG hv3 => ?_)
  · obtain ⟨x, μ4, e4, hx, hm4⟩ := ts_draw (n := n) (k := 16) 60 (by decide) hmm.1
    refine lcStep_ex (ρ2 := (RB ns V t (some (.dat (.int (i : Nat)))) (some (.dat (.int (u : Nat)))) x6 (some (.box p)) x8 x13 (some (.box m)) (some (.box q)) (some (.dat (.int (w : Nat)))) x17 x19 x20 x21).set 18 (some (.dat (.int (0 + (j : Nat) * 1))))) rfl ?_
    exact wE_call <| wL_cons <| wE_var rfl <| wL_cons <| wE_int <| wL_nil <| wM_of e4 ⟨_, rfl, ⟨_, rfl, by omega, hx⟩, hm4⟩
  obtain ⟨xs, rfl, hxs⟩ := ints_of hG
  rw [List.length_map] at hdl
  refine mk_dats rfl <| wL_nil <| wM_of (run_different n 18 μ3 xs (by omega) hn hv3.1.2) <| kSeq_nx ?_
  have hPl : Pl (dif [] xs) := pl_dif (by omega) hxs
  generalize dif [] xs = ps at *
  have hv13 := hv2.trans hv3
  have hm3 : μ3[m]? = some (.lst (vint N)) := by rw [hv13.2.2 m m0]; exact hm1
  have hp3 : μ3[p]? = some (.lst ((dstr rows).map .dat)) := by rw [hv13.2.2 p p0]; exact hp1
  have hq3 : μ3[q]? = some (.lst (vint bad)) := by rw [hv13.2.2 q q0]; exact hq1
  have hT3 := hv13.1
  clear hv13 hv3 hv2 hm1 hp1 hq1 hT1
  refine wS_seq <| places_ok hn hPl m0 hm3 k1 k2 hT3 fun x19 ys μ4 hch hm4 hk4 => kSeq_nx ?_
  have hp4 : μ4[p]? = some (.lst ((dstr rows).map .dat)) := by rw [hk4.2.2 p p0 pm]; exact hp3
  have hq4 : μ4[q]? = some (.lst (vint bad)) := by rw [hk4.2.2 q q0 qm]; exact hq3
  have hT4 := hk4.1
  clear hm3 hp3 hq3 hT3 hk4
  have hyl := hch.len.trans k1
  have hyb := hch.bd k2
  obtain ⟨hpsl, _⟩ := hPl.bd
  rw [← hN] at hch
  have hcl := chg_line hTd hi hPl hch
  rw [hN] at hcl
  have h120' : ∀ l ∈ rows ++ [flatD ys], l.length = 120 := fun l hl => by
    rcases List.mem_append.mp hl with hl | hl
    · exact h120 l hl
    · rw [List.eq_of_mem_singleton hl, flatD_len, hyl]
  -- what is behind the test of two
  have tail : ∀ (bad' : List Int) (μ5 : Store), TS ns μ5 → μ5[m]? = some (.lst (vint ys)) → μ5[p]? = some (.lst ((dstr rows).map .dat)) → μ5[q]? = some (.lst (vint bad')) → bad'.length ≤ i + 1 → Sem t (rows ++ [flatD ys]) bad' (i + 1) →
      wS (cf19 n) (.seq (.ifs (.not (.tr tTr (.call 27 (.cons (.call 14 (.cons (.app (oLst false) (.cons (.var 14) .nil)) .nil)) (.cons (.ifx (.bv (.app oLt (.cons (.app oLen (.cons (.var 17) .nil)) (.cons (.cst (.int 2)) .nil)))) (.call 31 (.cons (.app oIx (.cons (.var 12) (.cons (.var 3) .nil))) .nil)) (.cst .non)) .nil))))) (.ret (.cst (.bl false))) .nx) (.drop (.bm mAppend (.var 7) (.cons (.call 33 (.cons (.var 14) .nil)) .nil))))
        (RB ns V t (some (.dat (.int (i : Nat)))) (some (.dat (.int (u : Nat)))) x6 (some (.box p)) x8 x13 (some (.box m)) (some (.box q)) (some (.dat (.int (w : Nat)))) (some (.dat (.lst (dint ps)))) x19 x20 x21) μ5 Q := by
    intro bad' μ5 hT5 hm5 hp5 hq5 hb5 hs5
    have last : ∀ μ6, TS ns μ6 → μ6[m]? = some (.lst (vint ys)) → μ6[p]? = some (.lst ((dstr rows).map .dat)) → μ6[q]? = some (.lst (vint bad')) →
        wS (cf19 n) (.drop (.bm mAppend (.var 7) (.cons (.call 33 (.cons (.var 14) .nil)) .nil))) (RB ns V t (some (.dat (.int (i : Nat)))) (some (.dat (.int (u : Nat)))) x6 (some (.box p)) x8 x13 (some (.box m)) (some (.box q)) (some (.dat (.int (w : Nat)))) (some (.dat (.lst (dint ps)))) x19 x20 x21) μ6 Q := by
      intro μ6 hT6 hm6 hp6 hq6
      refine wS_drop <| wE_bm <| wE_var rfl ⟨isLst_box hp6, wL_cons <| wE_call <| wL_cons <| wE_var rfl <| wL_nil ?_⟩
      refine wM_of (run_law_line n 18 μ6 (.box m) ys (rdL_box hm6) hyb (by omega) (by omega) hT6.2) <| wL_nil ?_
      refine wM_appB hp6 (by rw [List.length_map, List.length_map, hrl, szl]; omega) ?_
      have e7 : (dstr rows).map Val.dat ++ [Val.dat (.str (st (flatD ys)))] = (dstr (rows ++ [flatD ys])).map Val.dat := by simp [dstr]
      rw [e7]
      refine qq _ _ _ _ _ _ bad' ⟨ts_set hT6 p0 (soOk_dats _ _), p0, q0, pq, set_get hp6, by rw [set_ne pq]; exact hq6, by rw [List.length_append, hrl]; rfl, hb5, h120', hs5⟩
    refine wS_seq <| wS_ifs <| wT_not <| wT_tr <| wE_call <| wL_cons <| wE_call <| wL_cons <| wE_app <| wL_cons <| wE_var rfl <| wL_nil <| wM_lst (ds := dint ys) (seqOf_box hm5) <| wL_nil ?_
    refine wM_of (run_righted n 17 μ5 _ ys rfl rfl hyl (by omega) hT5.2) ?_
    rcases hcl with ⟨c1, c2, _⟩ | ⟨c1, c2, _⟩
    · rw [c2]
      refine wL_cons <| wE_ifx <| wT_bv <| wE_app <| wL_cons <| wE_app <| wL_cons <| wE_var rfl <| wL_nil <| wM_lenDL ?_
      rw [List.length_map]
      refine wL_cons <| wE_int <| wL_nil <| wM_of (v := .dat (.bl (decide ((ps.length : Int) < 2)))) (μ' := μ5) rfl ⟨_, rfl, iteY (decide_eq_true (by omega)) ?_⟩
      refine wE_call <| wL_cons <| wE_line rfl rfl hi <| wL_nil ?_
      rw [hN]
      refine wM_of (run_law_numbers n 18 μ5 N k2 k1 hn hT5.2) <| wL_nil ?_
      have hT6 : TS ns (μ5 ++ [.lst (vint N)]) := ts_app hT5 (soOk_dats _ (dint N))
      have hsB := run_sameB n 17 (μ5 ++ [.lst (vint N)]) μ5.length N get_snoc_eq (by omega) hn hT6.2
      dsimp only [cf19]
      refine wM_of hsB <| wB_of (b := true) rfl <| iteZ rfl <| wS_nx <| kSeq_nx ?_
      exact last _ hT6 (get_snoc_lt hm5) (get_snoc_lt hp5) (get_snoc_lt hq5)
    · rw [c2]
      refine wL_cons <| wE_ifx <| wT_bv <| wE_app <| wL_cons <| wE_app <| wL_cons <| wE_var rfl <| wL_nil <| wM_lenDL ?_
      rw [List.length_map]
      refine wL_cons <| wE_int <| wL_nil <| wM_of (v := .dat (.bl (decide ((ps.length : Int) < 2)))) (μ' := μ5) rfl ⟨_, rfl, iteZ (decide_eq_false (by omega)) <| wE_non <| wL_nil ?_⟩
      dsimp only [cf19]
      refine wM_of (run_same n μ5 hn hT5.2 19 .non rfl (by decide)) <| wB_of (b := true) rfl <| iteZ rfl <| wS_nx <| kSeq_nx ?_
      exact last _ hT5 hm5 hp5 hq5
  refine wS_seq <| wS_ifB (ps.length = 2) ?_ (fun h2 => ?_) (fun h2 => ?_)
  · refine wT_bv <| wE_app <| wL_cons <| wE_app <| wL_cons <| wE_var rfl <| wL_nil <| wM_lenDL ?_
    rw [List.length_map]
    refine wL_cons <| wE_int <| wL_nil <| wM_eqI ⟨_, rfl, ?_, rfl⟩
    congr 1
    exact propext ⟨fun h => by omega, fun h => by omega⟩
  · refine wS_drop <| wE_bm <| wE_var rfl ⟨isLst_box hq4, wL_cons <| wE_app <| wL_cons <| wE_var rfl <| wL_cons <| wE_int <| wL_nil <| wM_of (v := .dat (.int ((i : Int) + 1))) (μ' := μ4) rfl <| wL_nil ?_⟩
    refine wM_appB hq4 (by rw [List.length_map, List.length_map, szl]; omega) <| kSeq_nx ?_
    have e7 : vint bad ++ [Val.dat (.int ((i : Int) + 1))] = vint (bad ++ [(i : Int) + 1]) := by simp [vint]
    rw [e7]
    refine tail (bad ++ [(i : Int) + 1]) _ (ts_set hT4 q0 (soOk_dats _ (dint (bad ++ [(i : Int) + 1])))) (by rw [set_ne qm]; exact hm4) (by rw [set_ne (fun e => pq e.symm)]; exact hp4) (set_get hq4) (by rw [List.length_append, List.length_singleton]; omega) ?_
    rcases hcl with ⟨c1, _⟩ | ⟨_, _, c3⟩
    · omega
    · exact hsem.bad hrl c3
  · refine wS_nx <| kSeq_nx <| tail bad _ hT4 hm4 hp4 hq4 (by omega) ?_
    rcases hcl with ⟨_, _, c3⟩ | ⟨c1, _⟩
    · exact hsem.good hrl c3
    · omega
end
end K54

namespace K54
open PySem PySem.Spec PyProof.Rows L2 EV
local macro_rules | `(tactic| walk_at "ev1") => `(tactic| with_reducible first
  | (refine' wE_var ?hh ?_; (case hh => with_unfolding_all exact rfl)) | refine wE_int ?_ | refine wE_str ?_ | refine wE_non ?_ | refine wE_bl ?_ | refine wL_nil ?_ | refine wL_cons ?_
  | refine wE_app ?_ | refine wE_bm ?_ | refine wE_sl ?_ | refine wO_no ?_ | refine wO_so ?_ | refine wE_call ?_
  | refine wE_ifx ?_ | refine wE_and ?_ | refine wE_or ?_ | refine wE_chain ?_ | refine wE_frz ?_ | refine wE_lc ?_
  | refine wT_tr ?_ | refine wT_bv ?_ | refine wT_and ?_ | refine wT_or ?_ | refine wT_not ?_ | refine wT_yes ?_
  | refine wS_seq ?_ | refine wS_set ?_ | refine wS_asg ?_ | refine wS_setI ?_ | refine wS_drop ?_ | refine wS_ret ?_ | refine wS_retN ?_ | refine wS_nx ?_ | refine wS_brk ?_ | refine wS_cnt ?_
  | refine kSeq_nx ?_ | refine kSeq_rt ?_ | refine kSeq_bk ?_ | refine kSeq_ct ?_)
local macro_rules | `(tactic| walk_at "ev2") => `(tactic| first
  | ((with_reducible refine' wM_ixB ?hh ?hi ?_); (case hh => first | assumption | exact get_snoc_eq); (case hi => exact rfl)) | (with_reducible refine wM_lenDL ?_) | (with_reducible refine wM_eqI ?_) | (with_reducible refine wM_neI ?_) | (with_reducible refine wM_slL ?_) | (with_reducible refine wM_mul (by omega) ?_) | (with_reducible refine wM_mod (by first | assumption | decide) ?_) | (with_reducible refine wM_div (by first | assumption | decide) ?_)
  | ((with_reducible refine' wM_of ?hh ?_); (case hh => exact rfl)) | ((with_reducible refine' wB_of ?hh ?_); (case hh => exact rfl))
  | ((with_reducible refine' iteY ?hb ?_); (case hb => exact rfl)) | ((with_reducible refine' iteZ ?hb ?_); (case hb => exact rfl)) | refine ⟨_, rfl, ?_⟩ | refine ⟨rfl, ?_⟩ | refine ⟨_, _, _, _, rfl, rfl, (by first | assumption | exact get_snoc_eq), rfl, ?_⟩ | refine ⟨_, _, _, _, rfl, rfl, rfl, rfl, ?_⟩ | refine ⟨_, _, _, rfl, rfl, rfl, rfl, ?_⟩ | refine ⟨_, _, rfl, rfl, rfl, ?_⟩)
local macro_rules | `(tactic| walk_at "done") => `(tactic| first | exact rfl | exact ⟨rfl, rfl⟩ | exact ⟨_, rfl, rfl⟩ | exact ⟨_, _, rfl, rfl⟩ | exact ⟨rfl, _, rfl, rfl⟩ | exact ⟨rfl, _, _, rfl, rfl⟩)
local macro_rules | `(tactic| walk_at "ev") => `(tactic| repeat (first | walk_at "ev1" | walk_at "ev2"))
theorem wM_addLB {a : List D} {b : Nat} {us : List D} {μ : Store} {Q : KE} (hb : μ[b]? = some (.lst (us.map .dat))) (h : a.length + us.length ≤ sizeLine) (q : Q (.dat (.lst (a ++ us))) μ) : wM ((oAdd false).sem [.dat (.lst a), .box b] μ) Q := by
  refine ⟨_, _, ?_, q⟩
  show (match lstOf (.dat (.lst a)) μ, lstOf (.box b) μ with
      | some xs, some ys => if xs.length + ys.length ≤ sizeLine then mkL false (xs ++ ys) μ else none
      | _, _ => none) = _
  rw [lstOf_box hb]
  show (if (a.map Val.dat).length + (us.map Val.dat).length ≤ sizeLine then mkL false (a.map Val.dat ++ us.map Val.dat) μ else none) = _
  rw [List.length_map, List.length_map, if_pos h, ← List.map_append]
  unfold mkL
  rw [datsOf_map]
  rfl
theorem run_line_ofB (n k : Nat) (μ : Store) (a : Int) (b : Nat) (s : List Int) (hb : μ[b]? = some (.lst (vint s))) (hl : s.length ≤ 900) (hn : 1001 < n) (hS : Shut μ) :
    evCall pr n (k + 2) 13 [.dat (.int a), .box b] μ = some (.dat (.lst (dint (lineOf a s))), μ) := by
  refine run_of2 [some (.dat (.int a)), some (.box b), none, none, none, none, none, none, none, none, none] rfl rfl rfl ?_
  unfold R_line_of
  refine wS_seq <| wS_set <| wE_app <| wL_cons <| wE_app <| wL_cons <| wE_app <| wL_cons <| wE_var rfl <| wL_cons <| wE_int <| wL_nil <| wM_div (by decide) <| wL_cons <| wE_app <| wL_cons <| wE_var rfl <| wL_cons <| wE_int <| wL_nil <| wM_mod (by decide) <| wL_nil ?_
  refine wM_of (v := .dat (.lst (dint [a / 97, a % 97]))) (μ' := μ) rfl <| wL_cons <| wE_var rfl <| wL_nil ?_
  refine wM_addLB (us := dint s) hb (by rw [szl, List.length_map, List.length_map]; show 2 + _ ≤ _; omega) ?_
  have e1 : dint [a / 97, a % 97] ++ dint s = dint (a / 97 :: a % 97 :: s) := rfl
  rw [e1]
  walk_at "ev"
  refine wM_of (run_sums n k μ (.dat (.lst (dint (a / 97 :: a % 97 :: s)))) (a / 97 :: a % 97 :: s) rfl (by simp; omega) hn hS) ?_
  generalize hz : (sums (a / 97 :: a % 97 :: s)).1 = z
  generalize ho : (sums (a / 97 :: a % 97 :: s)).2.1 = o
  generalize hw : (sums (a / 97 :: a % 97 :: s)).2.2 = w
  walk_at "ev"
  refine wM_of (run_inv n k μ 2 (by decide) hn hS) ?_
  rw [show inv 2 = 49 by decide +kernel]
  walk_at "ev"
  refine wM_addL (by show (dint _).length + 3 ≤ _; rw [List.length_map, List.length_cons, List.length_cons]; exact Nat.le_trans (by omega : _ ≤ 1000) (by decide)) ?_
  walk_at "ev"
  have e3 : ∀ x y z : Int, dint (a / 97 :: a % 97 :: s) ++ [D.int x, .int y, .int z] = dint ((a / 97 :: a % 97 :: s) ++ [x, y, z]) := fun x y z => by simp [dint]
  rw [e3]
  refine (fin_same hS).trans ?_
  unfold lineOf
  simp only [hz, ho, hw, show (2 : Int) * 60 - 1 = 119 from rfl, show (2 : Int) * 60 - 2 = 118 from rfl, show (2 : Int) * 60 - 3 = 117 from rfl, show (60 : Int) * (60 - 1) = 3540 from rfl, show (60 : Int) * (60 - 2) = 3480 from rfl, show ((60 : Int) - 2) * (60 - 1) = 3422 from rfl]
section
variable {n : Nat} {ns : List Int} {V : D} {x3 x5 x6 x7 x8 x13 x14 x15 x16 x17 x19 x20 x21 : Option Val} {μ : Store} {Q : KS}
theorem sem_end {t : List Nat} {rows : List (List Nat)} {bad : List Int} (hTd : Told t) (hl : rows.length = nLines t) (h120 : ∀ l ∈ rows, l.length = 120) (h : Sem t rows bad (nLines t)) :
    (bad = [] ∧ textOf rows = .text t) ∨ ∃ b r, bad = (((b : Nat) : Int) + 1) :: r ∧ textOf rows = .line (b + 1) := by
  rcases h with ⟨h1, h2⟩ | ⟨b, r, h1, h2, h3, h4⟩
  · refine .inl ⟨h1, textOf_good hTd.sg ⟨hl, fun i x hx => ?_⟩⟩
    have hi : i < nLines t := by rw [← hl]; exact (List.getElem?_eq_some_iff.mp hx).1
    have := h2 i hi
    rw [List.getD_eq_getElem?_getD, hx] at this
    exact ⟨h120 x (List.mem_of_getElem? hx), this⟩
  · exact .inr ⟨b, r, h1, textOf_bad hTd.sg (by omega) h2 h3 (.inl h4)⟩
theorem turn11 {t : List Nat} {u : Nat} (hn : 100000 < n) (hTd : Told t) (hT : TS ns μ)
    (q : ∀ x3 x7 x14 x15 x16 x17 x19 μ', TS ns μ' → Q .nx (RB ns V t x3 (some (.dat (.int (u : Nat)))) x6 x7 x8 x13 x14 x15 x16 x17 x19 x20 x21) μ') :
    wS (cf19 n) LW11b (RB ns V t x3 (some (.dat (.int (u : Nat)))) x6 x7 x8 x13 x14 x15 x16 x17 x19 x20 x21) μ Q := by
  unfold LW11b
  have hl := hTd.len
  have hnl : nLines t ≤ 72 := by unfold nLines; omega
  obtain ⟨μ1, e1, hm1⟩ := ts_next (n := n) (k := 16) hT
  refine wS_seq <| wS_drop <| wE_call <| wL_cons <| wE_var rfl <| wL_nil <| wM_of e1 <| kSeq_nx ?_
  have hT1 := hm1.1
  have l0 : 0 < μ1.length := by
    obtain ⟨⟨a, b, c, hp0, _⟩, _⟩ := hT1
    exact (List.getElem?_eq_some_iff.mp hp0).1
  refine wS_seq <| wS_set <| wE_app <| wL_nil <| wM_of (v := .box μ1.length) (μ' := μ1 ++ [.lst []]) rfl <| kSeq_nx ?_
  refine wS_seq <| wS_set <| wE_app <| wL_nil <| wM_of (v := .box (μ1 ++ [SO.lst []]).length) (μ' := (μ1 ++ [.lst []]) ++ [.lst []]) rfl <| kSeq_nx ?_
  have hT2 : TS ns (μ1 ++ [SO.lst []]) := ts_app hT1 rfl
  have hT3 : TS ns (μ1 ++ [SO.lst []] ++ [SO.lst []]) := ts_app hT2 rfl
  have hp3 : (μ1 ++ [SO.lst []] ++ [SO.lst []])[μ1.length]? = some (.lst []) := get_snoc_lt get_snoc_eq
  have hq3 : (μ1 ++ [SO.lst []] ++ [SO.lst []])[(μ1 ++ [SO.lst []]).length]? = some (.lst []) := get_snoc_eq
  have pq : μ1.length ≠ (μ1 ++ [SO.lst []]).length := by rw [List.length_append]; show _ ≠ _ + 1; omega
  have p0 : μ1.length ≠ 0 := by omega
  have q0 : (μ1 ++ [SO.lst []]).length ≠ 0 := by rw [List.length_append]; show _ + 1 ≠ 0; omega
  generalize (μ1 ++ [SO.lst []]).length = q2 at *
  generalize μ1 ++ [SO.lst []] ++ [SO.lst []] = μ3 at *
  generalize μ1.length = p at *
  refine wS_seq <| wS_mid (fun ρ' μ' => ∃ x3 x14 x16 x17 x19 rows bad, ρ' = RB ns V t x3 (some (.dat (.int (u : Nat)))) x6 (some (.box p)) x8 x13 x14 (some (.box q2)) x16 x17 x19 x20 x21 ∧ DI ns t p q2 μ' rows bad (nLines t)) (wS_for ?_) ?_
  · refine wL_cons <| wE_app <| wL_cons <| wE_var rfl <| wL_nil <| wM_lenDL ?_
    rw [List.length_map, linesOf_len]
    refine wL_nil ⟨_, r1_sem ⟨by omega, by omega⟩, ?_⟩
    rw [Int.toNat_natCast]
    refine for_inv (fun i ρ' μ' => i ≤ nLines t ∧ ∃ x3 x14 x16 x17 x19 rows bad, ρ' = RB ns V t x3 (some (.dat (.int (u : Nat)))) x6 (some (.box p)) x8 x13 x14 (some (.box q2)) x16 x17 x19 x20 x21 ∧ DI ns t p q2 μ' rows bad i) ?_ (nLines t) (fun i ρ μ' h => h.1) n 0 _ _ ⟨Nat.zero_le _, _, _, _, _, _, [], [], rfl, ⟨hT3, p0, q0, pq, hp3, hq3, rfl, Nat.le_refl _, fun l h => (by cases h), .inl ⟨rfl, fun j h => by omega⟩⟩⟩ (by omega)
    rintro i _ μ4 ⟨hi, x3, x14, x16, x17, x19, rows, bad, rfl, hD⟩
    refine ⟨_, nxR_at, ?_⟩
    by_cases hlt : i < nLines t
    · rw [rg_some hlt, zi]
      refine wR_for (ρ2 := RB ns V t (some (.dat (.int (i : Nat)))) (some (.dat (.int (u : Nat)))) x6 (some (.box p)) x8 x13 x14 (some (.box q2)) x16 x17 x19 x20 x21) rfl ?_
      exact k_turn hn hTd hlt hD fun x14 x16 x17 x19 μ' l bad' h => ⟨hlt, _, _, _, _, _, _, _, rfl, h⟩
    · rw [rg_none (by omega)]
      have : i = nLines t := by omega
      subst this
      exact ⟨rfl, _, _, _, _, _, _, _, rfl, hD⟩
  rintro _ μ4 ⟨x3, x14, x16, x17, x19, rows, bad, rfl, hD⟩
  have hS4 := hD.ts.2
  have hrl := hD.len
  refine wS_ifs <| wT_not <| wT_tr <| wE_call <| wL_cons <| wE_call <| wL_cons <| wE_app <| wL_cons <| wE_var rfl <| wL_nil <| wM_lst (ds := dstr rows) (seqOf_box hD.hp) <| wL_nil ?_
  refine wM_of (run_text_of n 15 μ4 rows (by omega) (fun l h => by rw [hD.l120 l h]; decide) hn hS4) ?_
  refine wL_cons <| wE_ifx <| wT_bv <| wE_app <| wL_cons <| wE_var rfl <| wL_cons <| wE_app <| wL_nil <| wM_of (v := .dat (.lst [])) (μ' := μ4) rfl <| wL_nil ?_
  refine wM_neL (ns := bad) (ms := []) (valP_box hD.hq) (valP_ints (ns := [])) ⟨_, rfl, ?_⟩
  rcases sem_end hTd hrl hD.l120 hD.sem with ⟨hb, ht⟩ | ⟨b, r, hb, ht⟩
  · rw [ht]
    refine iteZ (by rw [hb]; rfl) ?_
    refine wE_app <| wL_cons <| wE_str <| wL_cons <| wE_var rfl <| wL_nil <| wM_of (v := .dat (ttD (.text t))) (μ' := μ4) rfl <| wL_nil ?_
    obtain ⟨o1, o2⟩ := tt_ok t hTd.sg
    dsimp only [cf19]
    exact wM_of (run_same n μ4 hn hS4 19 _ o1 (by omega)) <| wB_of (b := true) rfl <| iteZ rfl <| wS_nx <| q _ _ _ _ _ _ _ _ hD.ts
  · rw [ht]
    have hq4 := hD.hq
    rw [hb] at hq4
    refine iteY (by rw [hb]; rfl) ?_
    refine wE_app <| wL_cons <| wE_str <| wL_cons <| wE_app <| wL_cons <| wE_var rfl <| wL_cons <| wE_int <| wL_nil <| wM_ixB hq4 (i := 0) (u := .dat (.int ((b : Nat) + 1))) (atI_at (j := 0) rfl rfl) <| wL_nil <| wM_of (v := .dat (ttD (.line (b + 1)))) (μ' := μ4) rfl <| wL_nil ?_
    obtain ⟨o1, o2⟩ := tl_ok (b + 1)
    dsimp only [cf19]
    exact wM_of (run_same n μ4 hn hS4 19 _ o1 (by omega)) <| wB_of (b := true) rfl <| iteZ rfl <| wS_nx <| q _ _ _ _ _ _ _ _ hD.ts
theorem all11 {t : List Nat} (hn : 100000 < n) (hTd : Told t) (hT : TS ns μ)
    (q : ∀ x3 x5 x7 x14 x15 x16 x17 x19 μ', TS ns μ' → Q .nx (RB ns V t x3 x5 x6 x7 x8 x13 x14 x15 x16 x17 x19 x20 x21) μ') :
    wS (cf19 n) LW11 (RB ns V t x3 x5 x6 x7 x8 x13 x14 x15 x16 x17 x19 x20 x21) μ Q := by
  unfold LW11
  refine wS_for <| wL_cons <| wE_int <| wL_nil ⟨_, r1_sem ⟨by decide, by decide⟩, ?_⟩
  refine for_inv (fun i ρ' μ' => i ≤ 4 ∧ ∃ x3 x5 x7 x14 x15 x16 x17 x19, ρ' = RB ns V t x3 x5 x6 x7 x8 x13 x14 x15 x16 x17 x19 x20 x21 ∧ TS ns μ') ?_ 4 (fun i ρ μ' h => h.1) n 0 _ _ ⟨by decide, _, _, _, _, _, _, _, _, rfl, hT⟩ (by omega)
  rintro i _ μ1 ⟨hi, x3, x5, x7, x14, x15, x16, x17, x19, rfl, hT1⟩
  refine ⟨_, nxR_at, ?_⟩
  by_cases hlt : i < 4
  · rw [rg_some (show i < (4 : Int).toNat from hlt), zi]
    refine wR_for (ρ2 := RB ns V t x3 (some (.dat (.int (i : Nat)))) x6 x7 x8 x13 x14 x15 x16 x17 x19 x20 x21) rfl ?_
    exact turn11 hn hTd hT1 fun x3 x7 x14 x15 x16 x17 x19 μ' h => ⟨hlt, _, _, _, _, _, _, _, _, rfl, h⟩
  · rw [rg_none (show (4 : Int).toNat ≤ i by show 4 ≤ i; omega)]
    exact q _ _ _ _ _ _ _ _ _ hT1
end
end K54

namespace K54
open PySem PySem.Spec PyProof.Rows L2 EV
local macro_rules | `(tactic| walk_at "ev1") => `(tactic| with_reducible first
  | (refine' wE_var ?hh ?_; (case hh => with_unfolding_all exact rfl)) | refine wE_int ?_ | refine wE_str ?_ | refine wE_non ?_ | refine wE_bl ?_ | refine wL_nil ?_ | refine wL_cons ?_
  | refine wE_app ?_ | refine wE_bm ?_ | refine wE_sl ?_ | refine wO_no ?_ | refine wO_so ?_ | refine wE_call ?_
  | refine wE_ifx ?_ | refine wE_and ?_ | refine wE_or ?_ | refine wE_chain ?_ | refine wE_frz ?_ | refine wE_lc ?_
  | refine wT_tr ?_ | refine wT_bv ?_ | refine wT_and ?_ | refine wT_or ?_ | refine wT_not ?_ | refine wT_yes ?_
  | refine wS_seq ?_ | refine wS_set ?_ | refine wS_asg ?_ | refine wS_setI ?_ | refine wS_drop ?_ | refine wS_ret ?_ | refine wS_retN ?_ | refine wS_nx ?_ | refine wS_brk ?_ | refine wS_cnt ?_
  | refine kSeq_nx ?_ | refine kSeq_rt ?_ | refine kSeq_bk ?_ | refine kSeq_ct ?_)
local macro_rules | `(tactic| walk_at "ev2") => `(tactic| first
  | ((with_reducible refine' wM_ixB ?hh ?hi ?_); (case hh => first | assumption | exact get_snoc_eq); (case hi => exact rfl)) | (with_reducible refine wM_lenDL ?_) | (with_reducible refine wM_eqI ?_) | (with_reducible refine wM_neI ?_) | (with_reducible refine wM_slL ?_) | (with_reducible refine wM_mul (by omega) ?_) | (with_reducible refine wM_mod (by first | assumption | decide) ?_) | (with_reducible refine wM_div (by first | assumption | decide) ?_)
  | ((with_reducible refine' wM_of ?hh ?_); (case hh => exact rfl)) | ((with_reducible refine' wB_of ?hh ?_); (case hh => exact rfl))
  | ((with_reducible refine' iteY ?hb ?_); (case hb => exact rfl)) | ((with_reducible refine' iteZ ?hb ?_); (case hb => exact rfl)) | refine ⟨_, rfl, ?_⟩ | refine ⟨rfl, ?_⟩ | refine ⟨_, _, _, _, rfl, rfl, (by first | assumption | exact get_snoc_eq), rfl, ?_⟩ | refine ⟨_, _, _, _, rfl, rfl, rfl, rfl, ?_⟩ | refine ⟨_, _, _, rfl, rfl, rfl, rfl, ?_⟩ | refine ⟨_, _, rfl, rfl, rfl, ?_⟩)
local macro_rules | `(tactic| walk_at "done") => `(tactic| first | exact rfl | exact ⟨rfl, rfl⟩ | exact ⟨_, rfl, rfl⟩ | exact ⟨_, _, rfl, rfl⟩ | exact ⟨rfl, _, rfl, rfl⟩ | exact ⟨rfl, _, _, rfl, rfl⟩)
local macro_rules | `(tactic| walk_at "ev") => `(tactic| repeat (first | walk_at "ev1" | walk_at "ev2"))
/-! ### the law: spoilt, missing and more lines -/
theorem areOf_false {c : List Int} {p : Nat} {z : Int} (hp : p < c.idxOf 74) (hz : c[p]? = some z) (h : ¬ (0 < z ∧ z ≤ 73)) : areOf c = false := by
  unfold areOf
  have : (c.take (c.idxOf 74)).all (fun x => decide (0 < x ∧ x ≤ 73)) = false := by
    cases e : (c.take (c.idxOf 74)).all (fun x => decide (0 < x ∧ x ≤ 73)) with
    | false => rfl
    | true =>
      have := List.all_eq_true.mp e z (List.mem_of_getElem? (i := p) (by rw [List.getElem?_take_of_lt hp]; exact hz))
      exact absurd (of_decide_eq_true this) h
  rw [this]
  rfl
/-- the place that is spoilt -/
def lim (c : List Int) : Nat := if (74 : Int) ∈ c ∧ 0 < c.idxOf 74 then c.idxOf 74 else 1
theorem chunk_form {t : List Nat} {i : Nat} (hTd : Told t) (hi : i < nLines t) : (i + 1 < nLines t ∧ ∀ x ∈ chunk t i, 0 < x ∧ x ≤ 73) ∨ (i + 1 = nLines t ∧ ∃ A m, (∀ x ∈ A, 0 < x ∧ x ≤ 73) ∧ chunk t i = A ++ 74 :: List.replicate m 0) := by
  by_cases h : i + 1 < nLines t
  · refine .inl ⟨h, fun x hx => ?_⟩
    rw [chunk_in h] at hx
    exact sgX_bd hTd.sg x (List.mem_of_mem_drop (List.mem_of_mem_take hx))
  · have : i = nLines t - 1 := by omega
    subst this
    exact .inr ⟨by omega, _, _, mem_drop_bd (sgX_bd hTd.sg) _, chunk_end⟩
theorem idx_no {A : List Int} (h : ¬ (74 : Int) ∈ A) : A.idxOf 74 = A.length := List.idxOf_eq_length h
theorem spoilt_bad {t : List Nat} {i p : Nat} {z : Int} (hTd : Told t) (hi : i < nLines t) (hp : p < lim (chunk t i)) (hz : z = 0 ∨ z = 75 ∨ z = 96) (h : (74 : Int) ∈ (chunk t i).set p z ∨ i + 1 < nLines t) : areOf ((chunk t i).set p z) = false := by
  have hl := chunk_len hi
  have hz1 : ¬ (0 < z ∧ z ≤ 73) := by omega
  have hz2 : z ≠ 74 := by omega
  have hp55 : p < 55 := by
    unfold lim at hp
    split at hp
    · have := List.idxOf_le_length (l := chunk t i) (a := (74 : Int))
      omega
    · omega
  have hg : ((chunk t i).set p z)[p]? = some z := List.getElem?_set_self (by omega)
  rcases chunk_form hTd hi with ⟨h1, h2⟩ | ⟨h1, A, m, hA, hc⟩
  · refine areOf_false (p := p) ?_ hg hz1
    rw [idx_no (fun hm => ?_), List.length_set]
    · omega
    · rcases List.mem_or_eq_of_mem_set hm with hm | hm
      · have := h2 74 hm; omega
      · exact hz2 hm.symm
  · rw [hc] at hp hg h ⊢
    have hix := idx_end (Z := List.replicate m 0) (no_end hA)
    unfold lim at hp
    rw [hix] at hp
    by_cases hA0 : 0 < A.length
    · rw [if_pos ⟨by simp, hA0⟩] at hp
      rw [List.set_append_left _ _ hp] at hg ⊢
      refine areOf_false (p := p) ?_ hg hz1
      rw [idx_end, List.length_set]
      · exact hp
      · intro hm
        rcases List.mem_or_eq_of_mem_set hm with hm | hm
        · have := hA 74 hm; omega
        · exact hz2 hm.symm
    · have : A = [] := List.eq_nil_of_length_eq_zero (by omega)
      subst this
      rw [if_neg (fun hh => hA0 hh.2)] at hp
      have : p = 0 := by omega
      subst this
      rcases h with h | h
      · rw [List.nil_append, List.set_cons_zero] at h
        rcases List.mem_cons.mp h with h | h
        · exact absurd h.symm hz2
        · have := List.eq_of_mem_replicate h; omega
      · omega
theorem isLstB {b : Nat} {us : List Val} {μ : Store} (h : μ[b]? = some (.lst us)) : mIndexL.is (.box b) μ = true := isLst_box h
theorem wM_indexB {x : Int} {b : Nat} {ns : List Int} {μ : Store} {Q : KE} (h : μ[b]? = some (.lst (vint ns))) (hx : x ∈ ns) (q : Q (.dat (.int (ns.idxOf x : Nat))) μ) : wM (mIndexL.sem (.box b) [.dat (.int x)] μ) Q := wM_indexI (rdL_box h) hx q
theorem wM_slB {b : Nat} {us : List Val} {lo hi : Option Int} {μ : Store} {Q : KE} (h : μ[b]? = some (.lst us)) (q : Q (.box μ.length) (μ ++ [.lst (cutG us lo hi)])) : wM ((sSl true).sem (.box b) lo hi μ) Q := by
  refine ⟨_, _, ?_, q⟩
  show (match lstOf (.box b) μ with
    | some us => mkL true (cutG us lo hi) μ
    | none => none) = _
  rw [lstOf_box h]
  rfl
theorem cutG_vint (ns : List Int) (i j : Nat) : cutG (vint ns) (some (i : Int)) (some (j : Int)) = vint ((ns.drop i).take (j - i)) := by
  rw [cutG_nat, vint, vint, List.map_take, List.map_drop, List.map_take, List.map_drop]
section
variable {n : Nat} {ns : List Int} {V : D} {x3 x5 x6 x7 x8 x13 x14 x15 x16 x17 x19 x20 x21 : Option Val} {μ : Store} {Q : KS}
theorem spoil14 {t : List Nat} {i b : Nat} (hTd : Told t) (hi : i < nLines t) (hT : TS ns μ) (b0 : b ≠ 0) (hb : μ[b]? = some (.lst (vint (chunk t i))))
    (q : ∀ p z μ', p < lim (chunk t i) → (z = 0 ∨ z = 75 ∨ z = 96) → TS ns μ' → μ'[b]? = some (.lst (vint ((chunk t i).set p z))) → Q .nx (RB ns V t x3 x5 x6 x7 x8 x13 (some (.box b)) x15 x16 x17 x19 x20 x21) μ') :
    wS (cf19 n) LW14 (RB ns V t x3 x5 x6 x7 x8 x13 (some (.box b)) x15 x16 x17 x19 x20 x21) μ Q := by
  unfold LW14
  have hcl := chunk_len hi
  generalize chunk t i = c at *
  obtain ⟨d, μ1, e1, hd, hm1⟩ := ts_pick (n := n) (k := 15) [D.int 0, .int 75, .int 96] (by decide) hT
  obtain ⟨z, rfl, hz⟩ : ∃ z, d = .int z ∧ (z = 0 ∨ z = 75 ∨ z = 96) := by
    simp only [List.mem_cons, List.not_mem_nil, or_false] at hd
    rcases hd with rfl | rfl | rfl
    · exact ⟨0, rfl, .inl rfl⟩
    · exact ⟨75, rfl, .inr (.inl rfl)⟩
    · exact ⟨96, rfl, .inr (.inr rfl)⟩
  refine wS_setI <| wE_call <| wL_cons <| wE_var rfl <| wL_cons <| wE_app <| wL_cons <| wE_int <| wL_cons <| wE_int <| wL_cons <| wE_int <| wL_nil <| wM_of (v := .dat (.lst [.int 0, .int 75, .int 96])) (μ' := μ) rfl <| wL_nil <| wM_of e1 <| wE_var rfl ?_
  have hb1 : μ1[b]? = some (.lst (vint c)) := by rw [hm1.2.2 b b0]; exact hb
  have hlim : 0 < lim c ∧ lim c ≤ 55 := by
    unfold lim
    have := List.idxOf_le_length (l := c) (a := (74 : Int))
    split <;> omega
  obtain ⟨p, μ2, e2, hp, hm2⟩ := ts_draw (n := n) (k := 16) (lim c : Int) (by omega) hm1.1
  have hb2 : μ2[b]? = some (.lst (vint c)) := by rw [hm2.2.2 b b0]; exact hb1
  refine wE_call <| wL_cons <| wE_var rfl <| wL_cons <| wE_then (V := .dat (.int (lim c : Nat))) ?_ <| wL_nil <| wM_of e2 ?_
  · by_cases h74 : (74 : Int) ∈ c
    · refine wE_ifx <| wT_and <| wT_bv <| wE_app <| wL_cons <| wE_int <| wL_cons <| wE_var rfl <| wL_nil <| wM_inI (ns := c) (seqOf_box hb1) ⟨_, rfl, iteY (decide_eq_true h74) ?_⟩
      refine wT_bv <| wE_app <| wL_cons <| wE_bm <| wE_var rfl ⟨isLstB hb1, wL_cons <| wE_int <| wL_nil <| wM_indexB hb1 h74 <| wL_cons <| wE_int <| wL_nil <| wM_of (v := .dat (.bl (decide (((c.idxOf 74 : Nat) : Int) > 0)))) (μ' := μ1) rfl ⟨_, rfl, ?_⟩⟩
      by_cases h0 : 0 < c.idxOf (74 : Int)
      · refine iteY (decide_eq_true (by omega)) ?_
        refine wE_bm <| wE_var rfl ⟨isLstB hb1, wL_cons <| wE_int <| wL_nil <| wM_indexB hb1 h74 ⟨?_, rfl⟩⟩
        rw [lim, if_pos ⟨h74, h0⟩]
      · refine iteZ (decide_eq_false (by omega)) <| wE_int ⟨?_, rfl⟩
        rw [lim, if_neg (fun h => h0 h.2)]
        rfl
    · refine wE_ifx <| wT_and <| wT_bv <| wE_app <| wL_cons <| wE_int <| wL_cons <| wE_var rfl <| wL_nil <| wM_inI (ns := c) (seqOf_box hb1) ⟨_, rfl, iteZ (decide_eq_false h74) <| iteZ rfl <| wE_int ⟨?_, rfl⟩⟩
      rw [lim, if_neg (fun h => h74 h.1)]
      rfl
  · refine ⟨b, _, _, p, rfl, rfl, hb2, ixN_nat (by rw [List.length_map, List.length_map]; omega), ?_⟩
    have ev : (vint c).set p (.dat (.int z)) = vint (c.set p z) := by rw [vint, vint, List.map_set, List.map_set]
    rw [ev]
    exact q p z _ (by omega) hz (ts_set hm2.1 b0 (soOk_dats _ (dint (c.set p z)))) (set_get hb2)
theorem eqLine {i : Nat} {Q : KE} {a b : Val} (ha : a = .dat (ttD (.line i))) (hb : b = .dat (ttD (.line i))) (q : Q (.dat (.bl false)) μ) : wM ((oEq true).sem [a, b] μ) Q := by
  subst ha hb
  refine ⟨_, _, ?_, q⟩
  have e : toP (ttD (.line i)) = .tuple [.str "line", .int i] := rfl
  show (if (SeqAt.shaped (toP (ttD (.line i))) && SeqAt.shaped (toP (ttD (.line i)))) = true then some (Val.dat (.bl (!PyData.eqv (toP (ttD (.line i))) (toP (ttD (.line i))))), μ) else none) = _
  rw [e]
  have h1 : SeqAt.shaped (.tuple [.str "line", .int i]) = true := by
    unfold SeqAt.shaped
    rw [Bool.and_eq_true, decide_eq_true_iff]
    have hs : PyData.strOk (Str.ofString "line") = true := by decide +kernel
    refine ⟨?_, by show 1 ≤ _; decide⟩
    show (PyData.strOk (Str.ofString "line") && (true && true)) = true
    rw [hs]
    rfl
  have h2 : PyData.eqv (.tuple [.str "line", .int i]) (.tuple [.str "line", .int i]) = true := by
    show ((Str.ofString "line" == Str.ofString "line") && (((i : Int) == (i : Int)) && true)) = true
    simp
  rw [h1, h2]
  rfl
theorem spoil15 {t : List Nat} {i b p : Nat} {z : Int} (hn : 100000 < n) (hTd : Told t) (hi : i < nLines t) (hT : TS ns μ) (hp : p < lim (chunk t i)) (hz : z = 0 ∨ z = 75 ∨ z = 96) (hb : μ[b]? = some (.lst (vint ((chunk t i).set p z))))
    (q : ∀ x20, Q .nx (RB ns V t x3 x5 (some (.dat (.int (i : Nat)))) x7 x8 x13 (some (.box b)) x15 x16 x17 x19 x20 x21) μ) :
    wS (cf19 n) LW15 (RB ns V t x3 x5 (some (.dat (.int (i : Nat)))) x7 x8 x13 (some (.box b)) x15 x16 x17 x19 x20 x21) μ Q := by
  unfold LW15
  have hl := hTd.len
  have hnl : nLines t ≤ 72 := by unfold nLines; omega
  have hcl := chunk_len hi
  have hll : (linesOf t).length = nLines t := linesOf_len t
  have hS := hT.2
  refine wS_ifB ((74 : Int) ∈ (chunk t i).set p z ∨ i + 1 < nLines t) ?_ (fun h => ?_) (fun _ => wS_nx (q _))
  · refine wT_or <| wT_bv <| wE_app <| wL_cons <| wE_int <| wL_cons <| wE_var rfl <| wL_nil <| wM_inI (ns := (chunk t i).set p z) (seqOf_box hb) ⟨_, rfl, ?_⟩
    by_cases h74 : (74 : Int) ∈ (chunk t i).set p z
    · exact iteY (decide_eq_true h74) ⟨(decide_eq_true (.inl h74)).symm, rfl⟩
    · refine iteZ (decide_eq_false h74) <| wT_bv <| wE_app <| wL_cons <| wE_var rfl <| wL_cons <| wE_app <| wL_cons <| wE_app <| wL_cons <| wE_var rfl <| wL_nil <| wM_lenDL ?_
      rw [List.length_map, hll]
      refine wL_cons <| wE_int <| wL_nil <| wM_of (v := .dat (.int ((nLines t : Nat) - 1))) (μ' := μ) rfl <| wL_nil <| wM_of (v := .dat (.bl (decide ((i : Int) < (nLines t : Nat) - 1)))) (μ' := μ) rfl ⟨_, rfl, ?_, rfl⟩
      congr 1
      exact propext ⟨fun h => .inr (by omega), fun h => by
        rcases h with h | h
        · exact absurd h h74
        · omega⟩
  have hbad := spoilt_bad hTd hi hp hz h
  generalize hc : (chunk t i).set p z = c at *
  have hcb : ∀ x ∈ c, 0 ≤ x ∧ x < 97 := fun x hx => by
    rw [← hc] at hx
    rcases List.mem_or_eq_of_mem_set hx with hx | hx
    · exact chunk_bd hTd.sg i x hx
    · omega
  have hc55 : c.length = 55 := by rw [← hc, List.length_set]; exact hcl
  have hlb := lineOf_bd (a := (i : Int) + 1) (s := c) ⟨by omega, by omega⟩ hcb
  have hlen := lineOf_len (a := (i : Int) + 1) hc55
  have hsig : signsIn (flatD (lineOf ((i : Int) + 1) c)) ((i : Int) + 1) = some c := signs_right hlb hlen (righted_zero (lineOf_sums hc55)) hc55
  -- the lines
  refine wS_seq <| wS_set <| wE_app <| wL_cons <| wE_app <| wL_cons <| wE_sl <| wE_var rfl <| wO_no <| wO_so <| wE_var rfl ⟨_, rfl, ?_⟩
  refine wM_slL (ds := dstr (linesOf t)) ?_
  rw [cutG_nat0]
  refine wL_cons <| wE_app <| wL_cons <| wE_call <| wL_cons <| wE_call <| wL_cons <| wE_app <| wL_cons <| wE_var rfl <| wL_cons <| wE_int <| wL_nil <| wM_of (v := .dat (.int ((i : Int) + 1))) (μ' := μ) rfl <| wL_cons <| wE_var rfl <| wL_nil ?_
  refine wM_of (run_line_ofB n 17 μ ((i : Int) + 1) b c hb (by omega) (by omega) hS) <| wL_nil ?_
  refine wM_of (run_law_line n 18 μ _ (lineOf ((i : Int) + 1) c) rfl hlb (by omega) (by omega) hS) <| wL_nil ?_
  refine wM_of (v := .dat (.lst [.str (st (flatD (lineOf ((i : Int) + 1) c)))])) (μ' := μ) rfl <| wL_nil ?_
  refine wM_addL (by rw [szl, List.length_take, List.length_map, hll]; show _ + 1 ≤ _; omega) ?_
  refine wL_cons <| wE_sl <| wE_var rfl <| wO_so <| wE_app <| wL_cons <| wE_var rfl <| wL_cons <| wE_int <| wL_nil <| wM_of (v := .dat (.int ((i + 1 : Nat) : Int))) (μ' := μ) rfl ⟨_, rfl, wO_no ?_⟩
  refine wM_slL (ds := dstr (linesOf t)) ?_
  rw [cutG_nat1]
  refine wL_nil <| wM_addL (by rw [szl, List.length_append, List.length_take, List.length_drop, List.length_map, hll]; show _ + 1 + _ ≤ _; omega) <| kSeq_nx ?_
  have er : (dstr (linesOf t)).take i ++ [D.str (st (flatD (lineOf ((i : Int) + 1) c)))] ++ (dstr (linesOf t)).drop (i + 1) = dstr ((linesOf t).set i (flatD (lineOf ((i : Int) + 1) c))) := by
    rw [List.set_eq_take_append_cons_drop, if_pos (by omega)]
    simp [dstr]
  rw [er]
  have hrl : ((linesOf t).set i (flatD (lineOf ((i : Int) + 1) c))).length = nLines t := by rw [List.length_set, hll]
  have h120 : ∀ l ∈ (linesOf t).set i (flatD (lineOf ((i : Int) + 1) c)), l.length ≤ 1000 := fun l hl => by
    rcases List.mem_or_eq_of_mem_set hl with hl | hl
    · rw [line_len hl]; decide
    · rw [hl, flatD_len, hlen]; decide
  have htx : textOf ((linesOf t).set i (flatD (lineOf ((i : Int) + 1) c))) = .line (i + 1) := by
    refine textOf_bad hTd.sg (by omega) hi (fun j hj => ?_) (.inr ⟨c, ?_, hbad⟩)
    · rw [List.getD_eq_getElem?_getD, List.getElem?_set_ne (by omega), linesOf_get (by omega)]
      exact ((good_lines hTd.sg (by omega)).2 j _ (linesOf_get (by omega))).2
    · rw [List.getD_eq_getElem?_getD, List.getElem?_set_self (by omega)]
      exact hsig
  generalize (linesOf t).set i (flatD (lineOf ((i : Int) + 1) c)) = rows at *
  obtain ⟨o1, o2⟩ := tl_ok (i + 1)
  refine wS_same (d := ttD (.line (i + 1))) hn hS o1 (by omega) ?_ ?_ (q _)
  · refine wE_call <| wL_cons <| wE_var rfl <| wL_nil <| wM_of (run_text_of n 15 μ rows (by omega) h120 hn hS) ?_
    rw [htx]
    exact ⟨rfl, rfl⟩
  · exact wE_app <| wL_cons <| wE_str <| wL_cons <| wE_app <| wL_cons <| wE_var rfl <| wL_cons <| wE_int <| wL_nil <| wM_of (v := .dat (.int ((i + 1 : Nat) : Int))) (μ' := μ) rfl <| wL_nil <| wM_of rfl ⟨rfl, rfl⟩
theorem signs_wrong {t : List Nat} {i : Nat} {k : Int} (hTd : Told t) (hi : i < nLines t) (hk : k ≠ (i : Int) + 1) : signsIn (flatD (lnN t i)) k = none := by
  obtain ⟨k1, k2, k3⟩ := ln_ok hTd hi
  unfold signsIn
  rw [numsIn_flat k2 k1]
  simp only
  rw [righted_zero k3]
  simp only
  rw [if_neg]
  show ¬ (97 * (((i : Int) + 1) / 97) + ((i : Int) + 1) % 97 = k)
  omega
theorem good_at {t : List Nat} (hTd : Told t) {j : Nat} (hj : j < nLines t) : signsIn (flatD (lnN t j)) ((j : Int) + 1) = some (chunk t j) :=
  ((good_lines hTd.sg (by have := hTd.len; omega)).2 j _ (linesOf_get hj)).2
theorem cut17 {t : List Nat} {i : Nat} (hn : 100000 < n) (hTd : Told t) (hi : i < nLines t) (hS : Shut μ) (q : Q .nx (RB ns V t x3 x5 x6 x7 x8 x13 x14 x15 x16 x17 x19 x20 (some (.dat (.int (i : Nat))))) μ) :
    wS (cf19 n) LW17 (RB ns V t x3 x5 x6 x7 x8 x13 x14 x15 x16 x17 x19 x20 (some (.dat (.int (i : Nat))))) μ Q := by
  unfold LW17
  have hl := hTd.len
  have hnl : nLines t ≤ 72 := by unfold nLines; omega
  have hll : (linesOf t).length = nLines t := linesOf_len t
  have htk : ∀ j, j < i → ((linesOf t).take i)[j]? = some (flatD (lnN t j)) := fun j hj => by
    rw [List.getElem?_take_of_lt hj, linesOf_get (by omega)]
    rfl
  have ht1 : textOf ((linesOf t).take i) = .line (i + 1) := textOf_few hTd.sg (by rw [List.length_take]; omega) hi fun j hj => by
    rw [List.getD_eq_getElem?_getD, htk j hj]
    exact good_at hTd (by omega)
  have ht2 : textOf ((linesOf t).take i ++ (linesOf t).drop (i + 1)) = .line (i + 1) := by
    by_cases h : i + 1 < nLines t
    · have hg : ∀ j, j < i → signsIn (((linesOf t).take i ++ (linesOf t).drop (i + 1)).getD j []) ((j : Int) + 1) = some (chunk t j) := fun j hj => by
        rw [List.getD_eq_getElem?_getD, List.getElem?_append_left (by rw [List.length_take]; omega), htk j hj]
        exact good_at hTd (by omega)
      refine textOf_bad hTd.sg (by rw [List.length_append, List.length_take, List.length_drop]; omega) hi hg (.inl ?_)
      have e : ((linesOf t).take i ++ (linesOf t).drop (i + 1))[i]? = some (flatD (lnN t (i + 1))) := by
        rw [List.getElem?_append_right (by rw [List.length_take]; omega), List.length_take, List.getElem?_drop]
        rw [show i + 1 + (i - min i (linesOf t).length) = i + 1 by omega, linesOf_get h]
        rfl
      rw [List.getD_eq_getElem?_getD, e]
      exact signs_wrong hTd h (by omega)
    · rw [List.drop_eq_nil_of_le (by omega), List.append_nil]
      exact ht1
  have h120 : ∀ l ∈ (linesOf t).take i, l.length ≤ 1000 := fun l hl => by rw [line_len (List.mem_of_mem_take hl)]; decide
  have h120' : ∀ l ∈ (linesOf t).take i ++ (linesOf t).drop (i + 1), l.length ≤ 1000 := fun l hl => by
    rcases List.mem_append.mp hl with hl | hl
    · exact h120 l hl
    · rw [line_len (List.mem_of_mem_drop hl)]; decide
  have e1 : (dstr (linesOf t)).take i = dstr ((linesOf t).take i) := by rw [dstr, dstr, List.map_take]
  have e2 : (dstr (linesOf t)).drop (i + 1) = dstr ((linesOf t).drop (i + 1)) := by rw [dstr, dstr, List.map_drop]
  obtain ⟨o1, o2⟩ := tl_ok (i + 1)
  refine wS_same (d := .lst [ttD (.line (i + 1)), ttD (.line (i + 1))]) hn hS ?_ ?_ ?_ ?_ q
  · show ((okD (ttD (.line (i + 1))) && (okD (ttD (.line (i + 1))) && true)) && true) = true
    rw [o1]
    rfl
  · show max (dpD (ttD (.line (i + 1)))) (max (dpD (ttD (.line (i + 1)))) 0) + 1 ≤ 19
    omega
  · refine wE_app <| wL_cons <| wE_call <| wL_cons <| wE_sl <| wE_var rfl <| wO_no <| wO_so <| wE_var rfl ⟨_, rfl, ?_⟩
    refine wM_slL (ds := dstr (linesOf t)) ?_
    rw [cutG_nat0, e1]
    refine wL_nil <| wM_of (run_text_of n 15 μ _ (by rw [List.length_take]; omega) h120 hn hS) ?_
    rw [ht1]
    refine wL_cons <| wE_call <| wL_cons <| wE_app <| wL_cons <| wE_sl <| wE_var rfl <| wO_no <| wO_so <| wE_var rfl ⟨_, rfl, ?_⟩
    refine wM_slL (ds := dstr (linesOf t)) ?_
    rw [cutG_nat0, e1]
    refine wL_cons <| wE_sl <| wE_var rfl <| wO_so <| wE_app <| wL_cons <| wE_var rfl <| wL_cons <| wE_int <| wL_nil <| wM_of (v := .dat (.int ((i + 1 : Nat) : Int))) (μ' := μ) rfl ⟨_, rfl, wO_no ?_⟩
    refine wM_slL (ds := dstr (linesOf t)) ?_
    rw [cutG_nat1, e2]
    refine wL_nil <| wM_addL (by rw [szl, List.length_map, List.length_map, List.length_take, List.length_drop]; omega) ?_
    rw [show dstr ((linesOf t).take i) ++ dstr ((linesOf t).drop (i + 1)) = dstr ((linesOf t).take i ++ (linesOf t).drop (i + 1)) from List.map_append.symm]
    refine wL_nil <| wM_of (run_text_of n 15 μ _ (by rw [List.length_append, List.length_take, List.length_drop]; omega) h120' hn hS) ?_
    rw [ht2]
    exact wL_nil <| wM_of rfl ⟨rfl, rfl⟩
  · have two : ∀ {Q : KE}, Q (.dat (ttD (.line (i + 1)))) μ → wE (cf19 n) (.app oTupD (.cons (.cst (.str "line")) (.cons (.app (oAdd false) (.cons (.var 21) (.cons (.cst (.int 1)) .nil))) .nil))) (RB ns V t x3 x5 x6 x7 x8 x13 x14 x15 x16 x17 x19 x20 (some (.dat (.int (i : Nat))))) μ Q := fun {Q} q =>
      wE_app <| wL_cons <| wE_str <| wL_cons <| wE_app <| wL_cons <| wE_var rfl <| wL_cons <| wE_int <| wL_nil <| wM_of (v := .dat (.int ((i + 1 : Nat) : Int))) (μ' := μ) rfl <| wL_nil <| wM_of rfl q
    exact wE_app <| wL_cons <| two <| wL_cons <| two <| wL_nil <| wM_of rfl ⟨rfl, rfl⟩
end
end K54

namespace K54
open PySem PySem.Spec PyProof.Rows L2 EV
local macro_rules | `(tactic| walk_at "ev1") => `(tactic| with_reducible first
  | (refine' wE_var ?hh ?_; (case hh => with_unfolding_all exact rfl)) | refine wE_int ?_ | refine wE_str ?_ | refine wE_non ?_ | refine wE_bl ?_ | refine wL_nil ?_ | refine wL_cons ?_
  | refine wE_app ?_ | refine wE_bm ?_ | refine wE_sl ?_ | refine wO_no ?_ | refine wO_so ?_ | refine wE_call ?_
  | refine wE_ifx ?_ | refine wE_and ?_ | refine wE_or ?_ | refine wE_chain ?_ | refine wE_frz ?_ | refine wE_lc ?_
  | refine wT_tr ?_ | refine wT_bv ?_ | refine wT_and ?_ | refine wT_or ?_ | refine wT_not ?_ | refine wT_yes ?_
  | refine wS_seq ?_ | refine wS_set ?_ | refine wS_asg ?_ | refine wS_setI ?_ | refine wS_drop ?_ | refine wS_ret ?_ | refine wS_retN ?_ | refine wS_nx ?_ | refine wS_brk ?_ | refine wS_cnt ?_
  | refine kSeq_nx ?_ | refine kSeq_rt ?_ | refine kSeq_bk ?_ | refine kSeq_ct ?_)
local macro_rules | `(tactic| walk_at "ev2") => `(tactic| first
  | ((with_reducible refine' wM_ixB ?hh ?hi ?_); (case hh => first | assumption | exact get_snoc_eq); (case hi => exact rfl)) | (with_reducible refine wM_lenDL ?_) | (with_reducible refine wM_eqI ?_) | (with_reducible refine wM_neI ?_) | (with_reducible refine wM_slL ?_) | (with_reducible refine wM_mul (by omega) ?_) | (with_reducible refine wM_mod (by first | assumption | decide) ?_) | (with_reducible refine wM_div (by first | assumption | decide) ?_)
  | ((with_reducible refine' wM_of ?hh ?_); (case hh => exact rfl)) | ((with_reducible refine' wB_of ?hh ?_); (case hh => exact rfl))
  | ((with_reducible refine' iteY ?hb ?_); (case hb => exact rfl)) | ((with_reducible refine' iteZ ?hb ?_); (case hb => exact rfl)) | refine ⟨_, rfl, ?_⟩ | refine ⟨rfl, ?_⟩ | refine ⟨_, _, _, _, rfl, rfl, (by first | assumption | exact get_snoc_eq), rfl, ?_⟩ | refine ⟨_, _, _, _, rfl, rfl, rfl, rfl, ?_⟩ | refine ⟨_, _, _, rfl, rfl, rfl, rfl, ?_⟩ | refine ⟨_, _, rfl, rfl, rfl, ?_⟩)
local macro_rules | `(tactic| walk_at "done") => `(tactic| first | exact rfl | exact ⟨rfl, rfl⟩ | exact ⟨_, rfl, rfl⟩ | exact ⟨_, _, rfl, rfl⟩ | exact ⟨rfl, _, rfl, rfl⟩ | exact ⟨rfl, _, _, rfl, rfl⟩)
local macro_rules | `(tactic| walk_at "ev") => `(tactic| repeat (first | walk_at "ev1" | walk_at "ev2"))
/-! ### the law: its end -/
theorem textGo_app : ∀ (a b : List (List Nat)) (i : Nat) (f : List Int), textGo (a ++ b) i f = match textGo a i f with
    | .line k => .line k
    | .all f' => textGo b (i + a.length) f'
  | [], b, i, f => rfl
  | l :: a, b, i, f => by
    rw [List.cons_append, textGo, textGo]
    cases signsIn l ((i : Int) + 1) with
    | none => rfl
    | some t =>
      simp only
      split
      · rfl
      · rw [textGo_app a b (i + 1), List.length_cons, show i + 1 + a.length = i + (a.length + 1) by omega]
theorem textOf_more {t : List Nat} (hTd : Told t) : textOf (linesOf t ++ [flatD (lnN t (nLines t - 1))]) = .line (nLines t + 1) := by
  have hp := nLines_pos t
  have h0 := textGo_good hTd.sg (good_lines hTd.sg (by have := hTd.len; omega)) (nLines t - 1) 0 (by omega)
  rw [List.drop_zero, Nat.zero_mul, List.take_zero] at h0
  unfold textOf
  rw [textGo_app, h0]
  simp only
  rw [textGo, signs_wrong hTd (by omega) (by rw [linesOf_len]; omega), linesOf_len]
  simp only
  congr 1
  omega
theorem textOf_short {l : List Nat} (h : l.length ≠ 120) : textOf [l] = .line 1 := by
  unfold textOf
  have : signsIn l ((0 : Nat) + 1) = none := by
    unfold signsIn
    have : numsIn l = none := if_neg fun hh => h hh.1
    rw [this]
  rw [textGo, this]
section
variable {n : Nat} {ns : List Int} {V : D} {x3 x5 x6 x7 x8 x13 x14 x15 x16 x17 x19 x20 x21 : Option Val} {μ : Store} {Q : KS}
theorem more18 {t : List Nat} (hn : 100000 < n) (hTd : Told t) (hS : Shut μ) (q : Q .nx (RB ns V t x3 x5 x6 x7 x8 x13 x14 x15 x16 x17 x19 x20 x21) μ) :
    wS (cf19 n) LW18 (RB ns V t x3 x5 x6 x7 x8 x13 x14 x15 x16 x17 x19 x20 x21) μ Q := by
  unfold LW18
  have hl := hTd.len
  have hnl : nLines t ≤ 72 := by unfold nLines; omega
  have hll : (linesOf t).length = nLines t := linesOf_len t
  have hp := nLines_pos t
  obtain ⟨k1, k2, k3⟩ := ln_ok hTd (show nLines t - 1 < nLines t by omega)
  obtain ⟨j1, j2, j3⟩ := ln_ok hTd hp
  refine wS_ifs <| wT_then (B := false) ?_ <| iteZ rfl <| wS_nx q
  refine wT_or <| wT_bv <| wE_app <| wL_cons <| wE_call <| wL_cons <| wE_app <| wL_cons <| wE_var rfl <| wL_cons <| wE_app <| wL_cons <| wE_app <| wL_cons <| wE_var rfl <| wL_cons <| wE_app <| wL_cons <| wE_int <| wL_nil <| wM_of (v := .dat (.int (-1))) (μ' := μ) rfl <| wL_nil ?_
  refine wM_ixD (d := .str (st (flatD (lnN t (nLines t - 1))))) ?_ <| wL_nil <| wM_of (v := .dat (.lst [.str (st (flatD (lnN t (nLines t - 1))))])) (μ' := μ) rfl <| wL_nil ?_
  · have := lines_at (t := t) (i := nLines t - 1) (by omega)
    unfold atI ixN
    rw [if_neg (by decide), List.length_map, hll, if_pos (by omega)]
    show (dstr (linesOf t))[(-1 + ((nLines t : Nat) : Int)).toNat]? = _
    rw [show (-1 + ((nLines t : Nat) : Int)).toNat = nLines t - 1 by omega]
    exact this
  refine wM_addL (by rw [szl, List.length_map, hll]; show _ + 1 ≤ _; omega) ?_
  rw [show dstr (linesOf t) ++ [D.str (st (flatD (lnN t (nLines t - 1))))] = dstr (linesOf t ++ [flatD (lnN t (nLines t - 1))]) by simp [dstr]]
  refine wL_nil <| wM_of (run_text_of n 15 μ _ (by rw [List.length_append, hll]; show _ + 1 ≤ _; omega) (fun l hm => ?_) hn hS) ?_
  · rcases List.mem_append.mp hm with hm | hm
    · rw [line_len hm]; decide
    · rw [List.eq_of_mem_singleton hm, flatD_len, k1]; decide
  rw [textOf_more hTd]
  refine wL_cons <| wE_app <| wL_cons <| wE_str <| wL_cons <| wE_app <| wL_cons <| wE_app <| wL_cons <| wE_var rfl <| wL_nil <| wM_lenDL ?_
  rw [List.length_map, hll]
  refine wL_cons <| wE_int <| wL_nil <| wM_of (v := .dat (.int ((nLines t + 1 : Nat) : Int))) (μ' := μ) rfl <| wL_nil <| wM_of (v := .dat (ttD (.line (nLines t + 1)))) (μ' := μ) rfl <| wL_nil <| eqLine rfl rfl ⟨_, rfl, iteZ rfl ?_⟩
  refine wT_or <| wT_bv <| wE_app <| wL_cons <| wE_call <| wL_cons <| wE_app <| wL_nil <| wM_of (v := .dat (.lst (dstr []))) (μ' := μ) rfl <| wL_nil ?_
  refine wM_of (run_text_of n 15 μ [] (by decide) (fun l hm => by cases hm) hn hS) ?_
  refine wL_cons <| wE_app <| wL_cons <| wE_str <| wL_cons <| wE_int <| wL_nil <| wM_of (v := .dat (ttD (.line 1))) (μ' := μ) rfl <| wL_nil <| eqLine (i := 1) rfl rfl ⟨_, rfl, iteZ rfl ?_⟩
  refine wT_bv <| wE_app <| wL_cons <| wE_call <| wL_cons <| wE_app <| wL_cons <| wE_sl <| wE_app <| wL_cons <| wE_var rfl <| wL_cons <| wE_int <| wL_nil <| wM_ixD (atI_at (j := 0) rfl (lines_at hp)) <| wO_no <| wO_so <| wE_app <| wL_cons <| wE_int <| wL_nil <| wM_of (v := .dat (.int (-1))) (μ' := μ) rfl ⟨_, rfl, ?_⟩
  have hf : (flatD (lnN t 0)).length = 120 := by rw [flatD_len, j1]
  refine wM_slTm (by rw [hf, szl]; decide) <| wL_nil <| wM_of (v := .dat (.lst (dstr [(flatD (lnN t 0)).dropLast]))) (μ' := μ) rfl <| wL_nil ?_
  have hd : ((flatD (lnN t 0)).dropLast).length = 119 := by rw [List.length_dropLast, hf]
  refine wM_of (run_text_of n 15 μ [(flatD (lnN t 0)).dropLast] (by show 1 ≤ 1000; decide) (fun l hm => by rw [List.eq_of_mem_singleton hm, hd]; decide) hn hS) ?_
  rw [textOf_short (by omega)]
  exact wL_cons <| wE_app <| wL_cons <| wE_str <| wL_cons <| wE_int <| wL_nil <| wM_of (v := .dat (ttD (.line 1))) (μ' := μ) rfl <| wL_nil <| eqLine (i := 1) rfl rfl ⟨_, rfl, rfl, rfl⟩
/-! what is not plain -/
theorem lcLoop_step {nx : Nxt} {step : Val → Store → Option (Option Val × Store)} {n i : Nat} {acc : List Val} {μ μ' : Store} {v u : Val} (h : nx i μ = some (some v)) (hs : step v μ = some (some u, μ')) (ha : acc.length < sizeLine) : lcLoop nx step (n + 1) i acc μ = lcLoop nx step n (i + 1) (acc ++ [u]) μ' := by
  rw [lcLoop.eq_def]
  simp only [h, hs, if_pos ha]
theorem lcLoop_end {nx : Nxt} {step : Val → Store → Option (Option Val × Store)} {n i : Nat} {acc : List Val} {μ : Store} (h : nx i μ = some none) : lcLoop nx step (n + 1) i acc μ = some (acc, μ) := by
  rw [lcLoop.eq_def]
  simp only [h]
theorem np_str (k : Nat) (s : List Nat) (hn : 100000 < n) (hS : Shut μ) (hl : s.length ≤ 1000) (h : ∃ c ∈ s, ¬ (c ∈ sgL ∧ c ≠ 34)) (h128 : ∀ c ∈ s, c < 128) : evCall pr n (k + 1) 1 [.dat (.str (st s))] μ = some (.dat (.bl false), μ) := by
  refine run_of2 [some (.dat (.str (st s))), none, none] rfl rfl rfl ?_
  unfold R_is_plain
  walk_at "ev"
  refine wS_ifs ?_
  walk_at "ev"
  refine wS_ifs ?_
  walk_at "ev"
  refine lcMS (s := st s) (fun c => .dat (.bl (decide (c ∈ sgL ∧ c ≠ 34)))) ?_ ?_ (fun c hc => ?_) ?_
  · rw [st_toList]; show _ < n; omega
  · rw [st_toList, szl]; omega
  · rw [st_toList] at hc
    refine lcStep_map (ρ2 := [some (.dat (.str (st s))), none, some (sgn c)]) rfl ?_
    rw [lit_signs]
    refine wE_and (wE_app (wL_cons (wE_var rfl (wL_cons (wE_str (wL_nil ?_))))))
    refine wM_inC (c := c) ⟨_, rfl, ?_⟩
    by_cases h1 : c ∈ sgL
    · refine iteY (decide_eq_true h1) ?_
      refine wE_app (wL_cons (wE_var rfl (wL_cons (wE_str (wL_nil ?_)))))
      rw [lit_q]
      refine wM_neT (a := [c]) (fun x hx => by rw [List.eq_of_mem_singleton hx]; have := h128 c hc; omega) (by decide) ⟨?_, rfl⟩
      by_cases h2 : c = 34
      · subst h2; rfl
      · have : ¬ [c] = [34] := fun e => h2 (List.cons.inj e).1
        rw [decide_eq_false this, decide_eq_true ⟨h1, h2⟩]
        rfl
    · refine iteZ (decide_eq_false h1) ⟨?_, rfl⟩
      rw [decide_eq_false (fun hh => h1 hh.1)]
  · rw [st_toList]
    refine mk_dats (ds := s.map fun c => .bl (decide (c ∈ sgL ∧ c ≠ 34))) (by simp) (wL_nil ?_)
    refine wM_allB (bs := s.map fun c => decide (c ∈ sgL ∧ c ≠ 34)) (by show some _ = _; simp) ?_
    have : (s.map fun c => decide (c ∈ sgL ∧ c ≠ 34)).all id = false := by
      cases e : (s.map fun c => decide (c ∈ sgL ∧ c ≠ 34)).all id with
      | false => rfl
      | true =>
        obtain ⟨c, hc, hb⟩ := h
        exact absurd (of_decide_eq_true (List.all_eq_true.mp e _ (List.mem_map_of_mem hc))) hb
    rw [this]
    exact fin_same hS
theorem np_non (k : Nat) (hS : Shut μ) : evCall pr n (k + 1) 1 [.dat .non] μ = some (.dat (.bl false), μ) := by
  refine run_of2 [some (.dat .non), none, none] rfl rfl rfl ?_
  unfold R_is_plain
  walk_at "ev"
  refine wS_ifs ?_
  walk_at "ev"
  refine wS_ifs ?_
  walk_at "ev"
  exact fin_same hS
theorem np_bl (k : Nat) (b : Bool) (hS : Shut μ) : evCall pr n (k + 1) 1 [.dat (.bl b)] μ = some (.dat (.bl false), μ) := by
  refine run_of2 [some (.dat (.bl b)), none, none] rfl rfl rfl ?_
  unfold R_is_plain
  walk_at "ev"
  refine wS_ifs ?_
  walk_at "ev"
  refine wS_ifs ?_
  walk_at "ev"
  exact fin_same hS
theorem np_lst (k : Nat) (ds : List D) (hS : Shut μ) : evCall pr n (k + 1) 1 [.dat (.lst ds)] μ = some (.dat (.bl false), μ) := by
  refine run_of2 [some (.dat (.lst ds)), none, none] rfl rfl rfl ?_
  unfold R_is_plain
  walk_at "ev"
  refine wS_ifs ?_
  walk_at "ev"
  refine wS_ifs ?_
  walk_at "ev"
  exact fin_same hS
theorem np_tup (k : Nat) (x y : D) (b : Bool) (hn : 100000 < n) (hS : Shut μ) (h1 : evCall pr n (k + 1) 1 [.dat x] μ = some (.dat (.bl b), μ)) (h2 : evCall pr n (k + 1) 1 [.dat y] μ = some (.dat (.bl false), μ)) : evCall pr n (k + 2) 1 [.dat (.tup [x, y])] μ = some (.dat (.bl false), μ) := by
  refine run_of2 [some (.dat (.tup [x, y])), none, none] rfl rfl rfl ?_
  unfold R_is_plain
  walk_at "ev"
  refine wS_ifs ?_
  walk_at "ev"
  obtain ⟨n, rfl⟩ : ∃ m, n = m + 3 := ⟨n - 3, by omega⟩
  have s1 : lcStep ⟨evCall pr (n + 3) (k + 1), n + 3, pr.fs⟩ [1] (.nm 1) .yes (.call 1 (.cons (.var 1) .nil)) [some (.dat (.tup [x, y])), none, none] (.dat x) μ = some (some (.dat (.bl b)), μ) := lcStep_map (ρ2 := [some (.dat (.tup [x, y])), some (.dat x), none]) rfl (wE_call <| wL_cons <| wE_var rfl <| wL_nil <| wM_of h1 ⟨rfl, rfl⟩)
  have s2 : lcStep ⟨evCall pr (n + 3) (k + 1), n + 3, pr.fs⟩ [1] (.nm 1) .yes (.call 1 (.cons (.var 1) .nil)) [some (.dat (.tup [x, y])), none, none] (.dat y) μ = some (some (.dat (.bl false)), μ) := lcStep_map (ρ2 := [some (.dat (.tup [x, y])), some (.dat y), none]) rfl (wE_call <| wL_cons <| wE_var rfl <| wL_nil <| wM_of h2 ⟨rfl, rfl⟩)
  have hz : (0 : Nat) < sizeLine := by rw [szl]; decide
  have hz1 : (1 : Nat) < sizeLine := by rw [szl]; decide
  refine ⟨[.dat (.bl b), .dat (.bl false)], μ, ?_, ?_⟩
  · refine (lcLoop_step (n := n + 2) (i := 0) (acc := []) (v := .dat x) (u := .dat (.bl b)) (μ' := μ) rfl s1 hz).trans ?_
    refine (lcLoop_step (n := n + 1) (i := 1) (acc := [.dat (.bl b)]) (v := .dat y) (u := .dat (.bl false)) (μ' := μ) rfl s2 hz1).trans ?_
    exact lcLoop_end (n := n) (i := 2) (acc := [.dat (.bl b), .dat (.bl false)]) rfl
  · refine mk_dats (ds := [.bl b, .bl false]) rfl (wL_nil ?_)
    refine wM_allB (bs := [b, false]) rfl ?_
    rw [show [b, false].all id = false by cases b <;> rfl]
    exact fin_same hS
abbrev npL : List D := [.non, .bl true, .lst [.int 1], .tup [.str "a", .non], .str "~", .str "\"", .tup [.int 1, .lst [.int 2]]]
theorem np_all (hn : 100000 < n) (hS : Shut μ) : ∀ d ∈ npL, evCall pr n 19 1 [.dat d] μ = some (.dat (.bl false), μ) := by
  intro d hd
  simp only [npL, List.mem_cons, List.not_mem_nil, or_false] at hd
  rcases hd with rfl | rfl | rfl | rfl | rfl | rfl | rfl
  · exact np_non 18 hS
  · exact np_bl 18 true hS
  · exact np_lst 18 _ hS
  · refine np_tup 17 _ _ true hn hS (run_is_plain n μ hn hS 18 (.str "a") ?_ (by show 1 ≤ 18; decide) ?_) (np_non 17 hS)
    · decide +kernel
    · decide +kernel
  · have e : Str.ofString "~" = st [126] := by decide +kernel
    rw [e]
    exact np_str 18 [126] hn hS (by decide) ⟨126, by simp, by decide⟩ (by decide)
  · rw [lit_q]
    exact np_str 18 [34] hn hS (by decide) ⟨34, by simp, by decide⟩ (by decide)
  · exact np_tup 17 _ _ true hn hS (run_is_plain n μ hn hS 18 (.int 1) (by decide +kernel) (by show 1 ≤ 18; decide) (by decide +kernel)) (np_lst 17 _ hS)
theorem end19 {ρ : Rho} (hn : 100000 < n) (hS : Shut μ) (h22 : 22 < ρ.length) (q : Q (.rt (.dat (.bl true))) ρ μ) : wS (cf19 n) LW19 ρ μ Q := by
  unfold LW19
  refine wS_ret <| wE_and <| wE_app <| wL_cons <| wE_app <| wL_cons <| wE_lc <| wL_cons <| wE_then (V := .dat (.lst npL)) ?_ <| wL_nil ⟨_, l_sem (v := .dat (.lst npL)) rfl, rfl, ?_⟩
  · walk_at "ev"
    exact rfl
  refine lcML (v := .dat (.lst npL)) (us := npL.map .dat) (fun _ => .dat (.bl false)) rfl ?_ ?_ (fun v hv => ?_) ?_
  · show 7 < n; omega
  · rw [szl]; decide
  · obtain ⟨d, hd, rfl⟩ := List.mem_map.mp hv
    refine lcStep_map (ρ2 := (ρ.set 22 none).set 22 (some (.dat d))) rfl ?_
    refine wE_call <| wL_cons <| wE_var (List.getElem?_set_self (by rw [List.length_set]; exact h22)) <| wL_nil <| wM_of (np_all hn hS d hd) ⟨rfl, rfl⟩
  refine mk_dats (ds := npL.map fun _ => .bl false) rfl <| wL_nil <| wM_of (v := .dat (.bl false)) (μ' := μ) rfl <| wL_nil <| wM_of (v := .dat (.bl true)) (μ' := μ) rfl ⟨_, rfl, iteY rfl ?_⟩
  obtain ⟨d, e, h⟩ := run_value_ofT n 14 μ [] (fun q => by simp) (fun c h => by cases h) (by decide) (fun M hM => by cases hM; decide) hn hS
  refine wE_app <| wL_cons <| wE_call <| wL_cons <| wE_str <| wL_nil ?_
  rw [lit_e]
  refine wM_of e <| wL_cons <| wE_non <| wL_nil ?_
  rcases h with rfl | ⟨hp, hs, _⟩
  · exact wM_of (v := .dat (.bl true)) rfl q
  · obtain ⟨c, t, e2, _⟩ := sgD_head hp
    rw [hs] at e2
    cases e2
end
theorem run_law (n : Nat) (ns : List Int) (hn : 100000 < n) : ∃ r μ', evCall pr n 20 34 [.dat (.scr ns)] [] = some (r, μ') ∧ r = .dat (.bl true) := by
  refine run_ex (k := 19) ([some (.dat (.scr ns))] ++ List.replicate 22 none) rfl rfl rfl ?_
  rw [LW_eq]
  obtain ⟨r, μ1, e1, i, rfl, rfl⟩ := run_pool n 16 [] ns rfl
  refine wS_seq <| wS_set <| wE_call <| wL_cons <| wE_var rfl <| wL_nil <| wM_of e1 <| kSeq_nx ?_
  have hT0 : TS ns ([] ++ [pl ns 0 i 0]) := ⟨⟨0, i, 0, rfl, by decide⟩, rfl⟩
  generalize ([] ++ [pl ns 0 i 0] : Store) = μ0 at *
  refine wS_seq <| value_drawn hn hT0 rfl rfl fun V μ1 hV hm1 => kSeq_nx ?_
  have hT1 := hm1.1
  have hb := hV.bn
  have hTd := hV.told
  refine wS_seq <| wS_set <| wE_call <| wL_cons <| wE_var rfl <| wL_nil <| wM_of (run_law_signs n μ1 hn hT1.2 19 V hb.pl (by have := hb.dp; omega) (by have := hb.len; omega)) <| kSeq_nx ?_
  refine wS_seq <| first_ok (x5 := none) (x6 := none) (x7 := none) (x8 := none) hn hV hT1.2 <| kSeq_nx ?_
  refine wS_seq <| wS_mid (fun ρ' μ' => ∃ x5 x6 x7 x8, ρ' = RA ns V (sgD V) x5 x6 x7 x8 ∧ TS ns μ') (wS_for ?_) ?_
  · refine wL_cons <| wE_int <| wL_nil ⟨_, r1_sem ⟨by decide, by decide⟩, ?_⟩
    refine for_inv (fun i ρ' μ' => i ≤ 5 ∧ ∃ x5 x6 x7 x8, ρ' = RA ns V (sgD V) x5 x6 x7 x8 ∧ TS ns μ') ?_ 5 (fun i ρ μ' h => h.1) n 0 _ _ ⟨by decide, _, _, _, _, rfl, hT1⟩ (by omega)
    rintro i _ μ2 ⟨hi, x5, x6, x7, x8, rfl, hT2⟩
    refine ⟨_, nxR_at, ?_⟩
    by_cases hlt : i < 5
    · rw [rg_some (show i < (5 : Int).toNat from hlt), zi]
      refine wR_for (ρ2 := RA ns V (sgD V) (some (.dat (.int (i : Nat)))) x6 x7 x8) rfl ?_
      exact turn4 hn hV hT2 fun x6 x7 x8 μ' h => ⟨hlt, _, _, _, _, rfl, h.1⟩
    · rw [rg_none (show (5 : Int).toNat ≤ i by show 5 ≤ i; omega)]
      exact ⟨rfl, _, _, _, _, rfl, hT2⟩
  rintro _ μ2 ⟨x5, x6, x7, x8, rfl, hT2⟩
  refine wS_seq <| wS_set <| wE_str <| kSeq_nx ?_
  refine wS_seq <| told_ok hn hTd rfl rfl rfl <| kSeq_nx ?_
  refine wS_seq <| wS_set <| wE_call <| wL_cons <| wE_var rfl <| wL_nil <| wM_of (run_lines_of n 16 μ2 (sgD V) hTd.sg (by have := hTd.len; omega) hn hT2.2) <| kSeq_nx ?_
  refine wS_seq <| wS_set <| wE_app <| wL_nil <| wM_of (v := .dat (.lst [])) (μ' := μ2) rfl <| kSeq_nx ?_
  refine wS_seq <| lines9 (x3 := none) (x5 := x5) (x6 := x6) (x7 := x7) (x8 := x8) (x14 := none) (x15 := none) (x16 := none) (x17 := none) (x19 := none) (x20 := none) (x21 := none) hn hTd hT2 fun x3 x14 μ3 hT3 => kSeq_nx ?_
  refine wS_seq <| whole10 hn hTd hT3.2 <| kSeq_nx ?_
  refine wS_seq <| all11 hn hTd hT3 fun x3 x5 x7 x14 x15 x16 x17 x19 μ4 hT4 => kSeq_nx ?_
  -- the spoilt line
  have hnp := nLines_pos (sgD V)
  have hnl : nLines (sgD V) ≤ 72 := by have := hTd.len; unfold nLines; omega
  obtain ⟨a, μ5, e5, ha, hm5⟩ := ts_draw (n := n) (k := 16) ((nLines (sgD V) : Nat) : Int) (by omega) hT4
  have hi : a < nLines (sgD V) := by omega
  refine wS_seq <| wS_set <| wE_call <| wL_cons <| wE_var rfl <| wL_cons <| wE_app <| wL_cons <| wE_var rfl <| wL_nil <| wM_lenDL ?_
  rw [List.length_map, linesOf_len]
  refine wL_nil <| wM_of e5 <| kSeq_nx ?_
  obtain ⟨k1, k2, k3⟩ := ln_ok hTd hi
  have hT5 := hm5.1
  refine wS_seq <| wS_set <| wE_sl <| wE_call <| wL_cons <| wE_line (k := 6) rfl rfl hi <| wL_nil <| wM_of (run_law_numbers n 18 μ5 (lnN (sgD V) a) k2 k1 hn hT5.2) <| wO_so <| wE_int ⟨_, rfl, wO_so <| wE_int ⟨_, rfl, ?_⟩⟩
  refine wM_slB get_snoc_eq <| kSeq_nx ?_
  rw [show (some (2 : Int)) = some ((2 : Nat) : Int) from rfl, show (some (57 : Int)) = some ((57 : Nat) : Int) from rfl, cutG_vint, show 57 - 2 = 55 from rfl, ln_cut hi]
  have hT6 : TS ns (μ5 ++ [.lst (vint (lnN (sgD V) a))]) := ts_app hT5 (soOk_dats _ (dint (lnN (sgD V) a)))
  generalize μ5 ++ [SO.lst (vint (lnN (sgD V) a))] = μ6 at *
  have hT7 : TS ns (μ6 ++ [.lst (vint (chunk (sgD V) a))]) := ts_app hT6 (soOk_dats _ (dint (chunk (sgD V) a)))
  have l0 : 0 < μ6.length := by
    obtain ⟨⟨a, b, c, hp0, _⟩, _⟩ := hT6
    exact (List.getElem?_eq_some_iff.mp hp0).1
  refine wS_seq <| spoil14 (t := sgD V) (i := a) (b := μ6.length) hTd hi hT7 (by omega) get_snoc_eq fun p z μ8 hp hz hT8 hb8 => kSeq_nx ?_
  refine wS_seq <| spoil15 hn hTd hi hT8 hp hz hb8 fun x20 => kSeq_nx ?_
  obtain ⟨c, μ9, e9, hc, hm9⟩ := ts_draw (n := n) (k := 16) ((nLines (sgD V) : Nat) : Int) (by omega) hT8
  refine wS_seq <| wS_set <| wE_call <| wL_cons <| wE_var rfl <| wL_cons <| wE_app <| wL_cons <| wE_var rfl <| wL_nil <| wM_lenDL ?_
  rw [List.length_map, linesOf_len]
  refine wL_nil <| wM_of e9 <| kSeq_nx ?_
  have hS9 := hm9.1.2
  refine wS_seq <| cut17 hn hTd (show c < nLines (sgD V) by omega) hS9 <| kSeq_nx ?_
  refine wS_seq <| more18 hn hTd hS9 <| kSeq_nx ?_
  refine end19 hn hS9 (by show 22 < 23; decide) ?_
  exact ⟨_, _, fin_dat rfl (Nat.zero_le _), rfl⟩
end K54

set_option maxHeartbeats 0
namespace K54
open PySem PySem.Spec PyProof.Rows L2 EV

abbrev R : PySem.W.OpenRow := PySem.W.OpenLaw.row PySem.Challenge.rw_pleatproof_k54_whole_values_in_lines_tha
abbrev hk : PySem.W.Hook := He.hookE 5 faL fnL
def ob (s : PySem.W.SharedT) : He.Al := He.obsG 5 faL fnL (HandSHeadRun.getT s)
theorem ob_eq (s : PySem.W.SharedT) : ob s = hk.obs s.abs := He.obsG_eq (HandSHeadRun.getT_eq s)
def bnd : List Str := (["SIGNS", "DIGITS", "signs_of", "is_plain", "Reader", "value_of", "PRIME", "WIDE", "DATA", "END", "sums", "inverse", "line_of", "righted", "written", "numbers_in", "lines_of", "signs_in", "are_of_text", "text_of", "_law_mixed", "_law_rest", "_law_pool", "_law_next", "_law_draw", "_law_pick", "_law_same", "_law_different", "_law_value_drawn", "_law_signs"] : List Str) ++ (["_law_numbers", "_law_sums", "_law_line"] : List Str)
theorem run (w : World) : HandSHeadRun.RunEq R (PySem.W.view R.prog [36]) hk ob 20000 bnd w := by
  intro os
  kernel_rfl
end K54
open PySem PySem.W PySem.Calls PyProof.Rows
theorem head_K54 (hrun : ∀ ns : List Int, ns.length ≤ 63 → ∃ n μ', EV.evCall K54.pr n 20 34 [.dat (.scr ns)] [] = some (.dat (.bl true), μ')) : PySem.Challenge.rw_pleatproof_k54_whole_values_in_lines_tha.Holds := by
  w_on; o_law
  refine HandSHeadRun.head_any (r := OpenLaw.row PySem.Challenge.rw_pleatproof_k54_whole_values_in_lines_tha) (q := view (OpenLaw.row PySem.Challenge.rw_pleatproof_k54_whole_values_in_lines_tha).prog [36]) (H := K54.hk) (ob := K54.ob) (M := 20000) (loose := K54.bnd) (d := HandSHeadRun.topDef (OpenLaw.row PySem.Challenge.rw_pleatproof_k54_whole_values_in_lines_tha).prog 36) (kwd := []) K54.ob_eq
    (by kernel_rfl) (fun s => by kernel_rfl) K54.run (by kernel_rfl) (by kernel_rfl) (by kernel_rfl) (by rfl) (by first | assumption | decide +kernel) (by decide +kernel) ⟨rfl, rfl, rfl, rfl, rfl, by decide +kernel⟩ ?hw ?hc
  case hw => w_witness2
  case hc =>
    refine L2.walk_ofE (l := PySem.Challenge.rw_pleatproof_k54_whole_values_in_lines_tha) (n := 63) (k := 40) (x := "script") (CX := L2.CX0) rfl (by decide) (by kernel_rfl) ⟨rfl, by decide, by decide⟩ ?F (fun _ _ _ _ z => z)
    intro w mg fa h Y G hmg0
    obtain ⟨K, KX, c⟩ := Y
    have hmg : mg ("law" : PySem.Str) = some (.ref fa) := by
      have e : (HandSHeadRun.topDef (OpenLaw.row PySem.Challenge.rw_pleatproof_k54_whole_values_in_lines_tha).prog 36).name = ("law" : PySem.Str) := by kernel_rfl
      rw [← e]
      exact hmg0
    obtain ⟨fd, hb, hF⟩ := K54.facts (lw := PySem.Challenge.rw_pleatproof_k54_whole_values_in_lines_tha) (w := w) 19 hrun KX G hmg c
    exact ⟨K, fd, EV.spLaw K, KX, hb, fun H a ns hl _ hS => ⟨a, ns, rfl, hS, hl, fun _ => rfl⟩, hF⟩

theorem PySem.Challenge.cw_pleatproof_k54_whole_values_in_lines_tha_holds : PySem.Challenge.rw_pleatproof_k54_whole_values_in_lines_tha.Holds := by
  exact head_K54 fun ns _ => by
    obtain ⟨r, μ', e, rfl⟩ := K54.run_law 100001 ns (by decide)
    exact ⟨100001, μ', e⟩
